import PyProof.Rows.All
import Wide.All
import OpenK.AllK
import Wide.FinOn
import HandS.ForMost
import HandS.Wide
import HandS.WideBits
import HandS.IsInst
import HandS.Slots
import HandS.SlotsOwn
import HandS.Defaults
import PyProof.ReprRoads
import PySem.Challenge.RW_howmanyeach_k35_totals_far_away
set_option Elab.async false
set_option linter.all false
set_option maxRecDepth 100000
set_option maxHeartbeats 4000000
namespace G58
open L2 PyProof.Rows PySem.Spec PySem

/-- a def's promise where it is known that no repr is under way -/
structure FnG (P : Program) (w : World) (K : PySem.W.Frag) (mg : Str → Option Value) (base : Heap) (CX : CXT) (k : Nat) (f : Addr) (fd : FuncData) (ps : List Str) (sp : Sp) : Prop where
  len : ∀ vs H Q E, sp vs H Q E → vs.length = ps.length
  run : ∀ (A : Around) (outer : List Env) (s : Shared) (H : Hp) (args : Args) (us : List Value) (vs : List V) (Q : VK) (E : XK),
    A.guards = some [] → Room k A → Env0 P w K mg base A outer s H → BindsTo s fd args (ps.zip us) → Vals vs us → sp vs H Q E →
      codeAny (model P w) A (.call (.ref f) args) (CR CX outer P w H s Q E) s

section
variable {P : Program} {w : World} {K : PySem.W.Frag} {mg : Str → Option Value} {base : Heap} {CX : CXT} {j k : Nat} {f : Addr} {fd : FuncData} {ps : List Str} {sp : Sp}
theorem FnG.mono (F : FnG P w K mg base CX j f fd ps sp) (h : j ≤ k) : FnG P w K mg base CX k f fd ps sp :=
  ⟨F.len, fun A o s H ar us vs Q E g hr => F.run A o s H ar us vs Q E g (hr.mono h)⟩
theorem fnG_ok (F : FnOk P w K mg base CX k f fd ps sp) : FnG P w K mg base CX k f fd ps sp :=
  ⟨F.len, fun A o s H ar us vs Q E _ => F.run A o s H ar us vs Q E⟩
/-- the rule of a def by its body -/
theorem fnG_of {name qual : Str} {params : Arguments} {body : List Stmt} {scope : Scope} {dV kV doc pm cdv ct oc : Value} {an od : Option Addr} {osl : Array (Option Value)} {N : List Str}
    (lk : K.lookup f = some ⟨oc, od, .func (PySem.W.fnOf name qual params body scope dV kV doc pm an cdv ct), osl⟩)
    (hcd : PySem.W.codeIn K cdv qual = true) (S : FnScope N ps scope) (len : ∀ vs H Q E, sp vs H Q E → vs.length = ps.length)
    (hbody : ∀ (A : Around) (outer : List Env) (s : Shared) (H : Hp) (vs : List V) (Q : VK) (E : XK),
      A.guards = some [] → Room k (A.deeper (envOfC qual scope s.heap.objs.size f cdv)) → sp vs H Q E →
      ∃ t, PSs (cxOf CX P w K mg base N qual scope f cdv A outer s H E) body t ∧ t { nx := fun _ H' => Q .non H', rt := Q } (start N vs) H) :
    FnG P w K mg base CX (k + 1) f (PySem.W.fnOf name qual params body scope dV kV doc pm an cdv ct) ps sp where
  len := len
  run := by
    intro A outer s H args us vs Q E hg hr e0 hb r hsp
    have kept : ∀ b o, base.get? b = some o → s.heap.get? b = some o := fun b o e => (e0.bs b o e).1
    have KX : K.In s.heap := e0.mod.kin.keeps kept
    refine codeAny_call_function hr.depth (KX _ _ lk) rfl S.co S.gen rfl (PySem.W.codeRec_of KX hcd) (hb _ _ _ _ ?_)
    refine wpAny_newFunctionEnv_cells S.kind (fun y hy => ?_) ?_
    · obtain ⟨n, v⟩ := y
      cases S.par n (List.of_mem_zip hy).1 with
      | inl q => exact .inl q
      | inr q => exact .inr ⟨q, PySem.W.cellsFrom_some _ _ _ (.inl q)⟩
    · intro env he s1 x
      subst he
      refine ⟨(e0.mod.nolimit.keeps kept).keeps x.toInCall.keep, codeAny_func ?_⟩
      obtain ⟨t, ht, hq⟩ := hbody A outer s H vs Q E hg (hr.deeper _) hsp
      have I := inv_start (CX := CX) (E := E) S hr.hd e0 (len _ _ _ _ hsp) r x
      refine wpAny_mono (ht.run [] s1 (start N vs) H _ I hq) (fun fl s' hs => ?_) fun _ _ z => z
      match fl, hs with
      | .ret u, ⟨v, σ', H', J, rv, q⟩ => exact ⟨v, H', J.os, J.bare, J.base, J.hok, rv, q⟩
      | .next, ⟨σ', H', J, q⟩ => exact ⟨V.non, H', J.os, J.bare, J.base, J.hok, rfl, q⟩
      | .brk, ⟨_, _, _, q⟩ => exact False.elim q
      | .cont, ⟨_, _, _, q⟩ => exact False.elim q
/-- the same over Fun, where no exception leaves -/
theorem okG {x qual : Str} {st : Stmt} {N : List Str} (F : Fun K x qual st f fd) (S : FnScope N ps (defScope st)) (len : ∀ vs H Q E, sp vs H Q E → vs.length = ps.length)
    (hbody : ∀ (cdv : Value) (A : Around) (outer : List Env) (s : Shared) (H : Hp) (vs : List V) (Q : VK) (E : XK),
      A.guards = some [] → Room k (A.deeper (envOfC qual (defScope st) s.heap.objs.size f cdv)) → sp vs H Q E →
      ∃ t, PSs (cxOf CX0 P w K mg base N qual (defScope st) f cdv A outer s H E).nox (defBody st) t ∧ t { nx := fun _ H' => Q .non H', rt := Q } (start N vs) H) :
    FnG P w K mg base CX0 (k + 1) f fd ps sp := by
  obtain ⟨oc, od, kV, doc, pm, an, cdv, ct, osl, rfl, lk, hcd⟩ := F.ex
  exact fnG_of lk hcd S len fun A outer s H vs Q E hg hr hsp => let ⟨t, h, q⟩ := hbody cdv A outer s H vs Q E hg hr hsp; ⟨t, h.nox, q⟩
end

section
variable {X : Cx} {CX : CXT} {k : Nat} {f : Addr} {fd : FuncData} {ps : List Str} {sp : Sp} {dvs : List V} {ds : List Value} {E : XK} {x : Str} {p pos : Pos} {e : Expr} {es : List Expr} {t : TA}
theorem run_fnG {pins : List (Addr × Obj)} {σ : L2.St} {H : Hp} {s : Shared} {Q : VK} {us : List Value} {vs : List V} (F : FnG X.prog X.w X.K X.mg X.base CX k f fd ps sp) (hg : X.A.guards = some []) (hr : Room k X.A)
    (hb : Binds X.K fd ps ds) (hd : Vals dvs ds) (hx : Passes CX X E) (I : Inv X pins σ H s) (r : Vals vs us) (h : sp (vs ++ dvs) H Q E) :
    wpAny (model X.prog X.w) X.A (call (.ref f) us) (EP X pins σ Q) X.xe s := by
  have r2 := r.append hd
  have hl : (us ++ ds).length = ps.length := r2.length.symm.trans (F.len _ _ _ _ h)
  refine wpAny_call (codeAny_mono (F.run X.A X.stack s H ⟨us, []⟩ (us ++ ds) (vs ++ dvs) Q E hg hr I.env0 (hb s us I.kIn hl) r2 h) fun r s' hq => ?_)
  match r, hq with
  | .error e, hq => exact hx pins σ H s e s' I hq
  | .ok (.ret u), hq => exact I.after hq
  | .ok .next, hq => exact False.elim hq
  | .ok .brk, hq => exact False.elim hq
  | .ok .cont, hq => exact False.elim hq
/-- f(e, ..) of such a def -/
theorem pe_callG (F : FnG X.prog X.w X.K X.mg X.base CX k f fd ps sp) (hgd : X.A.guards = some []) (hr : Room k X.A) (hg : Gl X x) (hm : X.mg x = some (.ref f)) (hk : PySem.W.keepIn X.K (.ref f) = true)
    (hb : Binds X.K fd ps ds) (hd : Vals dvs ds) (hx : Passes CX X E) (ha : PA X (e :: es) t) (hdb : (x == ("__debug__" : Str)) = false := by decide)
    (he : starEach (e :: es) X.env = (false, eval e X.env) :: starEach es X.env := by rfl) (hpl : (backTo pos (starEach es X.env)).any (·.1) = false := by rfl) :
    PE X (.Call (.Name x p) (e :: es) [] pos) (tCall sp dvs E t) where
  run := fun pins s σ H Q I h => wpAny_Call_Name_kw (ld_glob I hg hm
    (PySem.W.callWith_K (h₀ := X.base) I.ok.mod.kin hk (thn (ha.run pos pins s σ H _ I h) fun us s1 z => let ⟨vs, H1, I1, r, q⟩ := z; ⟨I1.kIn, run_fnG F hgd hr hb hd hx I1 r q⟩) he hpl) hdb)
theorem pe_callG0 (F : FnG X.prog X.w X.K X.mg X.base CX k f fd ps sp) (hgd : X.A.guards = some []) (hr : Room k X.A) (hg : Gl X x) (hm : X.mg x = some (.ref f)) (hk : PySem.W.keepIn X.K (.ref f) = true)
    (hb : Binds X.K fd ps ds) (hd : Vals dvs ds) (hx : Passes CX X E) (hdb : (x == ("__debug__" : Str)) = false := by decide) :
    PE X (.Call (.Name x p) [] [] pos) (tCall sp dvs E tNil) where
  run := fun pins s σ H Q I h => wpAny_Call_Name_kw (ld_glob I hg hm (PySem.W.callWith_K0 I.kIn hk (run_fnG (us := []) F hgd hr hb hd hx I .nil h)) hdb)

/-- repr of data: its text is a function of the data alone -/
def rReprD (K : PySem.W.Frag) : List V → Hp → VK → Prop := fun xs H Q => ∃ x d, xs = [x] ∧ Dp K H x d ∧ d.showable = true ∧ d.hasDict = false ∧ d.depth ≤ 60 ∧ d.shown.length ≤ sizeLine ∧ Q (.str d.shown) H
end
end G58

set_option Elab.async false
set_option linter.all false
set_option maxRecDepth 100000
set_option maxHeartbeats 4000000
namespace G58
open L2 PyProof.Rows PySem.Spec PySem
section
variable {X : Cx}
theorem call_reprD (hg : X.A.guards = some []) (hu : X.A.units + 64 < cLine) : CallR X (.builtin "repr") (rReprD X.K) := by
  intro pins s σ H xs us Q I r h
  obtain ⟨x, d, rfl, hd, hs, hn, hp, hz, q⟩ := h
  obtain ⟨u, rfl, ru⟩ := r.one
  obtain ⟨as, rd⟩ := Dp.reads I d x u hd ru
  have big : ∀ a, u = .ref a → wpAny (model X.prog X.w) X.A (call (.builtin "repr") [u]) (EP X pins σ Q) X.xe s := by
    intro a e
    subst e
    refine repr_of_reads' rd hs (fun z => by rw [hn] at z; cases z) hg (by omega) (fun _ _ e => e) (fun h' u' tk hk => ?_) hz
    exact ⟨.str d.shown, H, I.kept hk, ⟨_, rfl⟩, q⟩
  cases hd with
  | non =>
    cases ru
    exact PySem.P.repr_of_none ⟨.str _, H, I.tok _, ⟨_, rfl⟩, q⟩
  | bl b =>
    cases ru
    exact PySem.P.repr_of_bool ⟨.str _, H, I.tok _, ⟨_, rfl⟩, q⟩
  | int i =>
    obtain ⟨t, rfl⟩ := ru
    exact PySem.P.repr_of_int (of_decide_eq_true hs) ⟨.str _, H, I.tok _, ⟨_, rfl⟩, q⟩
  | str z =>
    obtain ⟨t, rfl⟩ := ru
    exact PySem.P.repr_of_str ⟨.str _, H, I.tok _, ⟨_, rfl⟩, q⟩ hz
  | lst a b => exact big _ ru
  | tup a b => exact big _ ru
end
end G58

set_option Elab.async false
set_option linter.all false
set_option maxRecDepth 100000
set_option maxHeartbeats 4000000
namespace G58
open L2 PyProof.Rows PySem.Spec PySem
/-- the law's call from a heap in which at most the script is tracked -/
theorem callG_core {P : Program} {w : World} {K : PySem.W.Frag} {mg mb : Str → Option Value} {CX : CXT} {k : Nat} {fa a : Addr} {fd : FuncData} {x : Str} {sp : Sp} {s1 : Shared} {vs : List Value}
    (KX : K.In s1.heap) (hns : s1.heap.Ns mainGlobals mg) (hb : s1.heap.Ns builtinsNs mb) (hbb : ∀ x : Str, x ≠ "__name__" → mb x = bootBuiltins x) (hlim : s1.heap.NoLimit) (hg : s1.gens = #[])
    (ha : s1.heap.get? a = some { cls := .type "list", data := .seq vs.toArray }) (hr : Room k callerA)
    (F : ∀ base : Heap, K.In base → base.Ns mainGlobals mg → FnG P w K mg base CX k fa fd [x] sp) (hbind : ∀ (s : Shared) (u : Value), BindsTo s fd ⟨[u], []⟩ [(x, u)])
    (hCX : ∀ H e s', CX [] H s1 (fun _ _ _ => False) e s' → False)
    (H : Hp) (hO : Only H) (hok : HOk P w H s1.heap) (hA : ∀ b, H b ≠ none → b = a) (hK : H a ≠ none → K.lookup a = none)
    (hsp : sp [.ref a] H (fun v _ => v = .bl true) fun _ _ _ => False) :
    codeAny (model P w) callerA (.call (.ref fa) ⟨[.ref a], []⟩) (fun r s' => r = .ok (.ret (.bool true)) ∧ OldK s1.heap s'.heap ∧ s'.os = s1.os ∧ AllBare s'.gens) s1 := by
  have only : ∀ {b u}, H b = some u → b = a := fun {b u} z => hA b (fun n => by rw [z] at n; cases n)
  have free : ∀ {b : Addr} {o : Obj} {es : Array DictEntry} {ep : Nat}, s1.heap.get? b = some o → o.data = .dict es ep → H b = none := by
    intro b o es ep e d
    match q : H b with
    | none => rfl
    | some u =>
      have z := only q
      subst z
      rw [ha] at e
      injection e with e
      subst e
      injection d
  have nsB : ∀ {b : Addr} {m : Str → Option Value}, s1.heap.Ns b m → (hidT s1.heap H).Ns b m := by
    rintro b m ⟨o, es, ep, e, d, r⟩
    exact ⟨o, es, ep, hidT_get e (free e d), d, r⟩
  have inB : K.In (hidT s1.heap H) := by
    intro b o e
    refine hidT_get (KX b o e) ?_
    match q : H b with
    | none => rfl
    | some u =>
      have z := only q
      subst z
      rw [hK (by rw [q]; exact fun n => nomatch n)] at e
      cases e
  have e0 : Env0 P w K mg (hidT s1.heap H) callerA [] s1 H :=
    ⟨rfl, ⟨inB, nsB hns, ⟨mb, nsB hb, hbb⟩, let ⟨mc, z1, z2⟩ := hlim; ⟨mc, nsB z1, z2⟩⟩, fun _ _ e => of_hidT e, Nat.le_of_eq (hidT_size _ _), trivial, (fun _ z => (List.not_mem_nil z).elim), hok, .of_eq hg⟩
  refine codeAny_mono ((F _ inB (nsB hns)).run callerA [] s1 H ⟨[.ref a], []⟩ [.ref a] [.ref a] _ _ rfl hr e0 (hbind s1 (.ref a)) (.cons rfl .nil) hsp) fun r s' h => ?_
  match r, h with
  | .error e, h => exact (hCX H e s' h).elim
  | .ok .next, h => exact False.elim h
  | .ok .brk, h => exact False.elim h
  | .ok .cont, h => exact False.elim h
  | .ok (.ret u), ⟨v, H', os, bare, un, hok', r', q⟩ =>
    have q' : v = .bl true := q
    subst q'
    have r'' : u = Value.bool true := r'
    subst r''
    refine ⟨rfl, OldK.of_keep fun b o e => ?_, os, bare⟩
    match z : H b with
    | none => exact un.keep b o e z (fun n => (List.not_mem_nil n).elim) (fun n => (List.not_mem_nil n).elim)
    | some u =>
      cases hO b with
      | inl n => rw [z] at n; cases n
      | inr n =>
        obtain ⟨ob, ys, n⟩ := n
        obtain ⟨e1, _⟩ := hok b _ n
        obtain ⟨e2, _⟩ := hok' b _ (un.frzs b ob _ n)
        rw [e] at e1
        cases e1
        exact e2
/-- the law's call -/
theorem callG {P : Program} {w : World} {K : PySem.W.Frag} {mg mb : Str → Option Value} {CX : CXT} {k : Nat} {fa a : Addr} {fd : FuncData} {x : Str} {sp : Sp} {s1 : Shared} {vs : List Value} {ns : List Int}
    (KX : K.In s1.heap) (hns : s1.heap.Ns mainGlobals mg) (hb : s1.heap.Ns builtinsNs mb) (hbb : ∀ x : Str, x ≠ "__name__" → mb x = bootBuiltins x) (hlim : s1.heap.NoLimit) (hg : s1.gens = #[])
    (ha : s1.heap.get? a = some { cls := .type "list", data := .seq vs.toArray }) (hi : IntsAre vs ns) (hl : ns.length ≤ sizeLine) (hr : Room k callerA)
    (F : ∀ base : Heap, K.In base → base.Ns mainGlobals mg → FnG P w K mg base CX k fa fd [x] sp) (hbind : ∀ (s : Shared) (u : Value), BindsTo s fd ⟨[u], []⟩ [(x, u)])
    (hsp : ∀ H : Hp, Only H → SqL K H a (ns.map V.int) → sp [.ref a] H (fun v _ => v = .bl true) fun _ _ _ => False)
    (hCX : ∀ H e s', CX [] H s1 (fun _ _ _ => False) e s' → False) :
    codeAny (model P w) callerA (.call (.ref fa) ⟨[.ref a], []⟩) (fun r s' => r = .ok (.ret (.bool true)) ∧ OldK s1.heap s'.heap ∧ s'.os = s1.os ∧ AllBare s'.gens) s1 := by
  have core := callG_core KX hns hb hbb hlim hg ha hr F hbind hCX
  have rv := vals_ints hi
  match hk : K.lookup a with
  | some o =>
    have e := KX a o hk
    rw [ha] at e
    injection e with e
    subst e
    have only : Only fun _ => none := fun _ => .inl rfl
    refine core (fun _ => none) only (fun _ _ z => nomatch z) (fun _ z => absurd rfl z) (fun z => absurd rfl z) (hsp _ only (.inr ⟨_, vs.toArray, _, hk, rfl, rfl, rfl, ?_, by simpa using rv⟩))
    rw [List.size_toArray, hi.length]
    exact hl
  | none =>
    have at1 : ∀ b, (fun b => if b = a then some (HO.frz { cls := .type "list", data := .seq vs.toArray } (.lst (ns.map V.int))) else none : Hp) b ≠ none → b = a := by
      intro b z
      by_cases q : b = a
      · exact q
      · exact absurd (if_neg q) z
    have only : Only fun b => if b = a then some (HO.frz { cls := .type "list", data := .seq vs.toArray } (.lst (ns.map V.int))) else none := by
      intro b
      by_cases q : b = a
      · exact .inr ⟨_, _, if_pos q⟩
      · exact .inl (if_neg q)
    refine core _ only (fun b u z => ?_) at1 (fun _ => hk) (hsp _ only (.inl (.inr ⟨_, if_pos rfl⟩)))
    have q := at1 b (fun n => nomatch (z.symm.trans n))
    subst q
    have z2 := (if_pos rfl).symm.trans z
    injection z2 with z2
    subst z2
    exact ⟨ha, by rw [List.length_map]; exact hl, vs, _, rv, ha⟩
/-- what the head leaves, from the law's promise -/
theorem walkG {l : PySem.W.OpenLaw} {n k : Nat} {q : Program} {loose : List Str} {XP : (Str → Option Value) → Heap → Prop} {YP : World → Heap → Prop} {d : DefRec} {K : Params → PySem.W.Frag} {sp : PySem.W.Frag → Sp} {x : Str}
    (hn : l.most = some n) (hn2 : n ≤ sizeLine) (hdf : d.params.defaults = []) (hr : Room k callerA) (hY : ∀ (w : World) (h : Heap), YP w h → (K w.params).In h)
    (F : ∀ (w : World) (mg : Str → Option Value) (fa : Addr) (h : Heap), (K w.params).In h → h.Ns mainGlobals mg → mg d.name = some (.ref fa) →
      ∃ fd : FuncData, (∀ (s : Shared) (u : Value), BindsTo s fd ⟨[u], []⟩ [(x, u)]) ∧
        ∀ base : Heap, (K w.params).In base → base.Ns mainGlobals mg → FnG l.prog w (K w.params) mg base CX0 k fa fd [x] (sp (K w.params)))
    (hsp : ∀ (K : PySem.W.Frag) (H : Hp) (a : Addr) (ns : List Int), ns.length ≤ n → Only H → SqL K H a (ns.map V.int) → sp K [.ref a] H (fun v _ => v = .bl true) fun _ _ _ => False) :
    PySem.W.WalkO q loose XP YP l.row.toRowW d [] (fun f vs => PySem.call f vs) := by
  refine Att.attach_call hn hdf ?_
  intro w s0 s1 mg mb fa o pm cd doc a vs ns G Y ho hd hcd hmg hobj hints hlen hg
  have KX := hY w _ Y
  obtain ⟨fd, hb, hF⟩ := F w mg fa _ KX G.T.g hmg
  exact callG KX G.T.g G.T.b G.T.builtins G.T.nolimit hg hobj hints (Nat.le_trans hlen hn2) hr hF hb (fun H hO hS => hsp _ H a ns hlen hO hS) fun _ _ _ z => z
end G58

set_option Elab.async false
set_option linter.all false
set_option maxRecDepth 100000
set_option maxHeartbeats 4000000
namespace G58
open L2 PyProof.Rows PySem.Spec PySem
/-- a def of the module by its name, and what it promises -/
structure Dn (P : Program) (w : World) (K : PySem.W.Frag) (mg : Str → Option Value) (base : Heap) (k : Nat) (x : Str) (sp : Sp) : Prop where
  ex : ∃ (f : Addr) (fd : FuncData) (ps : List Str), mg x = some (.ref f) ∧ PySem.W.keepIn K (.ref f) = true ∧ Binds K fd ps [] ∧ FnOk P w K mg base CX0 k f fd ps sp
structure DnG (P : Program) (w : World) (K : PySem.W.Frag) (mg : Str → Option Value) (base : Heap) (k : Nat) (x : Str) (sp : Sp) : Prop where
  ex : ∃ (f : Addr) (fd : FuncData) (ps : List Str), mg x = some (.ref f) ∧ PySem.W.keepIn K (.ref f) = true ∧ Binds K fd ps [] ∧ FnG P w K mg base CX0 k f fd ps sp
section
variable {X : Cx} {k : Nat} {sp : Sp} {x : Str} {p pos : Pos} {e : Expr} {es : List Expr} {t : TA}
theorem pe_cl (D : Dn X.prog X.w X.K X.mg X.base k x sp) (hr : Room k X.A) (ha : PA X (e :: es) t) (hg : Gl X x := by rfl) (hdb : (x == ("__debug__" : Str)) = false := by decide)
    (he : starEach (e :: es) X.env = (false, eval e X.env) :: starEach es X.env := by rfl) (hpl : (backTo pos (starEach es X.env)).any (·.1) = false := by rfl) :
    PE X (.Call (.Name x p) (e :: es) [] pos) (tCall sp [] E0 t) := by
  obtain ⟨f, fd, ps, hm, hk, hb, F⟩ := D.ex
  exact pe_call F hr hg hm hk hb .nil pass0 ha hdb he hpl
theorem pe_clG (D : DnG X.prog X.w X.K X.mg X.base k x sp) (hgd : X.A.guards = some []) (hr : Room k X.A) (ha : PA X (e :: es) t) (hg : Gl X x := by rfl) (hdb : (x == ("__debug__" : Str)) = false := by decide)
    (he : starEach (e :: es) X.env = (false, eval e X.env) :: starEach es X.env := by rfl) (hpl : (backTo pos (starEach es X.env)).any (·.1) = false := by rfl) :
    PE X (.Call (.Name x p) (e :: es) [] pos) (tCall sp [] E0 t) := by
  obtain ⟨f, fd, ps, hm, hk, hb, F⟩ := D.ex
  exact pe_callG F hgd hr hg hm hk hb .nil pass0 ha hdb he hpl
end
/-! steps of a reading -/
section
variable {σ : L2.St} {H : Hp} {i j : Nat} {v x y : V} {ta tb te tc : TE} {c d : TT} {Q : VK} {QT : Bool → Hp → Prop} {QA : List V → Hp → Prop} {tl : TA} {nx bk ct : L2.St → Hp → Prop} {rt : VK} {t1 t2 : TS} {D : Ends}
theorem i_var (h : σ[i]? = some (some v)) (q : Q v H) : tVar i σ H Q := ⟨v, h, q⟩
theorem i_c (q : Q v H) : tC v σ H Q := q
theorem i_op {r : R2} (h : ta σ H fun x H1 => tb σ H1 fun y H2 => r x y H2 Q) : tOp r ta tb σ H Q := h
theorem i_un {r : V → Hp → VK → Prop} (h : ta σ H fun x H1 => r x H1 Q) : tUn r ta σ H Q := h
theorem i_I0 {g : Int → Int → V} {a b : Int} (q : Q (g a b) H) : rI0 g (.int a) (.int b) H Q := ⟨a, b, rfl, rfl, q⟩
theorem i_I {C : Int → Int → Prop} {g : Int → Int → V} {a b : Int} (hc : C a b) (q : Q (g a b) H) : rI C g (.int a) (.int b) H Q := ⟨a, b, rfl, rfl, hc, q⟩
theorem i_U {g : Int → V} {a : Int} (q : Q (g a) H) : rU g (.int a) H Q := ⟨a, rfl, q⟩
theorem i_eq (h : scal x y = true) (q : Q (.bl (decide (x = y))) H) : rEq x y H Q := ⟨h, q⟩
theorem i_ne (h : scal x y = true) (q : Q (.bl (!decide (x = y))) H) : rNe x y H Q := ⟨h, q⟩
theorem i_isN (h : ta σ H fun x H1 => Q (.bl (decide (x = .non))) H1) : tIsN ta σ H Q := h
theorem i_notN (h : ta σ H fun x H1 => Q (.bl (!decide (x = .non))) H1) : tNotN ta σ H Q := h
theorem i_B (h : ta σ H fun x H1 => ∃ c, x = .bl c ∧ QT c H1) : tB ta σ H QT := h
theorem i_test (h : ta σ H fun x H1 => ∃ c, x = .bl c ∧ QT c H1) : tTest ta σ H QT := h
theorem i_bl {b : Bool} {R : Bool → Prop} (q : R b) : ∃ c, V.bl b = .bl c ∧ R c := ⟨b, rfl, q⟩
theorem i_and (h : c σ H fun b H1 => if b = true then d σ H1 QT else QT false H1) : tAnd c d σ H QT := h
theorem i_or (h : c σ H fun b H1 => if b = true then QT true H1 else d σ H1 QT) : tOr c d σ H QT := h
theorem i_not (h : c σ H fun b H1 => QT (!b) H1) : tNot c σ H QT := h
theorem i_andV (h : ta σ H fun x H1 => ∃ c, x = .bl c ∧ if c = true then tb σ H1 Q else Q (.bl false) H1) : tAndV ta tb σ H Q := h
theorem i_orV (h : ta σ H fun x H1 => ∃ c, x = .bl c ∧ if c = true then Q (.bl true) H1 else tb σ H1 Q) : tOrV ta tb σ H Q := h
theorem i_notV (h : ta σ H fun x H1 => ∃ c, x = .bl c ∧ Q (.bl (!c)) H1) : tNotV ta σ H Q := h
theorem i_if (h : c σ H fun b H1 => if b = true then ta σ H1 Q else tb σ H1 Q) : tIf c ta tb σ H Q := h
theorem i_nil (q : QA [] H) : tNil σ H QA := q
theorem i_cons (h : ta σ H fun x H1 => tl σ H1 fun xs H2 => QA (x :: xs) H2) : tCons ta tl σ H QA := h
theorem i_cb {r : List V → Hp → VK → Prop} (h : tl σ H fun vs H1 => r vs H1 Q) : tCB r tl σ H Q := h
theorem i_call {sp : Sp} {E : XK} (h : tl σ H fun vs H1 => sp (vs ++ []) H1 Q E) : tCall sp [] E tl σ H Q := h
/-- a new object, told by what stays -/
abbrev New (H : Hp) (o : HO) (Q : VK) : Prop := ∀ p H', H p = none → Same H H' → H' p = some o → Q (.ref p) H'
theorem same_new {o : HO} {p : Addr} (n : H p = none) : Same H (upd H p o) := fun b o e => by rw [upd_ne (ne_of_none e n)]; exact e
theorem New.to {o : HO} (k : New H o Q) : ∀ p, H p = none → Q (.ref p) (upd H p o) := fun p n => k p _ n (same_new n) upd_same
abbrev NewS (xs : List V) (H : Hp) (o : HO) (Q : VK) : Prop := xs.length ≤ sizeLine ∧ New H o Q
/-- a reading of arguments, made monotone in what follows -/
def moA (t : TA) : TA := fun σ H Q' => ∃ Q0, t σ H Q0 ∧ ∀ vs H1, Q0 vs H1 → Q' vs H1
def tTupN (t : TA) : TE := tTup (moA t)
def tLstN (t : TA) : TE := tLst (moA t)
theorem i_tup (h : tl σ H fun xs H1 => NewS xs H1 (.tup xs) Q) : tTupN tl σ H Q := ⟨_, h, fun _ _ z => ⟨z.1, z.2.to⟩⟩
theorem i_lst (h : tl σ H fun xs H1 => NewS xs H1 (.lst xs) Q) : tLstN tl σ H Q := ⟨_, h, fun _ _ z => ⟨z.1, z.2.to⟩⟩
theorem i_new {o : HO} {xs : List V} (h : decide (xs.length ≤ 1000) = true) (k : New H o Q) : NewS xs H o Q := ⟨Nat.le_trans (of_decide_eq_true h) (by decide), k⟩
def rDm : List V → Hp → VK → Prop := fun xs H Q => ∃ a b, xs = [.int a, .int b] ∧ 0 < b ∧ b.natAbs.log2 < 9000 ∧ New H (.tup [.int (a / b), .int (a % b)]) Q
theorem i_seq (h : t1 (Ends.mk (t2 (Ends.mk nx rt bk ct)) rt bk ct) σ H) : tSeq t1 t2 (Ends.mk nx rt bk ct) σ H := h
theorem i_set (h : te σ H fun x H1 => nx (σ.set i (some x)) H1) : tAsg te (gName i) (Ends.mk nx rt bk ct) σ H := h
theorem i_asg {g : TG} (h : te σ H fun x H1 => g x σ H1 nx) : tAsg te g (Ends.mk nx rt bk ct) σ H := h
theorem i_par (h : tl σ H fun vs H1 => ∃ v w, vs = [v, w] ∧ nx ((σ.set i (some v)).set j (some w)) H1) : tPar i j tl (Ends.mk nx rt bk ct) σ H := h
theorem i_par2 {y : V} {R : V → V → Prop} (q : R x y) : ∃ v w, [x, y] = [v, w] ∧ R v w := ⟨x, y, rfl, q⟩
theorem i_drop (h : te σ H fun _ H1 => nx σ H1) : tDrop te (Ends.mk nx rt bk ct) σ H := h
theorem i_ret (h : te σ H rt) : tRet te (Ends.mk nx rt bk ct) σ H := h
theorem i_retN (h : rt .non H) : tRetN (Ends.mk nx rt bk ct) σ H := h
theorem i_next (h : nx σ H) : tNext (Ends.mk nx rt bk ct) σ H := h
theorem i_ifS (h : c σ H fun b H1 => if b = true then t1 D σ H1 else t2 D σ H1) : tIfS c t1 t2 D σ H := h
theorem i_iteT {A B : Prop} (h : A) : if true = true then A else B := iteT h
theorem i_iteF {A B : Prop} (h : B) : if false = true then A else B := iteF h
/-- new objects, told by what stays -/
theorem newO0 {o : HO} {Q : Addr → Hp → Prop} (k : ∀ p H', H p = none → Same H H' → H' p = some o → (∀ b, b ≠ p → H' b = H b) → Q p H') : ∀ p, H p = none → Q p (upd H p o) := fun p n =>
  k p _ n (fun b o e => by rw [upd_ne (ne_of_none e n)]; exact e) upd_same fun b h => upd_ne h
theorem i_len2 {xs : List V} {A : Prop} (h : xs.length ≤ 1000) (a : A) : xs.length ≤ sizeLine ∧ A := ⟨Nat.le_trans h (by decide), a⟩
end
theorem i_isi {K : PySem.W.Frag} {H : Hp} {Q : VK} {x c : V} {t u : Value} {b : Bool} (k : ClsV c u) (ty : TyX K H x t) (e : PySem.W.kitOne K t u = some b) (q : Q (.bl b) H) : rIsi K [x, c] H Q := ⟨x, c, t, u, b, rfl, k, ty, e, q⟩
section
variable {K : PySem.W.Frag} {H : Hp} {Q : VK} {i : Int}
theorem i_isiII (q : Q (.bl true) H) : rIsi K [.int i, .ty "int"] H Q := i_isi (.ty _) (.base (.int i)) (kit_ty (by decide +kernel)) q
theorem i_isiIB (q : Q (.bl false) H) : rIsi K [.int i, .ty "bool"] H Q := i_isi (.ty _) (.base (.int i)) (kit_ty (by decide +kernel)) q
theorem i_nT {A B : Prop} (h : B) : if (!true) = true then A else B := iteF h
theorem i_nF {A B : Prop} (h : A) : if (!false) = true then A else B := iteT h
end
section
variable {X : Cx} {es : List Expr} {t : TA} {pos : Pos}
theorem pa_mo (h : PA X es t) : PA X es (moA t) := ⟨fun pos pins s σ H Q I z => let ⟨Q0, h0, k⟩ := z; thn (h.run pos pins s σ H Q0 I h0) fun us s1 y => let ⟨vs, H1, I1, r, q⟩ := y; ⟨vs, H1, I1, r, k _ _ q⟩⟩
theorem pe_tupN {x1} (h : PA X es t) : PE X (.Tuple es x1 pos) (tTupN t) := pe_tup (pa_mo h)
theorem pe_lstN (h : PA X es t) : PE X (.List es pos) (tLstN t) := pe_lst (pa_mo h)
theorem call_dm : CallR X (.builtin "divmod") rDm := fun pins s σ H xs us Q I r h => let ⟨a, b, e, h1, h2, k⟩ := h; call_divmodW pins s σ H xs us Q I r ⟨a, b, e, ⟨h1, PyProof.noPylong_of_log2 h2⟩, k.to⟩
end
/-! values in the form of built-in calls -/
section
variable {K : PySem.W.Frag} {σ : L2.St} {H : Hp} {Q : VK} {a b : Int} {p : Addr} {xs : List V} {v : V}
theorem i_ex1 {R : Int → Prop} (q : R a) : ∃ i, [V.int a] = [V.int i] ∧ R i := ⟨a, rfl, q⟩
theorem i_ex2 {R : Int → Int → Prop} (q : R a b) : ∃ i j, [V.int a, V.int b] = [V.int i, V.int j] ∧ R i j := ⟨a, b, rfl, q⟩
theorem i_toI {R : Int → Prop} {R' : Bool → Prop} (q : R a) : (∃ i, [V.int a] = [V.int i] ∧ R i) ∨ ∃ k, [V.int a] = [V.bl k] ∧ R' k := .inl ⟨a, rfl, q⟩
theorem i_toB {R : Int → Prop} {R' : Bool → Prop} {c : Bool} (q : R' c) : (∃ i, [V.bl c] = [V.int i] ∧ R i) ∨ ∃ k, [V.bl c] = [V.bl k] ∧ R' k := .inr ⟨c, rfl, q⟩
theorem i_lenL {R : List V → Prop} (h : SqL K H p xs) (q : R xs) : ∃ p' ys, [V.ref p] = [V.ref p'] ∧ (SqL K H p' ys ∨ SqT K H p' ys) ∧ R ys := ⟨p, xs, rfl, .inl h, q⟩
theorem i_ixL {i : Int} (h : SqL K H p xs) (ha : atI xs i = some v) (q : Q v H) : rIxL K (.ref p) (.int i) H Q := ⟨p, xs, i, v, rfl, rfl, h, ha, q⟩
theorem i_ixT {i : Int} (h : SqT K H p xs) (ha : atI xs i = some v) (q : Q v H) : rIxT K (.ref p) (.int i) H Q := ⟨p, xs, i, v, rfl, rfl, h, ha, q⟩
theorem i_mulR {g : Int → Int → V} (h : (-(2 ^ 64) < b ∧ b < 2 ^ 64)) (q : Q (g a b) H) : rI CMul g (.int a) (.int b) H Q := i_I (.inr h) q
theorem i_mulL {g : Int → Int → V} (h : (-(2 ^ 64) < a ∧ a < 2 ^ 64)) (q : Q (g a b) H) : rI CMul g (.int a) (.int b) H Q := i_I (.inl h) q
theorem i_mod {g : Int → Int → V} (h : 0 < b) (q : Q (g a b) H) : rI (fun _ j => 0 < j) g (.int a) (.int b) H Q := i_I h q
theorem i_div {g : Int → Int → V} (h : 0 < b ∧ b < 1073741824) (q : Q (g a b) H) : rI CDiv g (.int a) (.int b) H Q := i_I h q
theorem i_gtup {n : Nat} {t : TGs} {R : L2.St → Hp → Prop} (h : SqT K H p xs) (l : xs.length = n) (q : t xs σ H R) : gTup K n t (.ref p) σ H R := ⟨p, xs, rfl, h, l, q⟩
theorem i_gcons {t : TG} {u : TGs} {r : List V} {R : L2.St → Hp → Prop} (q : t v σ H fun σ' H' => u r σ' H' R) : gCons t u (v :: r) σ H R := ⟨v, r, rfl, q⟩
theorem i_gnil {R : L2.St → Hp → Prop} (q : R σ H) : gNil [] σ H R := ⟨rfl, q⟩
theorem i_gname {i : Nat} {R : L2.St → Hp → Prop} (q : R (σ.set i (some v)) H) : gName i v σ H R := q
theorem i_gsub {to ti : TE} {t : TSet} {R : L2.St → Hp → Prop} (q : to σ H fun o H1 => ti σ H1 fun i H2 => t o i v H2 fun H3 => R σ H3) : gSub to ti t v σ H R := q
theorem i_setL {k : Int} {j : Nat} {R : Hp → Prop} (h : H p = some (.lst xs)) (e : ixN xs.length k = some j) (q : R (upd H p (.lst (xs.set j v)))) : rSetL (.ref p) (.int k) v H R := ⟨p, xs, k, j, rfl, rfl, h, e, q⟩
end
theorem i_p10_4 {H : Hp} {Q : VK} (q : Q (.int 10000) H) : rI CPow (fun i j => .int (i ^ j.toNat)) (.int 10) (.int 4) H Q := i_I ⟨by decide, by decide, by decide⟩ (show Q (.int ((10 : Int) ^ (4 : Int).toNat)) H by rw [show ((10 : Int) ^ (4 : Int).toNat) = 10000 from by decide +kernel]; exact q)
theorem i_p10_9 {H : Hp} {Q : VK} (q : Q (.int 1000000000) H) : rI CPow (fun i j => .int (i ^ j.toNat)) (.int 10) (.int 9) H Q := i_I ⟨by decide, by decide, by decide⟩ (show Q (.int ((10 : Int) ^ (9 : Int).toNat)) H by rw [show ((10 : Int) ^ (9 : Int).toNat) = 1000000000 from by decide +kernel]; exact q)
theorem i_p10_18 {H : Hp} {Q : VK} (q : Q (.int 1000000000000000000) H) : rI CPow (fun i j => .int (i ^ j.toNat)) (.int 10) (.int 18) H Q := i_I ⟨by decide, by decide, by decide⟩ (show Q (.int ((10 : Int) ^ (18 : Int).toNat)) H by rw [show ((10 : Int) ^ (18 : Int).toNat) = 1000000000000000000 from by decide +kernel]; exact q)
theorem i_p10_20 {H : Hp} {Q : VK} (q : Q (.int 100000000000000000000) H) : rI CPow (fun i j => .int (i ^ j.toNat)) (.int 10) (.int 20) H Q := i_I ⟨by decide, by decide, by decide⟩ (show Q (.int ((10 : Int) ^ (20 : Int).toNat)) H by rw [show ((10 : Int) ^ (20 : Int).toNat) = 100000000000000000000 from by decide +kernel]; exact q)
theorem i_p10_30 {H : Hp} {Q : VK} (q : Q (.int 1000000000000000000000000000000) H) : rI CPow (fun i j => .int (i ^ j.toNat)) (.int 10) (.int 30) H Q := i_I ⟨by decide, by decide, by decide⟩ (show Q (.int ((10 : Int) ^ (30 : Int).toNat)) H by rw [show ((10 : Int) ^ (30 : Int).toNat) = 1000000000000000000000000000000 from by decide +kernel]; exact q)
theorem i_p10_40 {H : Hp} {Q : VK} (q : Q (.int 10000000000000000000000000000000000000000) H) : rI CPow (fun i j => .int (i ^ j.toNat)) (.int 10) (.int 40) H Q := i_I ⟨by decide, by decide, by decide⟩ (show Q (.int ((10 : Int) ^ (40 : Int).toNat)) H by rw [show ((10 : Int) ^ (40 : Int).toNat) = 10000000000000000000000000000000000000000 from by decide +kernel]; exact q)
theorem i_p10_58 {H : Hp} {Q : VK} (q : Q (.int 10000000000000000000000000000000000000000000000000000000000) H) : rI CPow (fun i j => .int (i ^ j.toNat)) (.int 10) (.int 58) H Q := i_I ⟨by decide, by decide, by decide⟩ (show Q (.int ((10 : Int) ^ (58 : Int).toNat)) H by rw [show ((10 : Int) ^ (58 : Int).toNat) = 10000000000000000000000000000000000000000000000000000000000 from by decide +kernel]; exact q)
theorem i_p10_60 {H : Hp} {Q : VK} (q : Q (.int 1000000000000000000000000000000000000000000000000000000000000) H) : rI CPow (fun i j => .int (i ^ j.toNat)) (.int 10) (.int 60) H Q := i_I ⟨by decide, by decide, by decide⟩ (show Q (.int ((10 : Int) ^ (60 : Int).toNat)) H by rw [show ((10 : Int) ^ (60 : Int).toNat) = 1000000000000000000000000000000000000000000000000000000000000 from by decide +kernel]; exact q)
theorem i_p10_61 {H : Hp} {Q : VK} (q : Q (.int 10000000000000000000000000000000000000000000000000000000000000) H) : rI CPow (fun i j => .int (i ^ j.toNat)) (.int 10) (.int 61) H Q := i_I ⟨by decide, by decide, by decide⟩ (show Q (.int ((10 : Int) ^ (61 : Int).toNat)) H by rw [show ((10 : Int) ^ (61 : Int).toNat) = 10000000000000000000000000000000000000000000000000000000000000 from by decide +kernel]; exact q)
theorem i_p10_64 {H : Hp} {Q : VK} (q : Q (.int 10000000000000000000000000000000000000000000000000000000000000000) H) : rI CPow (fun i j => .int (i ^ j.toNat)) (.int 10) (.int 64) H Q := i_I ⟨by decide, by decide, by decide⟩ (show Q (.int ((10 : Int) ^ (64 : Int).toNat)) H by rw [show ((10 : Int) ^ (64 : Int).toNat) = 10000000000000000000000000000000000000000000000000000000000000000 from by decide +kernel]; exact q)
/-! heaps -/
/-- all but the object at p is as it was -/
def Ext (p : Addr) (H H' : Hp) : Prop := ∀ b o, b ≠ p → H b = some o → H' b = some o
theorem Ext.refl (p : Addr) (H : Hp) : Ext p H H := fun _ _ _ h => h
theorem Ext.trans {p : Addr} {H H1 H2 : Hp} (a : Ext p H H1) (b : Ext p H1 H2) : Ext p H H2 := fun c o n h => b c o n (a c o n h)
theorem Ext.same {p : Addr} {H H' : Hp} (s : Same H H') : Ext p H H' := fun b o _ h => s b o h
theorem Ext.put {p : Addr} {H : Hp} {o : HO} : Ext p H (L2.upd H p o) := fun b _ n h => by rw [upd_ne n]; exact h
theorem Ext.tup {p t : Addr} {H H' : Hp} {xs ys : List V} (e : Ext p H H') (hp : H p = some (.lst ys)) (h : H t = some (.tup xs)) : H' t = some (.tup xs) :=
  e t _ (fun z => by rw [z, hp] at h; cases h) h
theorem Same.new {H : Hp} {p : Addr} {o : HO} (n : H p = none) : Same H (L2.upd H p o) := fun b o e => by rw [upd_ne (ne_of_none e n)]; exact e
theorem Same.tup {K : PySem.W.Frag} {H H' : Hp} {a : Addr} {xs : List V} (e : Same H H') (h : SqT K H a xs) : SqT K H' a xs := by
  rcases h with (h | ⟨o, h⟩) | h
  · exact .inl (.inl (e _ _ h))
  · exact .inl (.inr ⟨o, e _ _ h⟩)
  · exact .inr h
theorem abs_eq (i : Int) : (if i < 0 then -i else i) = (i.natAbs : Int) := by split <;> omega
theorem i_setH {H : Hp} {p : Addr} {xs ys : List V} {v : V} {k : Int} {j : Nat} {R : Hp → Prop} (h : H p = some (.lst xs)) (e : ixN xs.length k = some j) (ey : xs.set j v = ys)
    (q : ∀ H', Ext p H H' → H' p = some (.lst ys) → R H') : rSetL (.ref p) (.int k) v H R := i_setL h e (q _ Ext.put (by rw [ey]; exact upd_same))
theorem atI_in {α : Type} {xs : List α} {d : Int} (h0 : 0 ≤ d) (h : d.toNat < xs.length) : atI xs d = some (xs[d.toNat]'h) := by
  have e : ((d.toNat : Nat) : Int) = d := by omega
  have z := atI_nat (xs := xs) (j := d.toNat) (v := xs[d.toNat]'h) (List.getElem?_eq_getElem h)
  rw [e] at z
  exact z
/-! an if by the answer of its test -/
section
variable {σ : L2.St} {H : Hp} {c : TT} {t1 t2 : TS} {D : Ends} {ta tb : TE} {Q : VK}
theorem i_ifT (b : Bool) (h : ∀ QT : Bool → Hp → Prop, QT b H → c σ H QT) (h1 : b = true → t1 D σ H) (h2 : b = false → t2 D σ H) : tIfS c t1 t2 D σ H := by
  refine h _ ?_
  cases b with
  | true => exact iteT (h1 rfl)
  | false => exact iteF (h2 rfl)
theorem i_ifE (b : Bool) (h : ∀ QT : Bool → Hp → Prop, QT b H → c σ H QT) (h1 : b = true → ta σ H Q) (h2 : b = false → tb σ H Q) : tIf c ta tb σ H Q := by
  refine h _ ?_
  cases b with
  | true => exact iteT (h1 rfl)
  | false => exact iteF (h2 rfl)
/-- the same where the test leaves new objects -/
theorem i_ifN (b : Bool) (h : ∀ QT : Bool → Hp → Prop, (∀ H', Same H H' → QT b H') → c σ H QT) (h1 : b = true → ∀ H', Same H H' → t1 D σ H') (h2 : b = false → ∀ H', Same H H' → t2 D σ H') : tIfS c t1 t2 D σ H := by
  refine h _ fun H' s => ?_
  cases b with
  | true => exact iteT (h1 rfl H' s)
  | false => exact iteF (h2 rfl H' s)
end
section
variable {K : PySem.W.Frag} {σ : L2.St} {H : Hp} {c : TT} {t1 t2 : TS} {nx bk ct : L2.St → Hp → Prop} {rt : VK} {Q : VK} {l : Addr} {xs : List V} {y : V}
/-- an if whose ways meet -/
theorem i_ifJ (b : Bool) (R : Hp → Prop) (h : ∀ QT : Bool → Hp → Prop, QT b H → c σ H QT) (h1 : b = true → ∀ nx', (∀ H', R H' → nx' σ H') → t1 (Ends.mk nx' rt bk ct) σ H)
    (h2 : b = false → ∀ nx', (∀ H', R H' → nx' σ H') → t2 (Ends.mk nx' rt bk ct) σ H) (k : ∀ H', R H' → nx σ H') : tIfS c t1 t2 (Ends.mk nx rt bk ct) σ H :=
  i_ifT b h (fun e => h1 e nx k) (fun e => h2 e nx k)
theorem i_bm {T : String} {r : V → List V → Hp → VK → Prop} {to : TE} {t : TA} (h : to σ H fun x H1 => tyV K T x H1 ∧ t σ H1 fun xs H2 => r x xs H2 Q) : tBM K T r to t σ H Q := h
theorem i_bm0 {T : String} {r : V → List V → Hp → VK → Prop} {to : TE} (h : to σ H fun x H1 => tyV K T x H1 ∧ r x [] H1 Q) : tBM0 K T r to σ H Q := h
theorem i_tyL {A : Prop} (h : H l = some (.lst xs)) (k : A) : tyV K "list" (.ref l) H ∧ A := ⟨.inl ⟨rfl, _, SqL.of h⟩, k⟩
theorem i_append (h : H l = some (.lst xs)) (hz : xs.length ≤ 1000) (q : ∀ H', Ext l H H' → H' l = some (.lst (xs ++ [y])) → Q .non H') : rAppend (.ref l) [y] H Q :=
  ⟨l, xs, y, rfl, rfl, h, Nat.lt_of_le_of_lt hz (by decide), q _ Ext.put upd_same⟩
theorem i_extend {b : Addr} {zs : List V} (h : H l = some (.lst xs)) (hb : H b = some (.lst zs)) (hz : xs.length + zs.length ≤ 1000) (q : ∀ H', Ext l H H' → H' l = some (.lst (xs ++ zs)) → Q .non H') : rExtend (.ref l) [.ref b] H Q :=
  ⟨l, b, xs, zs, rfl, rfl, h, hb, Nat.le_trans hz (by decide), q _ Ext.put upd_same⟩
theorem same_ext {H1 H2 : Hp} (s1 : Same H H1) (nl : H l = none) (e : Ext l H1 H2) : Same H H2 := fun b o z => e b o (ne_of_none z nl) (s1 b o z)
end
section
variable {K : PySem.W.Frag} {σ : L2.St} {H : Hp} {g : TG} {tb : TS} {D : Ends} {wi : TI} {tl : TE} {ta : TA} {R : It → Hp → Prop} {tt : TT} {te : TE} {vs : List Nat} {Q : VK}
theorem i_for {nx bk ct : L2.St → Hp → Prop} {rt : VK} (h : wi σ H fun J H1 => ∃ W : Nat → Nat → L2.St → Hp → Prop, (∃ m, W 0 m σ H1) ∧ ∀ i m σ H, W i m σ H →
  (J.stop i H ∧ nx σ H) ∨ (J.go i H ∧ ∃ N : L2.St → Hp → Prop, (∀ σ' H', N σ' H' → ∃ m', m' < m ∧ W (i + 1) m' σ' H') ∧ ∀ x H', J.yld i H x H' → g x σ H' fun σ2 H2 => tb (Ends.mk N rt nx N) σ2 H2)) : tFor wi g tb (Ends.mk nx rt bk ct) σ H := h
theorem fTup {a : Addr} {xs : List V} {nx : L2.St → Hp → Prop} {rt : VK} (Pv : Nat → L2.St → Hp → Prop) (h0 : Pv 0 σ H) (hl : ∀ i σ H, i ≤ xs.length → Pv i σ H → SqT K H a xs)
    (hs : ∀ i x σ H, xs[i]? = some x → Pv i σ H → g x σ H fun σ2 H2 => tb (Ends.mk (Pv (i + 1)) rt nx (Pv (i + 1))) σ2 H2) (hd : ∀ σ H, Pv xs.length σ H → nx σ H) :
    ∃ W : Nat → Nat → L2.St → Hp → Prop, (∃ m, W 0 m σ H) ∧ ∀ i m σ H, W i m σ H →
      ((Itt K a).stop i H ∧ nx σ H) ∨ ((Itt K a).go i H ∧ ∃ N : L2.St → Hp → Prop, (∀ σ' H', N σ' H' → ∃ m', m' < m ∧ W (i + 1) m' σ' H') ∧ ∀ x H', (Itt K a).yld i H x H' → g x σ H' fun σ2 H2 => tb (Ends.mk N rt nx N) σ2 H2) :=
  for_tup (D := Ends.mk nx rt nx nx) Pv h0 hl hs hd
theorem fList {a : Addr} {xs : List V} {nx : L2.St → Hp → Prop} {rt : VK} (Pv : Nat → L2.St → Hp → Prop) (h0 : Pv 0 σ H) (hl : ∀ i σ H, i ≤ xs.length → Pv i σ H → SqL K H a xs)
    (hs : ∀ i x σ H, xs[i]? = some x → Pv i σ H → g x σ H fun σ2 H2 => tb (Ends.mk (Pv (i + 1)) rt nx (Pv (i + 1))) σ2 H2) (hd : ∀ σ H, Pv xs.length σ H → nx σ H) :
    ∃ W : Nat → Nat → L2.St → Hp → Prop, (∃ m, W 0 m σ H) ∧ ∀ i m σ H, W i m σ H →
      ((Itl K a).stop i H ∧ nx σ H) ∨ ((Itl K a).go i H ∧ ∃ N : L2.St → Hp → Prop, (∀ σ' H', N σ' H' → ∃ m', m' < m ∧ W (i + 1) m' σ' H') ∧ ∀ x H', (Itl K a).yld i H x H' → g x σ H' fun σ2 H2 => tb (Ends.mk N rt nx N) σ2 H2) :=
  for_list (D := Ends.mk nx rt nx nx) Pv h0 hl hs hd
theorem fRng {lo : Int} {n : Nat} {nx : L2.St → Hp → Prop} {rt : VK} (Pv : Nat → L2.St → Hp → Prop) (h0 : Pv 0 σ H)
    (hs : ∀ i σ H, i < n → Pv i σ H → g (.int (lo + i)) σ H fun σ2 H2 => tb (Ends.mk (Pv (i + 1)) rt nx (Pv (i + 1))) σ2 H2) (hd : ∀ σ H, Pv n σ H → nx σ H) :
    ∃ W : Nat → Nat → L2.St → Hp → Prop, (∃ m, W 0 m σ H) ∧ ∀ i m σ H, W i m σ H →
      ((Itr lo n).stop i H ∧ nx σ H) ∨ ((Itr lo n).go i H ∧ ∃ N : L2.St → Hp → Prop, (∀ σ' H', N σ' H' → ∃ m', m' < m ∧ W (i + 1) m' σ' H') ∧ ∀ x H', (Itr lo n).yld i H x H' → g x σ H' fun σ2 H2 => tb (Ends.mk N rt nx N) σ2 H2) :=
  for_range (D := Ends.mk nx rt nx nx) Pv h0 hs hd
theorem i_itup (h : tl σ H fun x H1 => ∃ a, x = .ref a ∧ (∃ xs, SqT K H1 a xs) ∧ R (Itt K a) H1) : iTup K tl σ H R := h
theorem i_ilist (h : tl σ H fun x H1 => ∃ a, x = .ref a ∧ (∃ xs, SqL K H1 a xs) ∧ R (Itl K a) H1) : iList K tl σ H R := h
theorem i_irng1 (h : ta σ H fun vs H1 => ∃ j : Int, vs = [.int j] ∧ -(2 ^ 62) ≤ j ∧ j < 2 ^ 62 ∧ R (Itr 0 j.toNat) H1) : iRng1 ta σ H R := h
theorem i_irng2 (h : ta σ H fun vs H1 => ∃ i j : Int, vs = [.int i, .int j] ∧ (-(2 ^ 62) ≤ i ∧ i < 2 ^ 62 ∧ -(2 ^ 62) ≤ j ∧ j < 2 ^ 62) ∧ R (Itr i (j - i).toNat) H1) : iRng2 ta σ H R := h
theorem i_rng {j : Int} {R' : Int → Prop} (h0 : -(2 ^ 62) ≤ j) (h1 : j < 2 ^ 62) (q : R' j) : ∃ i : Int, [V.int j] = [.int i] ∧ -(2 ^ 62) ≤ i ∧ i < 2 ^ 62 ∧ R' i := ⟨j, rfl, h0, h1, q⟩
theorem i_lc (h : wi σ H fun J H1 => ∀ D, H1 D = none → ∃ W : Nat → Nat → Hp → Prop, (∃ m, W 0 m (upd H1 D (.lst []))) ∧ ∀ i m H, W i m H →
  (J.stop i H ∧ Q (.ref D) H) ∨ (J.go i H ∧ ∃ Nx : Hp → Prop, (∀ H', Nx H' → ∃ m', m' < m ∧ W (i + 1) m' H') ∧ ∀ x H', J.yld i H x H' → g x (wipe σ vs) H' fun σ2 H2 => wipe σ2 vs = wipe σ vs ∧ tt σ2 H2 fun b H3 =>
    if b = true then te σ2 H3 fun y H4 => ∃ acc, H4 D = some (.lst acc) ∧ acc.length < sizeLine ∧ Nx (upd H4 D (.lst (acc ++ [y]))) else Nx H3)) : tLc wi g tt te vs σ H Q := h
theorem i_yes {QT : Bool → Hp → Prop} (q : QT true H) : tYes σ H QT := q
end
section
variable {σ : L2.St} {H : Hp} {c d : TT}
/-- a test has one answer and leaves the heap -/
def Tst (c : TT) (σ : L2.St) (H : Hp) (b : Bool) : Prop := ∀ QT : Bool → Hp → Prop, QT b H → c σ H QT
theorem Tst.or {b1 b2 : Bool} (h1 : Tst c σ H b1) (h2 : Tst d σ H b2) : Tst (tOr c d) σ H (b1 || b2) := fun QT q => by
  refine h1 _ ?_
  cases b1 with
  | true => exact iteT q
  | false => exact iteF (h2 _ q)
theorem Tst.and {b1 b2 : Bool} (h1 : Tst c σ H b1) (h2 : b1 = true → Tst d σ H b2) : Tst (tAnd c d) σ H (b1 && b2) := fun QT q => by
  refine h1 _ ?_
  cases b1 with
  | true => exact iteT (h2 rfl _ q)
  | false => exact iteF q
theorem Tst.not {b : Bool} (h : Tst c σ H b) : Tst (tNot c) σ H (!b) := fun QT q => h _ q
end
/-- a statement with what follows hidden -/
theorem i_seqA {t1 t2 : TS} {nx bk ct : L2.St → Hp → Prop} {rt : VK} {σ : L2.St} {H : Hp} (h : ∀ n, n = t2 (Ends.mk nx rt bk ct) → t1 (Ends.mk n rt bk ct) σ H) : tSeq t1 t2 (Ends.mk nx rt bk ct) σ H := h _ rfl
end G58

set_option maxRecDepth 100000
set_option maxHeartbeats 4000000
/-! the plain law of totals -/
namespace K35M
def ltO (x : Option Int) (m n : Int) : Bool := match x with | none => false | some z => decide (m * z < n)
def bad (a p : Int) (q : Option Int) (b r : Int) (s : Option Int) : Bool :=
  ltO s b (a * p) || (ltO q a (b * r) || ((decide (0 < a) && decide (b < p)) || (decide (0 < b) && decide (a < r))))
def tops (a : Int) (q : Option Int) (b : Int) (s : Option Int) : List Int := (a * b) :: ((match q with | none => [] | some z => [a * z]) ++ (match s with | none => [] | some z => [b * z]))
def mnl : List Int → Int
  | [] => 0
  | x :: [] => x
  | x :: y :: r => if mnl (y :: r) < x then mnl (y :: r) else x
theorem mnl_mem : ∀ (x : Int) (l : List Int), mnl (x :: l) ∈ x :: l
  | x, [] => by simp [mnl]
  | x, y :: r => by
    have ih := mnl_mem y r
    unfold mnl
    split
    · exact List.mem_cons_of_mem _ ih
    · exact List.mem_cons_self
theorem mnl_le : ∀ (x : Int) (l : List Int), ∀ y ∈ x :: l, mnl (x :: l) ≤ y
  | x, [], y, h => by
    simp at h
    subst h
    exact Int.le_refl _
  | x, y :: r, z, h => by
    have ih := mnl_le y r
    unfold mnl
    rcases List.mem_cons.mp h with e | h
    · subst e
      split <;> omega
    · have := ih z h
      split <;> omega
theorem mnl_is {m : Int} {l : List Int} (h : 0 < l.length) (h1 : m ∈ l) (h2 : ∀ y ∈ l, m ≤ y) : m = mnl l := by
  match l, h with
  | x :: r, _ =>
    have a := mnl_le x r m h1
    have b := h2 _ (mnl_mem x r)
    omega
/-- the least and the greatest total -/
def tot (a p : Int) (q : Option Int) (b r : Int) (s : Option Int) : Option (Int × Int) :=
  if bad a p q b r s = true then none else some (if b * r > a * p then b * r else a * p, mnl (tops a q b s))
theorem bad_sym (a p : Int) (q : Option Int) (b r : Int) (s : Option Int) : bad a p q b r s = bad b r s a p q := by
  unfold bad
  generalize ltO s b (a * p) = A
  generalize ltO q a (b * r) = B
  generalize (decide (0 < a) && decide (b < p)) = C
  generalize (decide (0 < b) && decide (a < r)) = D
  revert A B C D
  decide
theorem tops_sym (a : Int) (q : Option Int) (b : Int) (s : Option Int) : mnl (tops a q b s) = mnl (tops b s a q) := by
  have mem : ∀ y, y ∈ tops a q b s ↔ y ∈ tops b s a q := fun y => by
    unfold tops
    rw [Int.mul_comm a b]
    cases q <;> cases s <;> simp <;> constructor <;> intro h <;> (first | exact h | (rcases h with h | h | h <;> simp [h]))
  have l1 : ∀ (a : Int) (q : Option Int) (b : Int) (s : Option Int), ∃ r, tops a q b s = (a * b) :: r := fun a q b s => ⟨_, rfl⟩
  obtain ⟨r1, e1⟩ := l1 a q b s
  obtain ⟨r2, e2⟩ := l1 b s a q
  refine mnl_is (by rw [e2]; simp) ?_ fun y hy => ?_
  · rw [← mem, e1]
    exact mnl_mem _ _
  · rw [e1]
    refine mnl_le _ _ y ?_
    rw [← e1, mem]
    exact hy
theorem tot_sym (a p : Int) (q : Option Int) (b r : Int) (s : Option Int) : tot a p q b r s = tot b r s a p q := by
  unfold tot
  rw [bad_sym a p q b r s, tops_sym a q b s]
  have : (if b * r > a * p then b * r else a * p) = (if a * p > b * r then a * p else b * r) := by
    split <;> split <;> omega
  rw [this]
/-! what is let, in plain words -/
structure Good (a p : Int) (q : Option Int) (b r : Int) (s : Option Int) : Prop where
  h1 : ∀ z, s = some z → a * p ≤ b * z
  h2 : ∀ z, q = some z → b * r ≤ a * z
  h3 : 0 < a → p ≤ b
  h4 : 0 < b → r ≤ a
theorem good_iff (a p : Int) (q : Option Int) (b r : Int) (s : Option Int) : bad a p q b r s = false ↔ Good a p q b r s := by
  unfold bad
  simp only [Bool.or_eq_false_iff]
  constructor
  · rintro ⟨h1, h2, h3, h4⟩
    refine ⟨fun z e => ?_, fun z e => ?_, fun h => ?_, fun h => ?_⟩
    · subst e
      have := of_decide_eq_false h1
      omega
    · subst e
      have := of_decide_eq_false h2
      omega
    · rw [decide_eq_true h, Bool.true_and] at h3
      have := of_decide_eq_false h3
      omega
    · rw [decide_eq_true h, Bool.true_and] at h4
      have := of_decide_eq_false h4
      omega
  · rintro ⟨h1, h2, h3, h4⟩
    refine ⟨?_, ?_, ?_, ?_⟩
    · cases s with
      | none => rfl
      | some z => exact decide_eq_false (by have := h1 z rfl; omega)
    · cases q with
      | none => rfl
      | some z => exact decide_eq_false (by have := h2 z rfl; omega)
    · by_cases h : 0 < a
      · rw [decide_eq_true h, Bool.true_and]
        exact decide_eq_false (by have := h3 h; omega)
      · rw [decide_eq_false h, Bool.false_and]
    · by_cases h : 0 < b
      · rw [decide_eq_true h, Bool.true_and]
        exact decide_eq_false (by have := h4 h; omega)
      · rw [decide_eq_false h, Bool.false_and]
theorem tot_some {a p : Int} {q : Option Int} {b r : Int} {s : Option Int} {x y : Int} (h : tot a p q b r s = some (x, y)) :
    Good a p q b r s ∧ x = (if b * r > a * p then b * r else a * p) ∧ y = mnl (tops a q b s) := by
  unfold tot at h
  split at h
  · cases h
  · rename_i c
    injection h with h
    injection h with e1 e2
    exact ⟨(good_iff ..).mp (by simpa using c), e1.symm, e2.symm⟩
theorem tot_of_good {a p : Int} {q : Option Int} {b r : Int} {s : Option Int} (h : Good a p q b r s) : tot a p q b r s = some (if b * r > a * p then b * r else a * p, mnl (tops a q b s)) := by
  unfold tot
  rw [(good_iff ..).mpr h]
  simp
/-- y is at most every top -/
theorem mnl_tops {y a : Int} {q : Option Int} {b : Int} {s : Option Int} (h0 : y ≤ a * b) (h1 : ∀ z, q = some z → y ≤ a * z) (h2 : ∀ z, s = some z → y ≤ b * z) : y ≤ mnl (tops a q b s) := by
  have m : mnl (tops a q b s) ∈ tops a q b s := mnl_mem _ _
  have all : ∀ t ∈ tops a q b s, y ≤ t := by
    intro t ht
    unfold tops at ht
    rcases List.mem_cons.mp ht with e | ht
    · rw [e]
      exact h0
    · rcases List.mem_append.mp ht with ht | ht
      · cases q with
        | none => cases ht
        | some z =>
          have e : t = a * z := by simpa using ht
          rw [e]
          exact h1 z rfl
      · cases s with
        | none => cases ht
        | some z =>
          have e : t = b * z := by simpa using ht
          rw [e]
          exact h2 z rfl
  exact all _ m
theorem tops_le {a : Int} {q : Option Int} {b : Int} {s : Option Int} : mnl (tops a q b s) ≤ a * b ∧ (∀ z, q = some z → mnl (tops a q b s) ≤ a * z) ∧ (∀ z, s = some z → mnl (tops a q b s) ≤ b * z) := by
  have l := mnl_le (a * b) ((match q with | none => [] | some z => [a * z]) ++ (match s with | none => [] | some z => [b * z]))
  refine ⟨l _ List.mem_cons_self, fun z e => ?_, fun z e => ?_⟩
  · subst e
    exact l _ (List.mem_cons_of_mem _ (List.mem_append_left _ (by simp)))
  · subst e
    exact l _ (List.mem_cons_of_mem _ (List.mem_append_right _ (by simp)))
theorem mulr (a b k : Int) (h : a ≤ b) (hk : 0 ≤ k) : a * k ≤ b * k := Int.mul_le_mul_of_nonneg_right h hk
/-- so many times both sizes -/
theorem tot_times {a p : Int} {q : Option Int} {b r : Int} {s : Option Int} {x y k : Int} (ha : 0 ≤ a) (hb : 0 ≤ b) (hk : 1 ≤ k) (h : tot a p q b r s = some (x, y)) :
    ∃ x' y', tot (a * k) p q (b * k) r s = some (x', y') ∧ x' ≤ x * k ∧ y * k ≤ y' := by
  obtain ⟨G, ex, ey⟩ := tot_some h
  have e1 : ∀ t : Int, a * k * t = a * t * k := fun t => by rw [Int.mul_assoc, Int.mul_comm k t, ← Int.mul_assoc]
  have e2 : ∀ t : Int, b * k * t = b * t * k := fun t => by rw [Int.mul_assoc, Int.mul_comm k t, ← Int.mul_assoc]
  have pos : ∀ t : Int, 0 ≤ t → t ≤ t * k := fun t h0 => by
    have := Int.mul_le_mul_of_nonneg_left hk h0
    rw [Int.mul_one] at this
    exact this
  have up : ∀ t : Int, 0 < t * k → 0 < t := fun t h0 => by
    rcases Int.lt_or_le 0 t with z | z
    · exact z
    · have := mulr t 0 k z (by omega)
      rw [Int.zero_mul] at this
      omega
  have G' : Good (a * k) p q (b * k) r s := by
    refine ⟨fun z e => ?_, fun z e => ?_, fun h0 => ?_, fun h0 => ?_⟩
    · rw [e1, e2]
      exact mulr _ _ _ (G.h1 z e) (by omega)
    · rw [e1, e2]
      exact mulr _ _ _ (G.h2 z e) (by omega)
    · exact Int.le_trans (G.h3 (up a h0)) (pos b hb)
    · exact Int.le_trans (G.h4 (up b h0)) (pos a ha)
  refine ⟨_, _, tot_of_good G', ?_, ?_⟩
  · rw [e1, e2]
    have l1 : a * p ≤ x := by rw [ex]; split <;> omega
    have l2 : b * r ≤ x := by rw [ex]; split <;> omega
    split
    · exact mulr _ _ _ l2 (by omega)
    · exact mulr _ _ _ l1 (by omega)
  · obtain ⟨t0, t1, t2⟩ := tops_le (a := a) (q := q) (b := b) (s := s)
    rw [← ey] at t0 t1 t2
    refine mnl_tops ?_ (fun z e => ?_) (fun z e => ?_)
    · rw [e1, ← Int.mul_assoc]
      have w := mulr _ _ k t0 (by omega)
      have v := pos (a * b * k) (Int.mul_nonneg (Int.mul_nonneg ha hb) (by omega))
      exact Int.le_trans w v
    · rw [e1]
      exact mulr _ _ _ (t1 z e) (by omega)
    · rw [e2]
      exact mulr _ _ _ (t2 z e) (by omega)
/-- sums of sizes -/
theorem tot_plus {a p : Int} {q : Option Int} {b r : Int} {s : Option Int} {x y c d u v : Int} (ha : 0 ≤ a) (hb : 0 ≤ b) (hc : 0 ≤ c) (hd : 0 ≤ d) (h : tot a p q b r s = some (x, y)) (h' : tot c p q d r s = some (u, v)) :
    ∃ x' y', tot (a + c) p q (b + d) r s = some (x', y') ∧ x' ≤ x + u ∧ y + v ≤ y' := by
  obtain ⟨G, ex, ey⟩ := tot_some h
  obtain ⟨G2, eu, ev⟩ := tot_some h'
  have G' : Good (a + c) p q (b + d) r s := by
    refine ⟨fun z e => ?_, fun z e => ?_, fun h0 => ?_, fun h0 => ?_⟩
    · have i1 := G.h1 z e
      have i2 := G2.h1 z e
      rw [Int.add_mul, Int.add_mul]
      omega
    · have i1 := G.h2 z e
      have i2 := G2.h2 z e
      rw [Int.add_mul, Int.add_mul]
      omega
    · rcases Int.lt_or_le 0 a with z | z
      · have := G.h3 z
        omega
      · have := G2.h3 (by omega)
        omega
    · rcases Int.lt_or_le 0 b with z | z
      · have := G.h4 z
        omega
      · have := G2.h4 (by omega)
        omega
  refine ⟨_, _, tot_of_good G', ?_, ?_⟩
  · rw [Int.add_mul, Int.add_mul, ex, eu]
    split <;> split <;> split <;> omega
  · obtain ⟨t0, t1, t2⟩ := tops_le (a := a) (q := q) (b := b) (s := s)
    obtain ⟨w0, w1, w2⟩ := tops_le (a := c) (q := q) (b := d) (s := s)
    rw [← ey] at t0 t1 t2
    rw [← ev] at w0 w1 w2
    refine mnl_tops ?_ (fun z e => ?_) (fun z e => ?_)
    · have n1 := Int.mul_nonneg ha hd
      have n2 := Int.mul_nonneg hc hb
      rw [Int.add_mul, Int.mul_add, Int.mul_add]
      omega
    · have := t1 z e
      have := w1 z e
      rw [Int.add_mul]
      omega
    · have := t2 z e
      have := w2 z e
      rw [Int.add_mul]
      omega
end K35M

set_option Elab.async false
set_option linter.all false
set_option maxRecDepth 100000
set_option maxHeartbeats 4000000
namespace K35
open L2 PyProof.Rows PySem.Spec PySem G58
local macro_rules | `(tactic| walk_at "rd") => `(tactic| first
  | (with_reducible refine i_seq ?_)
  | ((with_reducible refine' i_var ?rdh ?_); (case rdh => exact rfl))
  | (with_reducible refine i_c ?_)
  | (with_reducible refine i_op ?_)
  | (with_reducible refine i_I0 ?_)
  | (with_reducible refine i_set ?_)
  | (with_reducible refine i_ret ?_)
  | (with_reducible refine i_cons ?_)
  | (with_reducible refine i_nil ?_)
  | (with_reducible refine i_cb ?_)
  | (with_reducible refine i_call ?_)
  | (with_reducible refine i_tup ?_)
  | (with_reducible refine i_lst ?_)
  | (with_reducible refine i_ifS ?_)
  | (with_reducible refine i_test ?_)
  | (with_reducible refine i_B ?_)
  | (with_reducible refine i_bl ?_)
  | (with_reducible refine i_isN ?_)
  | (with_reducible refine i_notN ?_)
  | (with_reducible refine i_andV ?_)
  | (with_reducible refine i_orV ?_)
  | (with_reducible refine i_notV ?_)
  | (with_reducible refine i_and ?_)
  | (with_reducible refine i_or ?_)
  | (with_reducible refine i_not ?_)
  | (with_reducible refine i_if ?_)
  | (with_reducible refine i_par ?_)
  | (with_reducible refine i_par2 ?_)
  | (with_reducible refine i_drop ?_)
  | (with_reducible refine i_next ?_)
  | (with_reducible refine i_retN ?_)
  | (with_reducible refine i_iteT ?_)
  | (with_reducible refine i_iteF ?_)
  | (with_reducible refine i_un ?_)
  | (with_reducible refine i_U ?_)
  | (with_reducible refine i_isiII ?_)
  | (with_reducible refine i_isiIB ?_)
  | (with_reducible refine i_nT ?_)
  | (with_reducible refine i_nF ?_)
  | (with_reducible refine i_p10_4 ?_)
  | (with_reducible refine i_p10_9 ?_)
  | (with_reducible refine i_p10_18 ?_)
  | (with_reducible refine i_p10_20 ?_)
  | (with_reducible refine i_p10_30 ?_)
  | (with_reducible refine i_p10_40 ?_)
  | (with_reducible refine i_p10_58 ?_)
  | (with_reducible refine i_p10_60 ?_)
  | (with_reducible refine i_p10_61 ?_)
  | (with_reducible refine i_p10_64 ?_)
  | (with_reducible refine i_ex1 ?_)
  | (with_reducible refine i_ex2 ?_)
  | (with_reducible refine i_toI ?_)
  | (with_reducible refine i_toB ?_)
  | ((with_reducible refine' i_ixL ?rdh ?rda ?_); (case rdh => exact SqL.of (by assumption)); (case rda => exact rfl))
  | ((with_reducible refine' i_ixT ?rdh ?rda ?_); (case rdh => exact SqT.of (by assumption)); (case rda => exact rfl))
  | (with_reducible refine i_mulR ⟨by decide, by decide⟩ ?_)
  | (with_reducible refine i_mulL ⟨by decide, by decide⟩ ?_)
  | (with_reducible refine i_mod (by decide) ?_)
  | (with_reducible refine i_div ⟨by decide, by decide⟩ ?_)
  | ((with_reducible refine' i_gtup ?rdh ?rdl ?_); (case rdh => exact SqT.of (by assumption)); (case rdl => exact rfl))
  | (with_reducible refine i_gcons ?_)
  | (with_reducible refine i_gnil ?_)
  | (with_reducible refine i_gname ?_)
  | (with_reducible refine i_gsub ?_)
  | (with_reducible refine i_bm ?_)
  | (with_reducible refine i_bm0 ?_)
  | ((with_reducible refine' i_tyL ?rdh ?_); (case rdh => assumption))
  | (with_reducible refine i_for ?_)
  | (with_reducible refine i_itup ?_)
  | (with_reducible refine i_ilist ?_)
  | (with_reducible refine i_irng1 ?_)
  | (with_reducible refine i_irng2 ?_)
  | (with_reducible refine i_lc ?_)
  | (with_reducible refine i_yes ?_)
  | (with_reducible refine i_asg ?_)
  | dsimp only)
def top (i : Nat) : Stmt := PySem.Challenge.pw_howmanyeach_k35_totals_far_away.main.body.getD i (.Pass ⟨0, 0, 0, 0⟩)
/-- the built-in names that no statement of the module binds -/
structure Blt (mg : Str → Option Value) : Prop where
  b_int : mg "int" = none
  b_bool : mg "bool" = none
  b_isinstance : mg "isinstance" = none
  b_len : mg "len" = none
  b_abs : mg "abs" = none
  b_max : mg "max" = none
  b_min : mg "min" = none
  b_all : mg "all" = none
  b_range : mg "range" = none
  b_divmod : mg "divmod" = none
  b_repr : mg "repr" = none
abbrev s_is_integer : Stmt := top 9
abbrev n_is_integer : List Str := ["value"]
theorem sc_is_integer : FnScope n_is_integer ["value"] (defScope s_is_integer) := ⟨rfl, rfl, rfl, by decide +kernel, rfl, by decide +kernel, by decide +kernel⟩
abbrev s_is_count : Stmt := top 10
abbrev n_is_count : List Str := ["value"]
theorem sc_is_count : FnScope n_is_count ["value"] (defScope s_is_count) := ⟨rfl, rfl, rfl, by decide +kernel, rfl, by decide +kernel, by decide +kernel⟩
abbrev s_want_count : Stmt := top 11
abbrev n_want_count : List Str := ["value"]
theorem sc_want_count : FnScope n_want_count ["value"] (defScope s_want_count) := ⟨rfl, rfl, rfl, by decide +kernel, rfl, by decide +kernel, by decide +kernel⟩
def spIsInt : Sp := fun vs H Q _ => ∃ i : Int, vs = [.int i] ∧ Q (.bl true) H
def spIsCount : Sp := fun vs H Q _ => ∃ i : Int, vs = [.int i] ∧ Q (.bl (decide (0 ≤ i))) H
def spWant : Sp := fun vs H Q _ => ∃ i : Int, vs = [.int i] ∧ 0 ≤ i ∧ Q .non H
section
variable {P : Program} {w : World} {K : PySem.W.Frag} {mg : Str → Option Value} {base : Heap} {f : Addr} {fd : FuncData}
theorem ok_is_integer (F : Fun K "is_integer" "is_integer" s_is_integer f fd) (T : Blt mg) : FnOk P w K mg base CX0 1 f fd ["value"] spIsInt := by
  refine F.ok sc_is_integer (fun vs H Q E h => ?_) (fun cdv A outer s H vs Q E hr h => ?_)
  · obtain ⟨i, rfl, _⟩ := h
    rfl
  · obtain ⟨i, rfl, k⟩ := h
    refine ⟨_, (pss_one (ps_ret (pe_and (pe_callB call_isi (by rfl) T.b_isinstance (by decide +kernel) (pa_cons (pv 0) (pa_cons (pe_bltn (v := .ty "int") (u := .type "int") (by rfl) T.b_int (by decide +kernel) rfl) pa_nil))) (pe_one (pe_not (pe_callB call_isi (by rfl) T.b_isinstance (by decide +kernel) (pa_cons (pv 0) (pa_cons (pe_bltn (v := .ty "bool") (u := .type "bool") (by rfl) T.b_bool (by decide +kernel) rfl) pa_nil)))))))), ?_⟩
    repeat walk_at "rd"
    exact k
theorem ok_is_count (F : Fun K "is_count" "is_count" s_is_count f fd) (T : Blt mg) (D_is_integer : Dn P w K mg base 1 "is_integer" spIsInt) : FnOk P w K mg base CX0 2 f fd ["value"] spIsCount := by
  refine F.ok sc_is_count (fun vs H Q E h => ?_) (fun cdv A outer s H vs Q E hr h => ?_)
  · obtain ⟨i, rfl, _⟩ := h
    rfl
  · obtain ⟨i, rfl, k⟩ := h
    refine ⟨_, (pss_one (ps_ret (pe_and (pe_cl D_is_integer (hr.mono (by decide)) (pa_cons (pv 0) pa_nil)) (pe_one (pe_cmpR op_ge (pv 0) pe_int (nomark _)))))), ?_⟩
    repeat walk_at "rd"
    refine ⟨i, rfl, ?_⟩
    repeat walk_at "rd"
    exact k
theorem ok_want_count (F : Fun K "want_count" "want_count" s_want_count f fd) (T : Blt mg) (D_is_count : Dn P w K mg base 2 "is_count" spIsCount) : FnOk P w K mg base CX0 3 f fd ["value"] spWant := by
  refine F.ok sc_want_count (fun vs H Q E h => ?_) (fun cdv A outer s H vs Q E hr h => ?_)
  · obtain ⟨i, rfl, _⟩ := h
    rfl
  · obtain ⟨i, rfl, hi, k⟩ := h
    refine ⟨_, (pss_one (ps_if (pt_not (pt_val (pe_cl D_is_count (hr.mono (by decide)) (pa_cons (pv 0) pa_nil))))
        (pss_one ps_never)
        pss_nil)), ?_⟩
    repeat walk_at "rd"
    refine ⟨i, rfl, ?_⟩
    rw [decide_eq_true hi]
    repeat walk_at "rd"
    exact k
end
end K35

set_option Elab.async false
set_option linter.all false
set_option maxRecDepth 100000
set_option maxHeartbeats 4000000
namespace K35
open L2 PyProof.Rows PySem.Spec PySem G58
local macro_rules | `(tactic| walk_at "rd") => `(tactic| first
  | (with_reducible refine i_seq ?_)
  | ((with_reducible refine' i_var ?rdh ?_); (case rdh => exact rfl))
  | (with_reducible refine i_c ?_)
  | (with_reducible refine i_op ?_)
  | (with_reducible refine i_I0 ?_)
  | (with_reducible refine i_set ?_)
  | (with_reducible refine i_ret ?_)
  | (with_reducible refine i_cons ?_)
  | (with_reducible refine i_nil ?_)
  | (with_reducible refine i_cb ?_)
  | (with_reducible refine i_call ?_)
  | (with_reducible refine i_tup ?_)
  | (with_reducible refine i_lst ?_)
  | (with_reducible refine i_ifS ?_)
  | (with_reducible refine i_test ?_)
  | (with_reducible refine i_B ?_)
  | (with_reducible refine i_bl ?_)
  | (with_reducible refine i_isN ?_)
  | (with_reducible refine i_notN ?_)
  | (with_reducible refine i_andV ?_)
  | (with_reducible refine i_orV ?_)
  | (with_reducible refine i_notV ?_)
  | (with_reducible refine i_and ?_)
  | (with_reducible refine i_or ?_)
  | (with_reducible refine i_not ?_)
  | (with_reducible refine i_if ?_)
  | (with_reducible refine i_par ?_)
  | (with_reducible refine i_par2 ?_)
  | (with_reducible refine i_drop ?_)
  | (with_reducible refine i_next ?_)
  | (with_reducible refine i_retN ?_)
  | (with_reducible refine i_iteT ?_)
  | (with_reducible refine i_iteF ?_)
  | (with_reducible refine i_un ?_)
  | (with_reducible refine i_U ?_)
  | (with_reducible refine i_isiII ?_)
  | (with_reducible refine i_isiIB ?_)
  | (with_reducible refine i_nT ?_)
  | (with_reducible refine i_nF ?_)
  | (with_reducible refine i_p10_4 ?_)
  | (with_reducible refine i_p10_9 ?_)
  | (with_reducible refine i_p10_18 ?_)
  | (with_reducible refine i_p10_20 ?_)
  | (with_reducible refine i_p10_30 ?_)
  | (with_reducible refine i_p10_40 ?_)
  | (with_reducible refine i_p10_58 ?_)
  | (with_reducible refine i_p10_60 ?_)
  | (with_reducible refine i_p10_61 ?_)
  | (with_reducible refine i_p10_64 ?_)
  | (with_reducible refine i_ex1 ?_)
  | (with_reducible refine i_ex2 ?_)
  | (with_reducible refine i_toI ?_)
  | (with_reducible refine i_toB ?_)
  | ((with_reducible refine' i_ixL ?rdh ?rda ?_); (case rdh => exact SqL.of (by assumption)); (case rda => exact rfl))
  | ((with_reducible refine' i_ixT ?rdh ?rda ?_); (case rdh => exact SqT.of (by assumption)); (case rda => exact rfl))
  | (with_reducible refine i_mulR ⟨by decide, by decide⟩ ?_)
  | (with_reducible refine i_mulL ⟨by decide, by decide⟩ ?_)
  | (with_reducible refine i_mod (by decide) ?_)
  | (with_reducible refine i_div ⟨by decide, by decide⟩ ?_)
  | ((with_reducible refine' i_gtup ?rdh ?rdl ?_); (case rdh => exact SqT.of (by assumption)); (case rdl => exact rfl))
  | (with_reducible refine i_gcons ?_)
  | (with_reducible refine i_gnil ?_)
  | (with_reducible refine i_gname ?_)
  | (with_reducible refine i_gsub ?_)
  | (with_reducible refine i_bm ?_)
  | (with_reducible refine i_bm0 ?_)
  | ((with_reducible refine' i_tyL ?rdh ?_); (case rdh => assumption))
  | (with_reducible refine i_for ?_)
  | (with_reducible refine i_itup ?_)
  | (with_reducible refine i_ilist ?_)
  | (with_reducible refine i_irng1 ?_)
  | (with_reducible refine i_irng2 ?_)
  | (with_reducible refine i_lc ?_)
  | (with_reducible refine i_yes ?_)
  | (with_reducible refine i_asg ?_)
  | dsimp only)
abbrev s_law_pot_of : Stmt := top 30
abbrev n_law_pot_of : List Str := ["_law_script", "_law_k", "_law_cell"]
theorem sc_law_pot_of : FnScope n_law_pot_of ["_law_script", "_law_k"] (defScope s_law_pot_of) := ⟨rfl, rfl, rfl, by decide +kernel, rfl, by decide +kernel, by decide +kernel⟩
abbrev s_law_draw : Stmt := top 31
abbrev n_law_draw : List Str := ["_law_pot", "_law_some", "_law_digit"]
theorem sc_law_draw : FnScope n_law_draw ["_law_pot", "_law_some"] (defScope s_law_draw) := ⟨rfl, rfl, rfl, by decide +kernel, rfl, by decide +kernel, by decide +kernel⟩
abbrev s_law_pick : Stmt := top 32
abbrev n_law_pick : List Str := ["_law_pot", "_law_some"]
theorem sc_law_pick : FnScope n_law_pick ["_law_pot", "_law_some"] (defScope s_law_pick) := ⟨rfl, rfl, rfl, by decide +kernel, rfl, by decide +kernel, by decide +kernel⟩
/-- the two numbers that draws are made of -/
def Pot (H : Hp) (p : Addr) : Prop := ∃ x y : Int, H p = some (.lst [.int x, .int y]) ∧ 0 ≤ x ∧ 0 ≤ y ∧ y < 2147483700
theorem Pot.same {H H' : Hp} {p : Addr} (h : Pot H p) (s : Same H H') : Pot H' p := let ⟨x, y, e, r⟩ := h; ⟨x, y, s _ _ e, r⟩
def spPotOf (K : PySem.W.Frag) : Sp := fun vs H Q _ => ∃ (a : Addr) (k : Int) (ns : List Int), vs = [.ref a, .int k] ∧ SqL K H a (ns.map V.int) ∧ 0 ≤ k ∧ k < 1000 ∧
  ∀ p H', H p = none → Same H H' → Pot H' p → Q (.ref p) H'
def spDraw : Sp := fun vs H Q _ => ∃ (p : Addr) (m : Int), vs = [.ref p, .int m] ∧ Pot H p ∧ 0 < m ∧ m.natAbs.log2 < 9000 ∧
  ∀ (d : Int) H', 0 ≤ d → d < m → Ext p H H' → Pot H' p → Q (.int d) H'
def spPick (K : PySem.W.Frag) : Sp := fun vs H Q _ => ∃ (p l : Addr) (xs : List V), vs = [.ref p, .ref l] ∧ Pot H p ∧ H l = some (.lst xs) ∧ l ≠ p ∧ 0 < xs.length ∧ xs.length ≤ 1000 ∧
  ∀ v H', v ∈ xs → Ext p H H' → Pot H' p → Q v H'
section
variable {P : Program} {w : World} {K : PySem.W.Frag} {mg : Str → Option Value} {base : Heap} {f : Addr} {fd : FuncData}
theorem ok_pot_of (F : Fun K "_law_pot_of" "_law_pot_of" s_law_pot_of f fd) (T : Blt mg) : FnOk P w K mg base CX0 1 f fd ["_law_script", "_law_k"] (spPotOf K) := by
  refine F.ok sc_law_pot_of (fun vs H Q E h => ?_) (fun cdv A outer s H vs Q E hr h => ?_)
  · obtain ⟨a, k, ns, rfl, _⟩ := h
    rfl
  · obtain ⟨a, k, ns, rfl, hS, h0, h1, kk⟩ := h
    refine ⟨_, (pss_cons (ps_set (i := 2) sc_law_pot_of.nd rfl (Or.inl rfl) (pe_ifExp (pt_cmpR op_lt (pv 1) (pe_callB call_len_seq (by rfl) T.b_len (by decide +kernel) (pa_cons (pv 0) pa_nil)) (nomark _)) (pe_ix ix_list (pv 0) (pv 1) (fun _ _ => rfl)) (pe_op op_add (pe_op op_mul pe_int (pv 1)) pe_int)))
      (pss_one (ps_ret (pe_lstN (pa_cons (pe_callB (call_max2 rfl) (by rfl) T.b_max (by decide +kernel) (pa_cons pe_int (pa_cons (pe_op op_sub (pe_callB call_abs (by rfl) T.b_abs (by decide +kernel) (pa_cons (pv 2) pa_nil)) (pe_op op_pow pe_int pe_int)) pa_nil))) (pa_cons (pe_op op_add (pe_op op_mod (pe_callTy call_int1 (by rfl) T.b_int (by decide +kernel) (pa_cons (pe_op op_add (pe_op op_add (pe_op op_mul (pe_op op_mod (pe_callTy call_int1 (by rfl) T.b_int (by decide +kernel) (pa_cons (pe_callB call_abs (by rfl) T.b_abs (by decide +kernel) (pa_cons (pv 2) pa_nil)) pa_nil)) pe_int) pe_int) (pe_op op_mul pe_int (pv 1))) pe_int) pa_nil)) pe_int) pe_int) pa_nil)))))), ?_⟩
    have fin : ∀ c : Int, New H (.lst [.int (if (if c < 0 then -c else c) - 1000000000000000000 > 0 then (if c < 0 then -c else c) - 1000000000000000000 else 0), .int ((((if c < 0 then -c else c) % 2147483563 * 40009 + 61297 * k + 41) % 2147483629) + 1)]) Q := by
      intro c q H1 nq s1 hq
      refine kk q _ nq s1 ⟨_, _, hq, ?_, ?_, ?_⟩
      · split <;> omega
      · omega
      · omega
    repeat walk_at "rd"
    refine i_lenL hS ?_
    repeat walk_at "rd"
    by_cases c : k < ((ns.map V.int).length : Int)
    · rw [decide_eq_true c]
      repeat walk_at "rd"
      have hl : k.toNat < ns.length := by rw [List.length_map] at c; omega
      refine i_ixL (v := .int ns[k.toNat]) hS ?_ ?_
      · rw [atI_in h0 (by rw [List.length_map]; exact hl), List.getElem_map]
      · repeat walk_at "rd"
        exact i_new rfl (fin ns[k.toNat])
    · rw [decide_eq_false c]
      repeat walk_at "rd"
      exact i_new rfl (fin (8 * k + 41))
theorem ok_draw (F : Fun K "_law_draw" "_law_draw" s_law_draw f fd) (T : Blt mg) : FnOk P w K mg base CX0 1 f fd ["_law_pot", "_law_some"] spDraw := by
  refine F.ok sc_law_draw (fun vs H Q E h => ?_) (fun cdv A outer s H vs Q E hr h => ?_)
  · obtain ⟨p, m, rfl, _⟩ := h
    rfl
  · obtain ⟨p, m, rfl, ⟨x, y, hp, hx, hy, hy2⟩, hm, hm2, k⟩ := h
    refine ⟨_, (pss_cons (ps_if (pt_cmpR op_gt (pe_ix ix_list (pv 0) pe_int (fun _ _ => rfl)) pe_int (nomark _))
        (pss_cons (ps_asg (pe_callB call_dm (by rfl) T.b_divmod (by decide +kernel) (pa_cons (pe_ix ix_list (pv 0) pe_int (fun _ _ => rfl)) (pa_cons (pv 1) pa_nil))) (pg_tup (by rfl) (pgs_cons (pg_sub (pv 0) pe_int set_list) (pgs_cons (pg_name (i := 2) sc_law_draw.nd rfl (Or.inl rfl)) pgs_nil))))
        (pss_one (ps_ret (pv 2))))
        pss_nil)
      (pss_cons (ps_asg (pe_op op_mod (pe_callTy call_int1 (by rfl) T.b_int (by decide +kernel) (pa_cons (pe_op op_add (pe_op op_mul (pe_ix ix_list (pv 0) pe_int (fun _ _ => rfl)) pe_int) pe_int) pa_nil)) pe_int) (pg_sub (pv 0) pe_int set_list))
      (pss_one (ps_ret (pe_op op_mod (pe_callTy call_int1 (by rfl) T.b_int (by decide +kernel) (pa_cons (pe_op op_fdiv (pe_op op_mod (pe_callTy call_int1 (by rfl) T.b_int (by decide +kernel) (pa_cons (pe_op op_mul (pe_ix ix_list (pv 0) pe_int (fun _ _ => rfl)) (pe_ix ix_list (pv 0) pe_int (fun _ _ => rfl))) pa_nil)) pe_int) pe_int) pa_nil)) (pv 1)))))), ?_⟩
    repeat walk_at "rd"
    by_cases c : 0 < x
    · rw [decide_eq_true c]
      repeat walk_at "rd"
      refine ⟨x, m, rfl, hm, hm2, fun q H1 nq s1 hq => ?_⟩
      have hp1 := s1 _ _ hp
      repeat walk_at "rd"
      refine i_setH (ys := [.int (x / m), .int y]) hp1 rfl rfl (fun H2 e2 hp2 => ?_)
      repeat walk_at "rd"
      exact k _ _ (Int.emod_nonneg _ (by omega)) (Int.emod_lt_of_pos _ hm) ((Ext.same s1).trans e2) ⟨_, _, hp2, Int.ediv_nonneg hx (by omega), hy, hy2⟩
    · rw [decide_eq_false c]
      repeat walk_at "rd"
      generalize hz : (y * 44203 + 15511) % 2147483587 = z
      have z0 : 0 ≤ z := by omega
      have z1 : z < 2147483587 := by omega
      refine i_setH (ys := [.int x, .int z]) hp rfl rfl (fun H1 e hp1 => ?_)
      repeat walk_at "rd"
      refine i_mulL ⟨by omega, by omega⟩ ?_
      repeat walk_at "rd"
      refine i_mod hm ?_
      exact k _ _ (Int.emod_nonneg _ (by omega)) (Int.emod_lt_of_pos _ hm) e ⟨_, _, hp1, hx, z0, by omega⟩
theorem ok_pick (F : Fun K "_law_pick" "_law_pick" s_law_pick f fd) (T : Blt mg) (D__law_draw : Dn P w K mg base 1 "_law_draw" spDraw) : FnOk P w K mg base CX0 2 f fd ["_law_pot", "_law_some"] (spPick K) := by
  refine F.ok sc_law_pick (fun vs H Q E h => ?_) (fun cdv A outer s H vs Q E hr h => ?_)
  · obtain ⟨p, l, xs, rfl, _⟩ := h
    rfl
  · obtain ⟨p, l, xs, rfl, hp, hl, ne, h0, h1, k⟩ := h
    refine ⟨_, (pss_one (ps_ret (pe_ix ix_list (pv 1) (pe_cl D__law_draw (hr.mono (by decide)) (pa_cons (pv 0) (pa_cons (pe_callB call_len_seq (by rfl) T.b_len (by decide +kernel) (pa_cons (pv 1) pa_nil)) pa_nil))) (fun _ _ => rfl)))), ?_⟩
    repeat walk_at "rd"
    refine i_lenL (SqL.of hl) ?_
    repeat walk_at "rd"
    refine ⟨p, (xs.length : Int), rfl, hp, by omega, ?_, fun d H1 d0 d1 e1 hp1 => ?_⟩
    · refine Nat.lt_of_le_of_lt (Nat.log2_le_self _) ?_
      omega
    · have hd : d.toNat < xs.length := by omega
      refine i_ixL (v := xs[d.toNat]) (SqL.of (e1 l _ ne hl)) ?_ ?_
      · exact atI_in d0 hd
      · exact k _ _ (List.getElem_mem _) e1 hp1
end
end K35

set_option Elab.async false
set_option linter.all false
set_option maxRecDepth 100000
set_option maxHeartbeats 4000000
namespace K35
open L2 PyProof.Rows PySem.Spec PySem G58 SlX K35M
local macro_rules | `(tactic| walk_at "rd") => `(tactic| first
  | (with_reducible refine i_seq ?_)
  | ((with_reducible refine' i_var ?rdh ?_); (case rdh => exact rfl))
  | (with_reducible refine i_c ?_)
  | (with_reducible refine i_op ?_)
  | (with_reducible refine i_I0 ?_)
  | (with_reducible refine i_set ?_)
  | (with_reducible refine i_ret ?_)
  | (with_reducible refine i_cons ?_)
  | (with_reducible refine i_nil ?_)
  | (with_reducible refine i_cb ?_)
  | (with_reducible refine i_call ?_)
  | (with_reducible refine i_tup ?_)
  | (with_reducible refine i_lst ?_)
  | (with_reducible refine i_ifS ?_)
  | (with_reducible refine i_test ?_)
  | (with_reducible refine i_B ?_)
  | (with_reducible refine i_bl ?_)
  | (with_reducible refine i_isN ?_)
  | (with_reducible refine i_notN ?_)
  | (with_reducible refine i_andV ?_)
  | (with_reducible refine i_orV ?_)
  | (with_reducible refine i_notV ?_)
  | (with_reducible refine i_and ?_)
  | (with_reducible refine i_or ?_)
  | (with_reducible refine i_not ?_)
  | (with_reducible refine i_if ?_)
  | (with_reducible refine i_par ?_)
  | (with_reducible refine i_par2 ?_)
  | (with_reducible refine i_drop ?_)
  | (with_reducible refine i_next ?_)
  | (with_reducible refine i_retN ?_)
  | (with_reducible refine i_iteT ?_)
  | (with_reducible refine i_iteF ?_)
  | (with_reducible refine i_un ?_)
  | (with_reducible refine i_U ?_)
  | (with_reducible refine i_isiII ?_)
  | (with_reducible refine i_isiIB ?_)
  | (with_reducible refine i_nT ?_)
  | (with_reducible refine i_nF ?_)
  | (with_reducible refine i_p10_4 ?_)
  | (with_reducible refine i_p10_9 ?_)
  | (with_reducible refine i_p10_18 ?_)
  | (with_reducible refine i_p10_20 ?_)
  | (with_reducible refine i_p10_30 ?_)
  | (with_reducible refine i_p10_40 ?_)
  | (with_reducible refine i_p10_58 ?_)
  | (with_reducible refine i_p10_60 ?_)
  | (with_reducible refine i_p10_61 ?_)
  | (with_reducible refine i_p10_64 ?_)
  | (with_reducible refine i_ex1 ?_)
  | (with_reducible refine i_ex2 ?_)
  | (with_reducible refine i_toI ?_)
  | (with_reducible refine i_toB ?_)
  | ((with_reducible refine' i_ixL ?rdh ?rda ?_); (case rdh => exact SqL.of (by assumption)); (case rda => exact rfl))
  | ((with_reducible refine' i_ixT ?rdh ?rda ?_); (case rdh => exact SqT.of (by assumption)); (case rda => exact rfl))
  | (with_reducible refine i_mulR ⟨by decide, by decide⟩ ?_)
  | (with_reducible refine i_mulL ⟨by decide, by decide⟩ ?_)
  | (with_reducible refine i_mod (by decide) ?_)
  | (with_reducible refine i_div ⟨by decide, by decide⟩ ?_)
  | ((with_reducible refine' i_gtup ?rdh ?rdl ?_); (case rdh => exact SqT.of (by assumption)); (case rdl => exact rfl))
  | (with_reducible refine i_gcons ?_)
  | (with_reducible refine i_gnil ?_)
  | (with_reducible refine i_gname ?_)
  | (with_reducible refine i_gsub ?_)
  | (with_reducible refine i_bm ?_)
  | (with_reducible refine i_bm0 ?_)
  | ((with_reducible refine' i_tyL ?rdh ?_); (case rdh => assumption))
  | (with_reducible refine i_for ?_)
  | (with_reducible refine i_itup ?_)
  | (with_reducible refine i_ilist ?_)
  | (with_reducible refine i_irng1 ?_)
  | (with_reducible refine i_irng2 ?_)
  | (with_reducible refine i_lc ?_)
  | (with_reducible refine i_yes ?_)
  | (with_reducible refine i_asg ?_)
  | dsimp only)
abbrev s_Many___init : Stmt := inClass (top 24) 2
abbrev n_Many___init : List Str := ["self", "least", "most"]
theorem sc_Many___init : FnScope n_Many___init ["self", "least", "most"] (defScope s_Many___init) := ⟨rfl, rfl, rfl, by decide +kernel, rfl, by decide +kernel, by decide +kernel⟩
abbrev s_Many_least : Stmt := inClass (top 24) 3
abbrev n_Many_least : List Str := ["self"]
theorem sc_Many_least : FnScope n_Many_least ["self"] (defScope s_Many_least) := ⟨rfl, rfl, rfl, by decide +kernel, rfl, by decide +kernel, by decide +kernel⟩
abbrev s_Many_most : Stmt := inClass (top 24) 4
abbrev n_Many_most : List Str := ["self"]
theorem sc_Many_most : FnScope n_Many_most ["self"] (defScope s_Many_most) := ⟨rfl, rfl, rfl, by decide +kernel, rfl, by decide +kernel, by decide +kernel⟩
def optV : Option Int → V
  | none => .non
  | some i => .int i
/-- a Many from p to q stands at a -/
def MA (C : Addr) (H : Hp) (a : Addr) (p : Int) (q : Option Int) : Prop := ∃ dx t vs, Slt H a C dx vs ∧ vs[0]? = some (some (.int p)) ∧ vs[1]? = some (some (optV q)) ∧
  vs[2]? = some (some (.ref t)) ∧ H t = some (.tup [.int p, .int (if q = none then 1 else 0), .int (q.getD 0)])
theorem MA.same {C : Addr} {H H' : Hp} {a : Addr} {p : Int} {q : Option Int} (h : MA C H a p q) (s : Same H H') : MA C H' a p q := by
  obtain ⟨dx, t, vs, h1, h2, h3, h4, h5⟩ := h
  refine ⟨dx, t, vs, ?_, h2, h3, h4, s _ _ h5⟩
  rcases h1 with ⟨z1, z2⟩ | ⟨z1, z2⟩
  · exact .inl ⟨s _ _ z1, z2⟩
  · exact .inr ⟨s _ _ z1, s _ _ z2⟩
/-- no list of the law's is a part of it -/
theorem MA.ext {C : Addr} {H H' : Hp} {a p0 : Addr} {p : Int} {q : Option Int} {xs : List V} (h : MA C H a p q) (hp : H p0 = some (.lst xs)) (e : Ext p0 H H') : MA C H' a p q := by
  obtain ⟨dx, t, vs, h1, h2, h3, h4, h5⟩ := h
  have no : ∀ {b o}, H b = some o → (∀ xs, o ≠ .lst xs) → H' b = some o := fun {b o} z n => e b o (fun w => by rw [w, hp] at z; exact n xs (Option.some.inj z).symm) z
  refine ⟨dx, t, vs, ?_, h2, h3, h4, no h5 (fun _ z => nomatch z)⟩
  rcases h1 with ⟨z1, z2⟩ | ⟨z1, z2⟩
  · exact .inl ⟨no z1 (fun _ z => nomatch z), z2⟩
  · exact .inr ⟨no z1 (fun _ z => by unfold SlO at z; cases z), no z2 (fun _ z => nomatch z)⟩
def Okq (p : Int) (q : Option Int) : Prop := 0 ≤ p ∧ ∀ z, q = some z → p ≤ z
/-- what the walk asks of the class -/
structure MTxt (K : PySem.W.Frag) (mg : Str → Option Value) (C p0 p1 p2 pl pm gl gm : Addr) : Prop where
  gC : mg "Many" = some (.ref C)
  sc : SCls K C
  isi : SIsi K C
  s0 : Slot1 K C "own_least" p0 0
  s1 : Slot1 K C "own_most" p1 1
  s2 : Slot1 K C "own_place" p2 2
  a_least : PySem.W.findIn K (.ref C) "least" = some (some (.ref pl))
  p_least : PySem.W.specialIn K (.ref pl) "__get__" = some (some (.builtin "property.__get__"))
  t_least : PySem.W.takesIn K (.ref pl) = some true
  r_least : ∃ rest, PySem.W.recIn K pl "property" = some (.ref gl :: rest)
  a_most : PySem.W.findIn K (.ref C) "most" = some (some (.ref pm))
  p_most : PySem.W.specialIn K (.ref pm) "__get__" = some (some (.builtin "property.__get__"))
  t_most : PySem.W.takesIn K (.ref pm) = some true
  r_most : ∃ rest, PySem.W.recIn K pm "property" = some (.ref gm :: rest)
/-- built-in names and the class -/
structure TM (K : PySem.W.Frag) (mg : Str → Option Value) (C p0 p1 p2 pl pm gl gm : Addr) : Prop extends Blt mg where
  many : MTxt K mg C p0 p1 p2 pl pm gl gm
def spInit (C : Addr) : Sp := fun vs H Q _ => ∃ (x dx : Addr) (p : Int) (q : Option Int), vs = [.ref x, .int p, optV q] ∧ dx ≠ x ∧ H x = some (.ins C dx []) ∧ Okq p q ∧
  ∀ H', (∀ b o, b ≠ x → b ≠ dx → H b = some o → H' b = some o) → MA C H' x p q → Q .non H'
def spLeast (C : Addr) : Sp := fun vs H Q _ => ∃ (a : Addr) (p : Int) (q : Option Int), vs = [.ref a] ∧ MA C H a p q ∧ Q (.int p) H
def spMost (C : Addr) : Sp := fun vs H Q _ => ∃ (a : Addr) (p : Int) (q : Option Int), vs = [.ref a] ∧ MA C H a p q ∧ Q (optV q) H
section
variable {A B : Prop} {i : Int}
theorem i_NT (h : B) : if (!decide (V.non = V.non)) = true then A else B := iteF (by simpa using h)
theorem i_NF (h : A) : if (!decide (V.int i = V.non)) = true then A else B := iteT (by simpa using h)
theorem i_YT (h : A) : if decide (V.non = V.non) = true then A else B := iteT (by simpa using h)
theorem i_YF (h : B) : if decide (V.int i = V.non) = true then A else B := iteF (by simpa using h)
end
/-- the store of a slot -/
theorem i_sl {K : PySem.W.Frag} {ta tv : TE} {f : Str} {nx bk ct : L2.St → Hp → Prop} {rt : VK} {σ : L2.St} {H : Hp} (h : tv σ H fun y H1 => ta σ H1 fun x H2 => ∃ a C dx p vs i, x = .ref a ∧ Slt H2 a C dx vs ∧ SCls K C ∧ Slot1 K C f p i ∧ nx σ (slH H2 a C dx (putS i y vs))) :
    sSl K ta tv f (Ends.mk nx rt bk ct) σ H := h
theorem i_slput {K : PySem.W.Frag} {f : Str} {a C dx p : Addr} {vs ws : List (Option V)} {i : Nat} {y : V} {H : Hp} {R : Hp → Prop} (h : Slt H a C dx vs) (c : SCls K C) (s : Slot1 K C f p i) (ne : dx ≠ a) (e : putS i y vs = ws)
    (q : ∀ H', (∀ b o, b ≠ a → b ≠ dx → H b = some o → H' b = some o) → Slt H' a C dx ws → R H') :
    ∃ a' C dx p vs i, V.ref a = .ref a' ∧ Slt H a' C dx vs ∧ SCls K C ∧ Slot1 K C f p i ∧ R (slH H a' C dx (putS i y vs)) :=
  ⟨a, C, dx, p, vs, i, rfl, h, c, s, q _ (fun b o n1 n2 z => by rw [slH_ne n1 n2]; exact z) (by rw [e]; exact slH_slt ne)⟩
theorem i_slget {K : PySem.W.Frag} {ta : TE} {f : Str} {σ : L2.St} {H : Hp} {Q : VK} (h : ta σ H fun x H1 => ∃ a C dx p vs i v, x = .ref a ∧ Slt H1 a C dx vs ∧ SCls K C ∧ Slot1 K C f p i ∧ vs[i]? = some (some v) ∧ Q v H1) : SlX.tSl K ta f σ H Q := h
section
variable {P : Program} {w : World} {K : PySem.W.Frag} {mg : Str → Option Value} {base : Heap} {f : Addr} {fd : FuncData} {C p0 p1 p2 pl pm gl gm : Addr}
theorem ok_init (F : FunD K "__init__" "Many.__init__" (defArgs s_Many___init) (defBody s_Many___init) (defScope s_Many___init) [.non] [] f fd) (T : TM K mg C p0 p1 p2 pl pm gl gm) (D_want_count : Dn P w K mg base 3 "want_count" spWant) :
    FnOk P w K mg base CX0 4 f fd ["self", "least", "most"] (spInit C) := by
  refine F.ok sc_Many___init (fun vs H Q E h => ?_) (fun cdv A outer s H vs Q E hr h => ?_)
  · obtain ⟨x, dx, p, q, rfl, _⟩ := h
    rfl
  · obtain ⟨x, dx, p, q, rfl, ne, hx, ⟨o1, o2⟩, k⟩ := h
    refine ⟨_, (PSs.nox (pss_cons (ps_expr (pe_cl D_want_count (hr.mono (by decide)) (pa_cons (pv 1) pa_nil)))
      (pss_cons (ps_if (pt_cmp (pc_notN (pv 2)))
        (pss_cons (ps_expr (pe_cl D_want_count (hr.mono (by decide)) (pa_cons (pv 2) pa_nil)))
        (pss_one (ps_if (pt_cmpR op_lt (pv 2) (pv 1) (nomark _))
          (pss_one ps_never)
          pss_nil)))
        pss_nil)
      (pss_cons (SlX.ps_sl (pv 0) (pv 1))
      (pss_cons (SlX.ps_sl (pv 0) (pv 2))
      (pss_one (SlX.ps_sl (pv 0) (pe_tupN (pa_cons (pv 1) (pa_cons (pe_callTy call_int1 (by rfl) T.b_int (by decide +kernel) (pa_cons (pe_cmp (pc_isN (pv 2))) pa_nil)) (pa_cons (pe_ifExp (pt_cmp (pc_isN (pv 2))) pe_int (pv 2)) pa_nil))))))))))), ?_⟩
    have fin : ∀ {H2 H3 : Hp} {t : Addr}, (∀ b o, b ≠ x → b ≠ dx → H b = some o → H2 b = some o) → Slt H2 x C dx [some (.int p), some (optV q)] → Same H2 H3 → H2 t = none →
        H3 t = some (.tup [.int p, .int (if q = none then 1 else 0), .int (q.getD 0)]) → Q .non (slH H3 x C dx (putS 2 (.ref t) [some (.int p), some (optV q)])) := by
      intro H2 H3 t e2 z2 s3 nt ht
      have fr : t ≠ x ∧ t ≠ dx := by
        rcases z2 with ⟨y1, y2⟩ | ⟨y1, y2⟩
        · cases y2
        · exact ⟨Ne.symm (ne_of_none y1 nt), Ne.symm (ne_of_none y2 nt)⟩
      refine k _ (fun b o n1 n2 e => by rw [slH_ne n1 n2]; exact s3 _ _ (e2 b o n1 n2 e)) ⟨dx, t, _, slH_slt ne, ?_, ?_, ?_, by rw [slH_ne fr.1 fr.2]; exact ht⟩
      · rfl
      · rfl
      · rfl
    cases q with
    | none =>
      dsimp only [optV]
      repeat walk_at "rd"
      refine ⟨p, rfl, o1, ?_⟩
      repeat walk_at "rd"
      refine i_NT ?_
      repeat walk_at "rd"
      refine i_sl ?_
      repeat walk_at "rd"
      refine i_slput (.inl ⟨hx, rfl⟩) T.many.sc T.many.s0 ne (ws := [some (.int p)]) rfl fun H1 e1 z1 => ?_
      refine i_seq (i_sl ?_)
      repeat walk_at "rd"
      refine i_slput z1 T.many.sc T.many.s1 ne (ws := [some (.int p), some .non]) rfl fun H2 e2 z2 => ?_
      refine i_sl ?_
      repeat walk_at "rd"
      refine i_YT ?_
      repeat walk_at "rd"
      refine i_new rfl fun t H3 nt s3 ht => ?_
      repeat walk_at "rd"
      refine ⟨x, C, dx, _, _, _, rfl, ?_, T.many.sc, T.many.s2, fin (fun b o n1 n2 e => e2 b o n1 n2 (e1 b o n1 n2 e)) z2 s3 nt ht⟩
      rcases z2 with ⟨y1, y2⟩ | ⟨y1, y2⟩
      · exact .inl ⟨s3 _ _ y1, y2⟩
      · exact .inr ⟨s3 _ _ y1, s3 _ _ y2⟩
    | some z =>
      have o3 := o2 z rfl
      dsimp only [optV]
      repeat walk_at "rd"
      refine ⟨p, rfl, o1, ?_⟩
      repeat walk_at "rd"
      refine i_NF ?_
      repeat walk_at "rd"
      refine ⟨z, rfl, by omega, ?_⟩
      repeat walk_at "rd"
      rw [decide_eq_false (show ¬ z < p by omega)]
      repeat walk_at "rd"
      refine i_sl ?_
      repeat walk_at "rd"
      refine i_slput (.inl ⟨hx, rfl⟩) T.many.sc T.many.s0 ne (ws := [some (.int p)]) rfl fun H1 e1 z1 => ?_
      refine i_seq (i_sl ?_)
      repeat walk_at "rd"
      refine i_slput z1 T.many.sc T.many.s1 ne (ws := [some (.int p), some (.int z)]) rfl fun H2 e2 z2 => ?_
      refine i_sl ?_
      repeat walk_at "rd"
      refine i_YF ?_
      repeat walk_at "rd"
      refine i_new rfl fun t H3 nt s3 ht => ?_
      repeat walk_at "rd"
      refine ⟨x, C, dx, _, _, _, rfl, ?_, T.many.sc, T.many.s2, fin (fun b o n1 n2 e => e2 b o n1 n2 (e1 b o n1 n2 e)) z2 s3 nt ht⟩
      rcases z2 with ⟨y1, y2⟩ | ⟨y1, y2⟩
      · exact .inl ⟨s3 _ _ y1, y2⟩
      · exact .inr ⟨s3 _ _ y1, s3 _ _ y2⟩
theorem ok_least (F : Fun K "least" "Many.least" s_Many_least f fd) (T : TM K mg C p0 p1 p2 pl pm gl gm) : FnOk P w K mg base CX0 1 f fd ["self"] (spLeast C) := by
  refine F.ok sc_Many_least (fun vs H Q E h => ?_) (fun cdv A outer s H vs Q E hr h => ?_)
  · obtain ⟨a, p, q, rfl, _⟩ := h
    rfl
  · obtain ⟨a, p, q, rfl, ⟨dx, t, vs, h1, h2, h3, h4⟩, k⟩ := h
    refine ⟨_, (pss_one (ps_ret (SlX.pe_sl (pv 0)))), ?_⟩
    repeat walk_at "rd"
    refine i_slget ?_
    repeat walk_at "rd"
    exact ⟨a, C, dx, _, vs, _, _, rfl, h1, T.many.sc, T.many.s0, h2, k⟩
theorem ok_most (F : Fun K "most" "Many.most" s_Many_most f fd) (T : TM K mg C p0 p1 p2 pl pm gl gm) : FnOk P w K mg base CX0 1 f fd ["self"] (spMost C) := by
  refine F.ok sc_Many_most (fun vs H Q E h => ?_) (fun cdv A outer s H vs Q E hr h => ?_)
  · obtain ⟨a, p, q, rfl, _⟩ := h
    rfl
  · obtain ⟨a, p, q, rfl, ⟨dx, t, vs, h1, h2, h3, h4⟩, k⟩ := h
    refine ⟨_, (pss_one (ps_ret (SlX.pe_sl (pv 0)))), ?_⟩
    repeat walk_at "rd"
    refine i_slget ?_
    repeat walk_at "rd"
    exact ⟨a, C, dx, _, vs, _, _, rfl, h1, T.many.sc, T.many.s1, h3, k⟩
end
end K35

set_option Elab.async false
set_option linter.all false
set_option maxRecDepth 100000
set_option maxHeartbeats 4000000
namespace K35
open L2 PyProof.Rows PySem.Spec PySem G58 SlX K35M
local macro_rules | `(tactic| walk_at "rd") => `(tactic| first
  | (with_reducible refine i_seq ?_)
  | ((with_reducible refine' i_var ?rdh ?_); (case rdh => exact rfl))
  | (with_reducible refine i_c ?_)
  | (with_reducible refine i_op ?_)
  | (with_reducible refine i_I0 ?_)
  | (with_reducible refine i_set ?_)
  | (with_reducible refine i_ret ?_)
  | (with_reducible refine i_cons ?_)
  | (with_reducible refine i_nil ?_)
  | (with_reducible refine i_cb ?_)
  | (with_reducible refine i_call ?_)
  | (with_reducible refine i_tup ?_)
  | (with_reducible refine i_lst ?_)
  | (with_reducible refine i_ifS ?_)
  | (with_reducible refine i_test ?_)
  | (with_reducible refine i_B ?_)
  | (with_reducible refine i_bl ?_)
  | (with_reducible refine i_isN ?_)
  | (with_reducible refine i_notN ?_)
  | (with_reducible refine i_andV ?_)
  | (with_reducible refine i_orV ?_)
  | (with_reducible refine i_notV ?_)
  | (with_reducible refine i_and ?_)
  | (with_reducible refine i_or ?_)
  | (with_reducible refine i_not ?_)
  | (with_reducible refine i_if ?_)
  | (with_reducible refine i_par ?_)
  | (with_reducible refine i_par2 ?_)
  | (with_reducible refine i_drop ?_)
  | (with_reducible refine i_next ?_)
  | (with_reducible refine i_retN ?_)
  | (with_reducible refine i_iteT ?_)
  | (with_reducible refine i_iteF ?_)
  | (with_reducible refine i_un ?_)
  | (with_reducible refine i_U ?_)
  | (with_reducible refine i_isiII ?_)
  | (with_reducible refine i_isiIB ?_)
  | (with_reducible refine i_nT ?_)
  | (with_reducible refine i_nF ?_)
  | (with_reducible refine i_p10_4 ?_)
  | (with_reducible refine i_p10_9 ?_)
  | (with_reducible refine i_p10_18 ?_)
  | (with_reducible refine i_p10_20 ?_)
  | (with_reducible refine i_p10_30 ?_)
  | (with_reducible refine i_p10_40 ?_)
  | (with_reducible refine i_p10_58 ?_)
  | (with_reducible refine i_p10_60 ?_)
  | (with_reducible refine i_p10_61 ?_)
  | (with_reducible refine i_p10_64 ?_)
  | (with_reducible refine i_ex1 ?_)
  | (with_reducible refine i_ex2 ?_)
  | (with_reducible refine i_toI ?_)
  | (with_reducible refine i_toB ?_)
  | ((with_reducible refine' i_ixL ?rdh ?rda ?_); (case rdh => exact SqL.of (by assumption)); (case rda => exact rfl))
  | ((with_reducible refine' i_ixT ?rdh ?rda ?_); (case rdh => exact SqT.of (by assumption)); (case rda => exact rfl))
  | (with_reducible refine i_mulR ⟨by decide, by decide⟩ ?_)
  | (with_reducible refine i_mulL ⟨by decide, by decide⟩ ?_)
  | (with_reducible refine i_mod (by decide) ?_)
  | (with_reducible refine i_div ⟨by decide, by decide⟩ ?_)
  | ((with_reducible refine' i_gtup ?rdh ?rdl ?_); (case rdh => exact SqT.of (by assumption)); (case rdl => exact rfl))
  | (with_reducible refine i_gcons ?_)
  | (with_reducible refine i_gnil ?_)
  | (with_reducible refine i_gname ?_)
  | (with_reducible refine i_gsub ?_)
  | (with_reducible refine i_bm ?_)
  | (with_reducible refine i_bm0 ?_)
  | ((with_reducible refine' i_tyL ?rdh ?_); (case rdh => assumption))
  | (with_reducible refine i_for ?_)
  | (with_reducible refine i_itup ?_)
  | (with_reducible refine i_ilist ?_)
  | (with_reducible refine i_irng1 ?_)
  | (with_reducible refine i_irng2 ?_)
  | (with_reducible refine i_lc ?_)
  | (with_reducible refine i_yes ?_)
  | (with_reducible refine i_asg ?_)
  | dsimp only)
structure MkM (P : Program) (w : World) (K : PySem.W.Frag) (mg : Str → Option Value) (base : Heap) (C : Addr) : Prop where
  ex : ∃ (fI : Addr) (fd : FuncData), Mk K C fI ∧ FnOk P w K mg base CX0 4 fI fd ["self", "least", "most"] (spInit C) ∧ Binds K fd ["self", "least", "most"] [] ∧ ∃ ds, Vals [.non] ds ∧ Binds K fd ["self", "least", "most"] ds
def ManyOk (C : Addr) (vs : List V) (H : Hp) (Q : VK) : Prop := ∃ (p : Int) (q : Option Int), vs = [.int p, optV q] ∧ Okq p q ∧ ∀ m H', H m = none → Same H H' → MA C H' m p q → Q (.ref m) H'
def tMkM (C : Addr) (dvs : List V) (t : TA) : TE := tMake C (spInit C) dvs E0 (moA t)
theorem i_mkM {C : Addr} {dvs : List V} {t : TA} {σ : L2.St} {H : Hp} {Q : VK} (h : t σ H fun vs H1 => ManyOk C (vs ++ dvs) H1 Q) : tMkM C dvs t σ H Q := by
  refine ⟨_, h, fun vs H1 z => ?_⟩
  obtain ⟨p, q, e, o, k⟩ := z
  intro x dx nx ndx ne
  refine ⟨x, dx, p, q, by rw [e], ne, upd_same, o, fun H' e' m => ⟨rfl, k x H' nx (fun b o hb => ?_) m⟩⟩
  have n1 := ne_of_none hb nx
  have n2 := ne_of_none hb ndx
  exact e' b o n1 n2 (by rw [upd_ne n1, upd_ne n2]; exact hb)
section
variable {X : Cx} {C : Addr} {e : Expr} {es : List Expr} {t : TA} {p pos : Pos}
theorem pe_mk1 (M : MkM X.prog X.w X.K X.mg X.base C) (hm : X.mg "Many" = some (.ref C)) (hr : Room 5 X.A) (ha : PA X (e :: es) t) (hg : Gl X "Many" := by rfl)
    (he : starEach (e :: es) X.env = (false, eval e X.env) :: starEach es X.env := by rfl) (hpl : (backTo pos (starEach es X.env)).any (·.1) = false := by rfl) :
    PE X (.Call (.Name "Many" p) (e :: es) [] pos) (tMkM C [.non] t) := by
  obtain ⟨fI, fd, mk, F, b0, ds, r, b1⟩ := M.ex
  exact pe_make mk F hr hg hm b1 r pass0 (pa_mo ha) (by decide) he hpl
theorem pe_mk2 (M : MkM X.prog X.w X.K X.mg X.base C) (hm : X.mg "Many" = some (.ref C)) (hr : Room 5 X.A) (ha : PA X (e :: es) t) (hg : Gl X "Many" := by rfl)
    (he : starEach (e :: es) X.env = (false, eval e X.env) :: starEach es X.env := by rfl) (hpl : (backTo pos (starEach es X.env)).any (·.1) = false := by rfl) :
    PE X (.Call (.Name "Many" p) (e :: es) [] pos) (tMkM C [] t) := by
  obtain ⟨fI, fd, mk, F, b0, ds, r, b1⟩ := M.ex
  exact pe_make mk F hr hg hm b0 .nil pass0 (pa_mo ha) (by decide) he hpl
end
section
variable {C : Addr} {ta : TE} {σ : L2.St} {H : Hp} {Q : VK} {sp : Sp} {E : XK} {a : Addr} {p : Int} {q : Option Int}
theorem i_prop (h : ta σ H fun x H1 => ∃ a dx vs, x = .ref a ∧ Slt H1 a C dx vs ∧ sp [.ref a] H1 Q E) : tPropSl C sp E ta σ H Q := h
theorem i_pl (h : MA C H a p q) (k : Q (.int p) H) : ∃ a' dx vs, V.ref a = .ref a' ∧ Slt H a' C dx vs ∧ spLeast C [.ref a'] H Q E :=
  let ⟨dx, _, vs, h1, _⟩ := id h; ⟨a, dx, vs, rfl, h1, a, p, q, rfl, h, k⟩
theorem i_pmS {y : Int} (h : MA C H a p (some y)) (k : Q (.int y) H) : ∃ a' dx vs, V.ref a = .ref a' ∧ Slt H a' C dx vs ∧ spMost C [.ref a'] H Q E :=
  let ⟨dx, _, vs, h1, _⟩ := id h; ⟨a, dx, vs, rfl, h1, a, p, _, rfl, h, k⟩
theorem i_pmN (h : MA C H a p none) (k : Q .non H) : ∃ a' dx vs, V.ref a = .ref a' ∧ Slt H a' C dx vs ∧ spMost C [.ref a'] H Q E :=
  let ⟨dx, _, vs, h1, _⟩ := id h; ⟨a, dx, vs, rfl, h1, a, p, _, rfl, h, k⟩
theorem i_pm (h : MA C H a p q) (k : Q (optV q) H) : ∃ a' dx vs, V.ref a = .ref a' ∧ Slt H a' C dx vs ∧ spMost C [.ref a'] H Q E :=
  let ⟨dx, _, vs, h1, _⟩ := id h; ⟨a, dx, vs, rfl, h1, a, p, q, rfl, h, k⟩
end
local macro_rules | `(tactic| walk_at "rm") => `(tactic| first
  | walk_at "rd"
  | (with_reducible refine i_prop ?_)
  | ((with_reducible refine' i_pl ?rdh ?_); (case rdh => assumption))
  | ((with_reducible refine' i_pmS ?rdh ?_); (case rdh => assumption))
  | ((with_reducible refine' i_pmN ?rdh ?_); (case rdh => assumption))
  | ((with_reducible refine' i_pm ?rdh ?_); (case rdh => assumption))
  | (with_reducible refine i_mkM ?_)
  | (with_reducible refine i_NT ?_)
  | (with_reducible refine i_NF ?_)
  | (with_reducible refine i_YT ?_)
  | (with_reducible refine i_YF ?_))
/-- bounded by so many bits, from 0 on -/
def Bd (n : Nat) (i : Int) : Prop := 0 ≤ i ∧ i < 2 ^ n
theorem Bd.abs {n : Nat} {i : Int} (h : Bd n i) : i.natAbs < 2 ^ n := by
  have h2 : i < ((2 ^ n : Nat) : Int) := by
    have := h.2
    rw [Int.natCast_pow]
    exact this
  have := h.1
  omega
theorem Bd.mono {n m : Nat} {i : Int} (h : Bd n i) (e : n ≤ m) : Bd m i := by
  refine ⟨h.1, Int.lt_of_lt_of_le h.2 ?_⟩
  exact_mod_cast Nat.pow_le_pow_right (by decide) e
theorem Bd.mul {n m : Nat} {i j : Int} (h : Bd n i) (h' : Bd m j) : Bd (n + m) (i * j) := by
  refine ⟨Int.mul_nonneg h.1 h'.1, ?_⟩
  have := wide_lt h.abs h'.abs
  have z := Int.mul_nonneg h.1 h'.1
  have e : ((i * j).natAbs : Int) = i * j := by omega
  rw [← e]
  exact_mod_cast this
theorem bmul {n m : Nat} {i j : Int} (h : Bd n i) (h' : Bd m j) (a : 0 < n) (b : 0 < m) (c : n + m ≤ 1000000) : CMulW i j := wide_mul h.abs h'.abs a b c
theorem i_mulW {n m : Nat} {g : Int → Int → V} {i j : Int} {H : Hp} {Q : VK} (h : Bd n i) (h' : Bd m j) (q : Q (g i j) H) (a : decide (0 < n ∧ 0 < m ∧ n + m ≤ 1000000) = true := by rfl) : rI CMulW g (.int i) (.int j) H Q :=
  let ⟨a1, a2, a3⟩ := of_decide_eq_true a; i_I (bmul h h' a1 a2 a3) q
/-- sizes and numbers of partners, as far as they come -/
abbrev Sz := Bd 300
abbrev Nm := Bd 100
structure Nq (p : Int) (q : Option Int) : Prop where
  ok : Okq p q
  bp : Nm p
  bq : ∀ z, q = some z → Nm z
abbrev s_wrong_line : Stmt := top 26
abbrev n_wrong_line : List Str := ["near", "near_many", "far", "far_many"]
theorem sc_wrong_line : FnScope n_wrong_line ["near", "near_many", "far", "far_many"] (defScope s_wrong_line) := ⟨rfl, rfl, rfl, by decide +kernel, rfl, by decide +kernel, by decide +kernel⟩
abbrev s_totals_between : Stmt := top 27
abbrev n_totals_between : List Str := ["near", "near_many", "far", "far_many", "tops"]
theorem sc_totals_between : FnScope n_totals_between ["near", "near_many", "far", "far_many"] (defScope s_totals_between) := ⟨rfl, rfl, rfl, by decide +kernel, rfl, by decide +kernel, by decide +kernel⟩
abbrev s_totals : Stmt := top 28
abbrev n_totals : List Str := ["near", "near_many", "far", "far_many", "size", "many"]
theorem sc_totals : FnScope n_totals ["near", "near_many", "far", "far_many"] (defScope s_totals) := ⟨rfl, rfl, rfl, by decide +kernel, rfl, by decide +kernel, by decide +kernel⟩
def spWrong (C : Addr) : Sp := fun vs H Q _ => ∃ (a b : Int) (m1 m2 : Addr) (p r : Int) (q s : Option Int), vs = [.int a, .ref m1, .int b, .ref m2] ∧ MA C H m1 p q ∧ MA C H m2 r s ∧ Nq p q ∧ Nq r s ∧ Sz a ∧ Sz b ∧
  ∀ v, (bad a p q b r s = true → v ≠ .non) → (bad a p q b r s = false → v = .non) → Q v H
section
variable {P : Program} {w : World} {K : PySem.W.Frag} {mg : Str → Option Value} {base : Heap} {f : Addr} {fd : FuncData} {C p0 p1 p2 pl pm gl gm : Addr}
theorem ok_wrong (F : Fun K "wrong_line" "wrong_line" s_wrong_line f fd) (T : TM K mg C p0 p1 p2 pl pm gl gm) (D_least : FnR P w K mg base CX0 1 gl (spLeast C)) (D_most : FnR P w K mg base CX0 1 gm (spMost C)) :
    FnOk P w K mg base CX0 3 f fd ["near", "near_many", "far", "far_many"] (spWrong C) := by
  refine F.ok sc_wrong_line (fun vs H Q E h => ?_) (fun cdv A outer s H vs Q E hr h => ?_)
  · obtain ⟨a, b, m1, m2, p, r, q, z, rfl, _⟩ := h
    rfl
  · obtain ⟨a, b, m1, m2, p, r, q, z, rfl, M1, M2, N1, N2, ha, hb, k⟩ := h
    refine ⟨_, (pss_cons (ps_if (PW.pt (pw_and (pt_cmp (pc_notN (pe_propSl (E := E0) (pv 3) T.many.sc T.many.a_most T.many.p_most T.many.t_most T.many.r_most D_most (hr.mono (by decide)) (fun _ _ _ _ z => z)))) (pw_and1 (pt_cmpR op_lt (pe_op op_mulW (pv 2) (pe_propSl (E := E0) (pv 3) T.many.sc T.many.a_most T.many.p_most T.many.t_most T.many.r_most D_most (hr.mono (by decide)) (fun _ _ _ _ z => z))) (pe_op op_mulW (pv 0) (pe_propSl (E := E0) (pv 1) T.many.sc T.many.a_least T.many.p_least T.many.t_least T.many.r_least D_least (hr.mono (by decide)) (fun _ _ _ _ z => z))) (nomark _)))))
        (pss_one (ps_ret pe_int))
        pss_nil)
      (pss_cons (ps_if (PW.pt (pw_and (pt_cmp (pc_notN (pe_propSl (E := E0) (pv 1) T.many.sc T.many.a_most T.many.p_most T.many.t_most T.many.r_most D_most (hr.mono (by decide)) (fun _ _ _ _ z => z)))) (pw_and1 (pt_cmpR op_lt (pe_op op_mulW (pv 0) (pe_propSl (E := E0) (pv 1) T.many.sc T.many.a_most T.many.p_most T.many.t_most T.many.r_most D_most (hr.mono (by decide)) (fun _ _ _ _ z => z))) (pe_op op_mulW (pv 2) (pe_propSl (E := E0) (pv 3) T.many.sc T.many.a_least T.many.p_least T.many.t_least T.many.r_least D_least (hr.mono (by decide)) (fun _ _ _ _ z => z))) (nomark _)))))
        (pss_one (ps_ret pe_int))
        pss_nil)
      (pss_cons (ps_if (PW.pt (pw_and (pt_cmpR op_gt (pv 0) pe_int (nomark _)) (pw_and1 (pt_cmpR op_lt (pv 2) (pe_propSl (E := E0) (pv 1) T.many.sc T.many.a_least T.many.p_least T.many.t_least T.many.r_least D_least (hr.mono (by decide)) (fun _ _ _ _ z => z)) (nomark _)))))
        (pss_one (ps_ret pe_int))
        pss_nil)
      (pss_one (ps_ret (pe_ifExp (PW.pt (pw_and (pt_cmpR op_gt (pv 2) pe_int (nomark _)) (pw_and1 (pt_cmpR op_lt (pv 0) (pe_propSl (E := E0) (pv 3) T.many.sc T.many.a_least T.many.p_least T.many.t_least T.many.r_least D_least (hr.mono (by decide)) (fun _ _ _ _ z => z)) (nomark _))))) pe_int pe_non)))))), ?_⟩
    have two : Nm p := N1.bp
    have two' : Nm r := N2.bp
    refine i_seq (i_ifT (ltO z b (a * p)) (fun QT g => ?_) (fun e1 => ?_) (fun e1 => ?_))
    · cases z with
      | none =>
        repeat walk_at "rm"
        exact g
      | some y =>
        have by_ := N2.bq y rfl
        repeat walk_at "rm"
        refine i_mulW hb by_ ?_
        repeat walk_at "rm"
        refine i_mulW ha two ?_
        repeat walk_at "rm"
        exact g
    · repeat walk_at "rm"
      exact k _ (fun _ => nofun) (fun h2 => by unfold bad at h2; rw [e1] at h2; simp at h2)
    refine i_next (i_seq (i_ifT (ltO q a (b * r)) (fun QT g => ?_) (fun e2 => ?_) (fun e2 => ?_)))
    · cases q with
      | none =>
        repeat walk_at "rm"
        exact g
      | some y =>
        have by_ := N1.bq y rfl
        repeat walk_at "rm"
        refine i_mulW ha by_ ?_
        repeat walk_at "rm"
        refine i_mulW hb two' ?_
        repeat walk_at "rm"
        exact g
    · repeat walk_at "rm"
      exact k _ (fun _ => nofun) (fun h2 => by unfold bad at h2; rw [e2] at h2; simp at h2)
    refine i_next (i_seq (i_ifT (decide (0 < a) && decide (b < p)) (fun QT g => ?_) (fun e3 => ?_) (fun e3 => ?_)))
    · repeat walk_at "rm"
      cases c : decide (0 < a) with
      | true =>
        rw [c] at g
        repeat walk_at "rm"
        exact g
      | false =>
        rw [c] at g
        repeat walk_at "rm"
        exact g
    · repeat walk_at "rm"
      exact k _ (fun _ => nofun) (fun h2 => by unfold bad at h2; rw [e3] at h2; simp at h2)
    refine i_next (i_ret (i_ifE (decide (0 < b) && decide (a < r)) (fun QT g => ?_) (fun e4 => ?_) (fun e4 => ?_)))
    · repeat walk_at "rm"
      cases c : decide (0 < b) with
      | true =>
        rw [c] at g
        repeat walk_at "rm"
        exact g
      | false =>
        rw [c] at g
        repeat walk_at "rm"
        exact g
    · repeat walk_at "rm"
      exact k _ (fun _ => nofun) (fun h2 => by unfold bad at h2; rw [e4] at h2; simp at h2)
    · repeat walk_at "rm"
      exact k _ (fun h2 => by unfold bad at h2; rw [e1, e2, e3, e4] at h2; simp at h2) (fun _ => rfl)
def part (a : Int) (q : Option Int) : List Int := match q with | none => [] | some z => [a * z]
/-- a result: no totals, or a tuple of two -/
def ResT (H : Hp) (v : V) : Option (Int × Int) → Prop
  | none => v = .non
  | some (x, y) => ∃ t, v = .ref t ∧ H t = some (.tup [.int x, .int y])
theorem ResT.same {H H' : Hp} {v : V} {o : Option (Int × Int)} (h : ResT H v o) (s : Same H H') : ResT H' v o := by
  match o, h with
  | none, h => exact h
  | some (x, y), ⟨t, e, h⟩ => exact ⟨t, e, s _ _ h⟩
def spBetween (C : Addr) : Sp := fun vs H Q _ => ∃ (a b : Int) (m1 m2 : Addr) (p r : Int) (q s : Option Int), vs = [.int a, .ref m1, .int b, .ref m2] ∧ MA C H m1 p q ∧ MA C H m2 r s ∧ Nq p q ∧ Nq r s ∧ Sz a ∧ Sz b ∧
  ∀ t H', Same H H' → H' t = some (.tup [.int (if b * r > a * p then b * r else a * p), .int (mnl (tops a q b s))]) → Q (.ref t) H'
def spTotals (C : Addr) : Sp := fun vs H Q _ => ∃ (a b : Int) (m1 m2 : Addr) (p r : Int) (q s : Option Int), vs = [.int a, .ref m1, .int b, .ref m2] ∧ MA C H m1 p q ∧ MA C H m2 r s ∧ Nq p q ∧ Nq r s ∧ Sz a ∧ Sz b ∧
  ∀ v H', Same H H' → ResT H' v (tot a p q b r s) → Q v H'
theorem ok_between (F : Fun K "totals_between" "totals_between" s_totals_between f fd) (T : TM K mg C p0 p1 p2 pl pm gl gm) (D_least : FnR P w K mg base CX0 1 gl (spLeast C)) (D_most : FnR P w K mg base CX0 1 gm (spMost C)) :
    FnOk P w K mg base CX0 3 f fd ["near", "near_many", "far", "far_many"] (spBetween C) := by
  refine F.ok sc_totals_between (fun vs H Q E h => ?_) (fun cdv A outer s H vs Q E hr h => ?_)
  · obtain ⟨a, b, m1, m2, p, r, q, z, rfl, _⟩ := h
    rfl
  · obtain ⟨a, b, m1, m2, p, r, q, z, rfl, M1, M2, N1, N2, ha, hb, k⟩ := h
    refine ⟨_, (pss_cons (ps_set (i := 4) sc_totals_between.nd rfl (Or.inl rfl) (pe_lstN (pa_cons (pe_op op_mulW (pv 0) (pv 2)) pa_nil)))
      (pss_cons (ps_if (pt_cmp (pc_notN (pe_propSl (E := E0) (pv 1) T.many.sc T.many.a_most T.many.p_most T.many.t_most T.many.r_most D_most (hr.mono (by decide)) (fun _ _ _ _ z => z))))
        (pss_one (ps_expr (pe_bm PySem.F.plainAttrs_list PySem.F.slot_list_append PySem.F.type_list_append mt_append (pv 4) (pa_cons (pe_op op_mulW (pv 0) (pe_propSl (E := E0) (pv 1) T.many.sc T.many.a_most T.many.p_most T.many.t_most T.many.r_most D_most (hr.mono (by decide)) (fun _ _ _ _ z => z))) pa_nil))))
        pss_nil)
      (pss_cons (ps_if (pt_cmp (pc_notN (pe_propSl (E := E0) (pv 3) T.many.sc T.many.a_most T.many.p_most T.many.t_most T.many.r_most D_most (hr.mono (by decide)) (fun _ _ _ _ z => z))))
        (pss_one (ps_expr (pe_bm PySem.F.plainAttrs_list PySem.F.slot_list_append PySem.F.type_list_append mt_append (pv 4) (pa_cons (pe_op op_mulW (pv 2) (pe_propSl (E := E0) (pv 3) T.many.sc T.many.a_most T.many.p_most T.many.t_most T.many.r_most D_most (hr.mono (by decide)) (fun _ _ _ _ z => z))) pa_nil))))
        pss_nil)
      (pss_one (ps_ret (pe_tupN (pa_cons (pe_callB (call_max2 rfl) (by rfl) T.b_max (by decide +kernel) (pa_cons (pe_op op_mulW (pv 0) (pe_propSl (E := E0) (pv 1) T.many.sc T.many.a_least T.many.p_least T.many.t_least T.many.r_least D_least (hr.mono (by decide)) (fun _ _ _ _ z => z))) (pa_cons (pe_op op_mulW (pv 2) (pe_propSl (E := E0) (pv 3) T.many.sc T.many.a_least T.many.p_least T.many.t_least T.many.r_least D_least (hr.mono (by decide)) (fun _ _ _ _ z => z))) pa_nil))) (pa_cons (pe_callB (cr_min rfl) (by rfl) T.b_min (by decide +kernel) (pa_cons (pv 4) pa_nil)) pa_nil)))))))), ?_⟩
    have bp : Nm p := N1.bp
    have br : Nm r := N2.bp
    repeat walk_at "rm"
    refine i_mulW ha hb ?_
    repeat walk_at "rm"
    refine i_new rfl fun l H1 nl s1 hl => ?_
    replace M1 := M1.same s1
    replace M2 := M2.same s1
    refine i_seq (i_ifJ (decide (q ≠ none)) (fun H' => Ext l H1 H' ∧ H' l = some (.lst (((a * b) :: part a q).map V.int))) (fun QT g => ?_) (fun e nx' g => ?_) (fun e nx' g => ?_) ?_)
    · cases q <;> (repeat walk_at "rm") <;> exact g
    · cases q with
      | none => simp at e
      | some y =>
        have by_ := N1.bq y rfl
        repeat walk_at "rm"
        refine i_mulW ha by_ ?_
        repeat walk_at "rm"
        refine i_append hl (by simp) fun H2 e2 h2 => ?_
        exact g H2 ⟨e2, h2⟩
    · cases q with
      | none =>
        repeat walk_at "rm"
        exact g H1 ⟨Ext.refl _ _, hl⟩
      | some y => simp at e
    rintro H2 ⟨e2, hl2⟩
    replace M1 := M1.ext hl e2
    replace M2 := M2.ext hl e2
    have s2 : Same H H2 := same_ext s1 nl e2
    refine i_seq (i_ifJ (decide (z ≠ none)) (fun H' => Ext l H2 H' ∧ H' l = some (.lst ((tops a q b z).map V.int))) (fun QT g => ?_) (fun e nx' g => ?_) (fun e nx' g => ?_) ?_)
    · cases z <;> (repeat walk_at "rm") <;> exact g
    · cases z with
      | none => simp at e
      | some y =>
        have by_ := N2.bq y rfl
        repeat walk_at "rm"
        refine i_mulW hb by_ ?_
        repeat walk_at "rm"
        refine i_append hl2 (by cases q <;> simp [part]) fun H3 e3 h3 => ?_
        refine g H3 ⟨e3, ?_⟩
        rw [h3]
        cases q <;> rfl
    · cases z with
      | none =>
        repeat walk_at "rm"
        refine g H2 ⟨Ext.refl _ _, ?_⟩
        rw [hl2]
        cases q <;> rfl
      | some y => simp at e
    rintro H3 ⟨e3, hl3⟩
    replace M1 := M1.ext hl2 e3
    replace M2 := M2.ext hl2 e3
    have s3 : Same H H3 := same_ext s2 nl e3
    repeat walk_at "rm"
    refine i_mulW ha bp ?_
    repeat walk_at "rm"
    refine i_mulW hb br ?_
    repeat walk_at "rm"
    refine ⟨l, tops a q b z, rfl, SqL.of hl3, by simp [tops], fun m hm1 hm2 => ?_⟩
    have em := mnl_is (by simp [tops]) hm1 hm2
    subst em
    repeat walk_at "rm"
    refine i_new rfl fun t H4 nt s4 ht => ?_
    exact k t H4 (s3.trans s4) ht
theorem kit_self (K : PySem.W.Frag) (C : Addr) : PySem.W.kitOne K (.ref C) (.ref C) = some true := by
  unfold PySem.W.kitOne
  rw [if_pos (by simp)]
theorem i_isiM {H : Hp} {Q : VK} {a : Addr} {p : Int} {q : Option Int} (T : MTxt K mg C p0 p1 p2 pl pm gl gm) (h : MA C H a p q) (k : Q (.bl true) H) : rIsiSl K (.ref C) [.ref a, .ref C] H Q :=
  let ⟨dx, _, vs, h1, _⟩ := h; ⟨a, C, dx, vs, .ref C, true, rfl, rfl, fun _ r => r, h1, T.sc, T.isi, kit_self K C, k⟩
theorem ok_totals (F : Fun K "totals" "totals" s_totals f fd) (T : TM K mg C p0 p1 p2 pl pm gl gm) (D_want_count : Dn P w K mg base 3 "want_count" spWant) (D_wrong_line : Dn P w K mg base 3 "wrong_line" (spWrong C)) (D_totals_between : Dn P w K mg base 3 "totals_between" (spBetween C)) :
    FnOk P w K mg base CX0 5 f fd ["near", "near_many", "far", "far_many"] (spTotals C) := by
  refine F.ok sc_totals (fun vs H Q E h => ?_) (fun cdv A outer s H vs Q E hr h => ?_)
  · obtain ⟨a, b, m1, m2, p, r, q, z, rfl, _⟩ := h
    rfl
  · obtain ⟨a, b, m1, m2, p, r, q, z, rfl, M1, M2, N1, N2, ha, hb, k⟩ := h
    refine ⟨_, (pss_cons (ps_for PassesOwn.never (by rfl) (pi_tup (pe_tupN (pa_cons (pe_tupN (pa_cons (pv 0) (pa_cons (pv 1) pa_nil))) (pa_cons (pe_tupN (pa_cons (pv 2) (pa_cons (pv 3) pa_nil))) pa_nil)))) (pg_tup (by rfl) (pgs_cons (pg_name (i := 4) sc_totals.nd rfl (Or.inl rfl)) (pgs_cons (pg_name (i := 5) sc_totals.nd rfl (Or.inl rfl)) pgs_nil)))
        (pss_cons (ps_expr (pe_cl D_want_count (hr.mono (by decide)) (pa_cons (pv 4) pa_nil)))
        (pss_one (ps_if (pt_not (pt_val (pe_callB (call_isiSl (.ref C)) (by rfl) T.b_isinstance (by decide +kernel) (pa_cons (pv 5) (pa_cons (pe_glob (v := .ref C) (by rfl) T.many.gC rfl) pa_nil)))))
          (pss_one ps_never)
          pss_nil))))
      (pss_cons (ps_if (pt_cmp (pc_notN (pe_cl D_wrong_line (hr.mono (by decide)) (pa_cons (pv 0) (pa_cons (pv 1) (pa_cons (pv 2) (pa_cons (pv 3) pa_nil)))))))
        (pss_one (ps_ret pe_non))
        pss_nil)
      (pss_one (ps_ret (pe_cl D_totals_between (hr.mono (by decide)) (pa_cons (pv 0) (pa_cons (pv 1) (pa_cons (pv 2) (pa_cons (pv 3) pa_nil))))))))), ?_⟩
    repeat walk_at "rm"
    refine i_new rfl fun t1 H1 n1 s1 h1 => ?_
    repeat walk_at "rm"
    refine i_new rfl fun t2 H2 n2 s2 h2 => ?_
    repeat walk_at "rm"
    refine i_new rfl fun t3 H3 n3 s3 h3 => ?_
    have s13 : Same H1 H3 := s2.trans s3
    replace h1 := s13 _ _ h1
    replace h2 := s3 _ _ h2
    have S : Same H H3 := s1.trans s13
    replace M1 := M1.same S
    replace M2 := M2.same S
    refine ⟨t3, rfl, ⟨_, SqT.of h3⟩, fTup (K := K) (a := t3) (xs := [.ref t1, .ref t2]) (fun i σ H' => H' = H3 ∧ ∃ u v, σ = [some (.int a), some (.ref m1), some (.int b), some (.ref m2), u, v]) ⟨rfl, _, _, rfl⟩ (fun i σ H' _ z => by rw [z.1]; exact SqT.of h3) ?_ ?_⟩
    · rintro i x σ H' hi ⟨rfl, u, v, rfl⟩
      obtain ⟨n, m, p', q', t, rfl, ht, hn, hm⟩ : ∃ n m p' q' t, x = .ref t ∧ H' t = some (.tup [.int n, .ref m]) ∧ 0 ≤ n ∧ MA C H' m p' q' := by
        match i, hi with
        | 0, hi => cases hi; exact ⟨a, m1, p, q, t1, rfl, h1, ha.1, M1⟩
        | 1, hi => cases hi; exact ⟨b, m2, r, z, t2, rfl, h2, hb.1, M2⟩
        | i + 2, hi => simp at hi
      repeat walk_at "rm"
      refine ⟨n, rfl, hn, ?_⟩
      repeat walk_at "rm"
      refine i_isiM T.many hm ?_
      repeat walk_at "rm"
      exact ⟨rfl, _, _, rfl⟩
    · rintro σ H' ⟨rfl, u, v, rfl⟩
      repeat walk_at "rm"
      refine ⟨a, b, m1, m2, p, r, q, z, rfl, M1, M2, N1, N2, ha, hb, fun v b1 b0 => ?_⟩
      cases c : bad a p q b r z with
      | true =>
        have nv := b1 c
        repeat walk_at "rm"
        rw [decide_eq_false nv]
        repeat walk_at "rm"
        refine k _ _ S ?_
        unfold tot
        rw [c]
        rfl
      | false =>
        have nv := b0 c
        subst nv
        repeat walk_at "rm"
        refine ⟨a, b, m1, m2, p, r, q, z, rfl, M1, M2, N1, N2, ha, hb, fun t H4 s4 ht => ?_⟩
        refine k _ _ (S.trans s4) ?_
        unfold tot
        rw [c]
        exact ⟨t, rfl, ht⟩
end
end K35

set_option Elab.async false
set_option linter.all false
set_option maxRecDepth 100000
set_option maxHeartbeats 4000000
namespace K35
open L2 PyProof.Rows PySem.Spec PySem G58 SlX K35M
local macro_rules | `(tactic| walk_at "rd") => `(tactic| first
  | (with_reducible refine i_seq ?_)
  | ((with_reducible refine' i_var ?rdh ?_); (case rdh => exact rfl))
  | (with_reducible refine i_c ?_)
  | (with_reducible refine i_op ?_)
  | (with_reducible refine i_I0 ?_)
  | (with_reducible refine i_set ?_)
  | (with_reducible refine i_ret ?_)
  | (with_reducible refine i_cons ?_)
  | (with_reducible refine i_nil ?_)
  | (with_reducible refine i_cb ?_)
  | (with_reducible refine i_call ?_)
  | (with_reducible refine i_tup ?_)
  | (with_reducible refine i_lst ?_)
  | (with_reducible refine i_ifS ?_)
  | (with_reducible refine i_test ?_)
  | (with_reducible refine i_B ?_)
  | (with_reducible refine i_bl ?_)
  | (with_reducible refine i_isN ?_)
  | (with_reducible refine i_notN ?_)
  | (with_reducible refine i_andV ?_)
  | (with_reducible refine i_orV ?_)
  | (with_reducible refine i_notV ?_)
  | (with_reducible refine i_and ?_)
  | (with_reducible refine i_or ?_)
  | (with_reducible refine i_not ?_)
  | (with_reducible refine i_if ?_)
  | (with_reducible refine i_par ?_)
  | (with_reducible refine i_par2 ?_)
  | (with_reducible refine i_drop ?_)
  | (with_reducible refine i_next ?_)
  | (with_reducible refine i_retN ?_)
  | (with_reducible refine i_iteT ?_)
  | (with_reducible refine i_iteF ?_)
  | (with_reducible refine i_un ?_)
  | (with_reducible refine i_U ?_)
  | (with_reducible refine i_isiII ?_)
  | (with_reducible refine i_isiIB ?_)
  | (with_reducible refine i_nT ?_)
  | (with_reducible refine i_nF ?_)
  | (with_reducible refine i_p10_4 ?_)
  | (with_reducible refine i_p10_9 ?_)
  | (with_reducible refine i_p10_18 ?_)
  | (with_reducible refine i_p10_20 ?_)
  | (with_reducible refine i_p10_30 ?_)
  | (with_reducible refine i_p10_40 ?_)
  | (with_reducible refine i_p10_58 ?_)
  | (with_reducible refine i_p10_60 ?_)
  | (with_reducible refine i_p10_61 ?_)
  | (with_reducible refine i_p10_64 ?_)
  | (with_reducible refine i_ex1 ?_)
  | (with_reducible refine i_ex2 ?_)
  | (with_reducible refine i_toI ?_)
  | (with_reducible refine i_toB ?_)
  | ((with_reducible refine' i_ixL ?rdh ?rda ?_); (case rdh => exact SqL.of (by assumption)); (case rda => exact rfl))
  | ((with_reducible refine' i_ixT ?rdh ?rda ?_); (case rdh => exact SqT.of (by assumption)); (case rda => exact rfl))
  | (with_reducible refine i_mulR ⟨by decide, by decide⟩ ?_)
  | (with_reducible refine i_mulL ⟨by decide, by decide⟩ ?_)
  | (with_reducible refine i_mod (by decide) ?_)
  | (with_reducible refine i_div ⟨by decide, by decide⟩ ?_)
  | ((with_reducible refine' i_gtup ?rdh ?rdl ?_); (case rdh => exact SqT.of (by assumption)); (case rdl => exact rfl))
  | (with_reducible refine i_gcons ?_)
  | (with_reducible refine i_gnil ?_)
  | (with_reducible refine i_gname ?_)
  | (with_reducible refine i_gsub ?_)
  | (with_reducible refine i_bm ?_)
  | (with_reducible refine i_bm0 ?_)
  | ((with_reducible refine' i_tyL ?rdh ?_); (case rdh => assumption))
  | (with_reducible refine i_for ?_)
  | (with_reducible refine i_itup ?_)
  | (with_reducible refine i_ilist ?_)
  | (with_reducible refine i_irng1 ?_)
  | (with_reducible refine i_irng2 ?_)
  | (with_reducible refine i_lc ?_)
  | (with_reducible refine i_yes ?_)
  | (with_reducible refine i_asg ?_)
  | dsimp only)
local macro_rules | `(tactic| walk_at "rm") => `(tactic| first
  | walk_at "rd"
  | (with_reducible refine i_prop ?_)
  | ((with_reducible refine' i_pl ?rdh ?_); (case rdh => assumption))
  | ((with_reducible refine' i_pmS ?rdh ?_); (case rdh => assumption))
  | ((with_reducible refine' i_pmN ?rdh ?_); (case rdh => assumption))
  | ((with_reducible refine' i_pm ?rdh ?_); (case rdh => assumption))
  | (with_reducible refine i_mkM ?_)
  | (with_reducible refine i_NT ?_)
  | (with_reducible refine i_NF ?_)
  | (with_reducible refine i_YT ?_)
  | (with_reducible refine i_YF ?_))
local macro_rules | `(tactic| walk_at "rn") => `(tactic| first
  | (with_reducible refine i_seq ?_)
  | ((with_reducible refine' i_var ?rdh ?_); (case rdh => exact rfl))
  | (with_reducible refine i_c ?_)
  | (with_reducible refine i_op ?_)
  | (with_reducible refine i_I0 ?_)
  | (with_reducible refine i_set ?_)
  | (with_reducible refine i_ret ?_)
  | (with_reducible refine i_cons ?_)
  | (with_reducible refine i_nil ?_)
  | (with_reducible refine i_cb ?_)
  | (with_reducible refine i_call ?_)
  | (with_reducible refine i_tup ?_)
  | (with_reducible refine i_lst ?_)
  | (with_reducible refine i_ifS ?_)
  | (with_reducible refine i_test ?_)
  | (with_reducible refine i_B ?_)
  | (with_reducible refine i_bl ?_)
  | (with_reducible refine i_isN ?_)
  | (with_reducible refine i_notN ?_)
  | (with_reducible refine i_andV ?_)
  | (with_reducible refine i_orV ?_)
  | (with_reducible refine i_notV ?_)
  | (with_reducible refine i_and ?_)
  | (with_reducible refine i_or ?_)
  | (with_reducible refine i_not ?_)
  | (with_reducible refine i_par ?_)
  | (with_reducible refine i_par2 ?_)
  | (with_reducible refine i_drop ?_)
  | (with_reducible refine i_next ?_)
  | (with_reducible refine i_retN ?_)
  | (with_reducible refine i_iteT ?_)
  | (with_reducible refine i_iteF ?_)
  | (with_reducible refine i_un ?_)
  | (with_reducible refine i_U ?_)
  | (with_reducible refine i_isiII ?_)
  | (with_reducible refine i_isiIB ?_)
  | (with_reducible refine i_nT ?_)
  | (with_reducible refine i_nF ?_)
  | (with_reducible refine i_p10_4 ?_)
  | (with_reducible refine i_p10_9 ?_)
  | (with_reducible refine i_p10_18 ?_)
  | (with_reducible refine i_p10_20 ?_)
  | (with_reducible refine i_p10_30 ?_)
  | (with_reducible refine i_p10_40 ?_)
  | (with_reducible refine i_p10_58 ?_)
  | (with_reducible refine i_p10_60 ?_)
  | (with_reducible refine i_p10_61 ?_)
  | (with_reducible refine i_p10_64 ?_)
  | (with_reducible refine i_ex1 ?_)
  | (with_reducible refine i_ex2 ?_)
  | (with_reducible refine i_toI ?_)
  | (with_reducible refine i_toB ?_)
  | ((with_reducible refine' i_ixL ?rdh ?rda ?_); (case rdh => exact SqL.of (by assumption)); (case rda => exact rfl))
  | ((with_reducible refine' i_ixT ?rdh ?rda ?_); (case rdh => exact SqT.of (by assumption)); (case rda => exact rfl))
  | (with_reducible refine i_mulR ⟨by decide, by decide⟩ ?_)
  | (with_reducible refine i_mulL ⟨by decide, by decide⟩ ?_)
  | (with_reducible refine i_mod (by decide) ?_)
  | (with_reducible refine i_div ⟨by decide, by decide⟩ ?_)
  | ((with_reducible refine' i_gtup ?rdh ?rdl ?_); (case rdh => exact SqT.of (by assumption)); (case rdl => exact rfl))
  | (with_reducible refine i_gcons ?_)
  | (with_reducible refine i_gnil ?_)
  | (with_reducible refine i_gname ?_)
  | (with_reducible refine i_gsub ?_)
  | (with_reducible refine i_bm ?_)
  | (with_reducible refine i_bm0 ?_)
  | ((with_reducible refine' i_tyL ?rdh ?_); (case rdh => assumption))
  | (with_reducible refine i_for ?_)
  | (with_reducible refine i_itup ?_)
  | (with_reducible refine i_ilist ?_)
  | (with_reducible refine i_irng1 ?_)
  | (with_reducible refine i_irng2 ?_)
  | (with_reducible refine i_lc ?_)
  | (with_reducible refine i_yes ?_)
  | (with_reducible refine i_asg ?_)
  | dsimp only)
local macro_rules | `(tactic| walk_at "rmn") => `(tactic| first
  | walk_at "rn"
  | (with_reducible refine i_prop ?_)
  | ((with_reducible refine' i_pl ?rdh ?_); (case rdh => assumption))
  | ((with_reducible refine' i_pmS ?rdh ?_); (case rdh => assumption))
  | ((with_reducible refine' i_pmN ?rdh ?_); (case rdh => assumption))
  | ((with_reducible refine' i_pm ?rdh ?_); (case rdh => assumption))
  | (with_reducible refine i_mkM ?_)
  | (with_reducible refine i_NT ?_)
  | (with_reducible refine i_NF ?_)
  | (with_reducible refine i_YT ?_)
  | (with_reducible refine i_YF ?_))
abbrev s_law_made_many : Stmt := top 33
abbrev n_law_made_many : List Str := ["_law_pair"]
theorem sc_law_made_many : FnScope n_law_made_many ["_law_pair"] (defScope s_law_made_many) := ⟨rfl, rfl, rfl, by decide +kernel, rfl, by decide +kernel, by decide +kernel⟩
abbrev s_law_numbers_in : Stmt := top 34
abbrev n_law_numbers_in : List Str := ["_law_pot", "_law_top", "_law_low"]
theorem sc_law_numbers_in : FnScope n_law_numbers_in ["_law_pot"] (defScope s_law_numbers_in) := ⟨rfl, rfl, rfl, by decide +kernel, rfl, by decide +kernel, by decide +kernel⟩
abbrev s_law_sizes_in : Stmt := top 35
abbrev n_law_sizes_in : List Str := ["_law_pot", "_law_one", "_law_two", "_law_part", "_law_steps", "_law_first", "_law_second"]
theorem sc_law_sizes_in : FnScope n_law_sizes_in ["_law_pot", "_law_one", "_law_two"] (defScope s_law_sizes_in) := ⟨rfl, rfl, rfl, by decide +kernel, rfl, by decide +kernel, by decide +kernel⟩
abbrev s_law_due_totals : Stmt := top 36
abbrev n_law_due_totals : List Str := ["_law_a", "_law_one", "_law_b", "_law_two", "_law_greatest", "_law_size", "_law_top", "_law_high"]
theorem sc_law_due_totals : FnScope n_law_due_totals ["_law_a", "_law_one", "_law_b", "_law_two"] (defScope s_law_due_totals) := ⟨rfl, rfl, rfl, by decide +kernel, rfl, by decide +kernel, by decide +kernel⟩
/-- a pair of numbers of partners as the law keeps it -/
def PairAt (H : Hp) (t : Addr) (p : Int) (q : Option Int) : Prop := H t = some (.tup [.int p, optV q])
def spMadeMany (C : Addr) : Sp := fun vs H Q _ => ∃ (t : Addr) (p : Int) (q : Option Int), vs = [.ref t] ∧ PairAt H t p q ∧ Okq p q ∧ ∀ m H', Same H H' → MA C H' m p q → Q (.ref m) H'
def spNumbers : Sp := fun vs H Q _ => ∃ (p : Addr), vs = [.ref p] ∧ Pot H p ∧ ∀ t a b H', Ext p H H' → Pot H' p → PairAt H' t a b → Nq a b → Q (.ref t) H'
def spSizes : Sp := fun vs H Q _ => ∃ (p t1 t2 : Addr) (a c : Int) (b d : Option Int), vs = [.ref p, .ref t1, .ref t2] ∧ Pot H p ∧ PairAt H t1 a b ∧ PairAt H t2 c d ∧ Nq a b ∧ Nq c d ∧
  ∀ t x y H', Ext p H H' → Pot H' p → H' t = some (.tup [.int x, .int y]) → 0 ≤ x → x ≤ 10 ^ 60 → 0 ≤ y → y ≤ 10 ^ 60 → Q (.ref t) H'
def spDue : Sp := fun vs H Q _ => ∃ (a b : Int) (t1 t2 : Addr) (p r : Int) (q s : Option Int), vs = [.int a, .ref t1, .int b, .ref t2] ∧ PairAt H t1 p q ∧ PairAt H t2 r s ∧ Nq p q ∧ Nq r s ∧ Sz a ∧ Sz b ∧
  ∀ v H', Same H H' → ResT H' v (tot a p q b r s) → Q v H'
section
variable {P : Program} {w : World} {K : PySem.W.Frag} {mg : Str → Option Value} {base : Heap} {f : Addr} {fd : FuncData} {C p0 p1 p2 pl pm gl gm : Addr}
theorem ok_made_many (F : Fun K "_law_made_many" "_law_made_many" s_law_made_many f fd) (T : TM K mg C p0 p1 p2 pl pm gl gm) (MK : MkM P w K mg base C) : FnOk P w K mg base CX0 6 f fd ["_law_pair"] (spMadeMany C) := by
  refine F.ok sc_law_made_many (fun vs H Q E h => ?_) (fun cdv A outer s H vs Q E hr h => ?_)
  · obtain ⟨t, p, q, rfl, _⟩ := h
    rfl
  · obtain ⟨t, p, q, rfl, hp, ok, k⟩ := h
    refine ⟨_, (pss_one (ps_ret (pe_ifExp (pt_cmp (pc_isN (pe_ix ix_tup (pv 0) pe_int (fun _ _ => rfl)))) (pe_mk1 MK T.many.gC (hr.mono (by decide)) (pa_cons (pe_ix ix_tup (pv 0) pe_int (fun _ _ => rfl)) pa_nil)) (pe_mk2 MK T.many.gC (hr.mono (by decide)) (pa_cons (pe_ix ix_tup (pv 0) pe_int (fun _ _ => rfl)) (pa_cons (pe_ix ix_tup (pv 0) pe_int (fun _ _ => rfl)) pa_nil)))))), ?_⟩
    cases q with
    | none =>
      have hp' : H t = some (.tup [.int p, .non]) := hp
      repeat walk_at "rm"
      exact ⟨p, none, rfl, ok, fun m H1 _ s1 M => k m H1 s1 M⟩
    | some z =>
      have hp' : H t = some (.tup [.int p, .int z]) := hp
      repeat walk_at "rm"
      exact ⟨p, some z, rfl, ok, fun m H1 _ s1 M => k m H1 s1 M⟩
theorem log_small {m : Int} (h : m.natAbs < 2 ^ 9000) : m.natAbs.log2 < 9000 := PySem.Flt.log2_lt_of (by decide) h
theorem log_le {m : Int} (h0 : 0 ≤ m) (h : m ≤ 10 ^ 70) : m.natAbs.log2 < 9000 := by
  refine log_small (Nat.lt_of_le_of_lt (m := 10 ^ 70) ?_ (by decide +kernel))
  omega
theorem ok_numbers (F : Fun K "_law_numbers_in" "_law_numbers_in" s_law_numbers_in f fd) (T : TM K mg C p0 p1 p2 pl pm gl gm) (D__law_draw : Dn P w K mg base 1 "_law_draw" spDraw) (D__law_pick : Dn P w K mg base 2 "_law_pick" (spPick K)) :
    FnOk P w K mg base CX0 3 f fd ["_law_pot"] spNumbers := by
  refine F.ok sc_law_numbers_in (fun vs H Q E h => ?_) (fun cdv A outer s H vs Q E hr h => ?_)
  · obtain ⟨p, rfl, _⟩ := h
    rfl
  · obtain ⟨p, rfl, hp, k⟩ := h
    refine ⟨_, (pss_cons (ps_set (i := 1) sc_law_numbers_in.nd rfl (Or.inl rfl) (pe_cl D__law_pick (hr.mono (by decide)) (pa_cons (pv 0) (pa_cons (pe_lstN (pa_cons pe_int (pa_cons pe_int (pa_cons pe_int (pa_cons (pe_op op_pow pe_int pe_int) pa_nil))))) pa_nil))))
      (pss_cons (ps_set (i := 2) sc_law_numbers_in.nd rfl (Or.inl rfl) (pe_cl D__law_draw (hr.mono (by decide)) (pa_cons (pv 0) (pa_cons (pe_op op_add (pv 1) pe_int) pa_nil))))
      (pss_one (ps_ret (pe_cl D__law_pick (hr.mono (by decide)) (pa_cons (pv 0) (pa_cons (pe_lstN (pa_cons (pe_tupN (pa_cons (pv 2) (pa_cons (pe_op op_add (pv 2) (pe_cl D__law_draw (hr.mono (by decide)) (pa_cons (pv 0) (pa_cons (pv 1) pa_nil)))) pa_nil))) (pa_cons (pe_tupN (pa_cons (pv 2) (pa_cons (pv 2) pa_nil))) (pa_cons (pe_tupN (pa_cons (pv 2) (pa_cons pe_non pa_nil))) (pa_cons (pe_tupN (pa_cons pe_int (pa_cons (pv 2) pa_nil))) pa_nil))))) pa_nil))))))), ?_⟩
    repeat walk_at "rm"
    refine i_new rfl fun l H1 nl s1 hl => ?_
    replace hp := hp.same s1
    have nlp : l ≠ p := by
      obtain ⟨x, y, e, _⟩ := hp
      intro z
      rw [z] at hl nl
      rw [e] at hl
      cases hl
    refine ⟨p, l, _, rfl, hp, hl, nlp, by decide, by decide, fun v H2 hv e2 hp2 => ?_⟩
    obtain ⟨top, rfl, t0, t1⟩ : ∃ top : Int, v = .int top ∧ 1 ≤ top ∧ top ≤ 1000000000000000000 := by
      simp only [List.mem_cons, List.not_mem_nil, or_false] at hv
      rcases hv with rfl | rfl | rfl | rfl
      · exact ⟨6, rfl, by decide, by decide⟩
      · exact ⟨6, rfl, by decide, by decide⟩
      · exact ⟨6, rfl, by decide, by decide⟩
      · exact ⟨_, rfl, by decide, by decide⟩
    repeat walk_at "rm"
    refine ⟨p, _, rfl, hp2, by omega, log_le (by omega) (by omega), fun low H3 l0 l1 e3 hp3 => ?_⟩
    repeat walk_at "rm"
    refine ⟨p, _, rfl, hp3, by omega, log_le (by omega) (by omega), fun d H4 d0 d1 e4 hp4 => ?_⟩
    repeat walk_at "rm"
    refine i_new rfl fun a1 H5 n5 s5 h5 => ?_
    repeat walk_at "rm"
    refine i_new rfl fun a2 H6 n6 s6 h6 => ?_
    repeat walk_at "rm"
    refine i_new rfl fun a3 H7 n7 s7 h7 => ?_
    repeat walk_at "rm"
    refine i_new rfl fun a4 H8 n8 s8 h8 => ?_
    repeat walk_at "rm"
    refine i_new rfl fun l9 H9 n9 s9 h9 => ?_
    repeat walk_at "rm"
    have S : Same H4 H9 := ((((s5.trans s6).trans s7).trans s8).trans s9)
    have hp9 := hp4.same S
    have nlp9 : l9 ≠ p := by
      obtain ⟨x, y, e, _⟩ := hp4.same (((s5.trans s6).trans s7).trans s8)
      intro z
      rw [z] at n9
      rw [e] at n9
      cases n9
    refine ⟨p, l9, _, rfl, hp9, h9, nlp9, by simp, by simp, fun v H10 hv e10 hp10 => ?_⟩
    obtain ⟨x, y, ep, _⟩ := hp9
    have E : Ext p H H10 := (Ext.same s1).trans (e2.trans (e3.trans (e4.trans ((Ext.same S).trans e10))))
    have n0 : Nm low := ⟨by omega, by omega⟩
    simp only [List.mem_cons, List.not_mem_nil, or_false] at hv
    rcases hv with rfl | rfl | rfl | rfl
    · refine k a1 low (some (low + d)) H10 E hp10 (e10.tup ep ((((s6.trans s7).trans s8).trans s9) _ _ h5)) ⟨⟨l0, fun z hz => ?_⟩, n0, fun z hz => ?_⟩
      · cases hz; omega
      · cases hz; exact ⟨by omega, by omega⟩
    · refine k a2 low (some low) H10 E hp10 (e10.tup ep (((s7.trans s8).trans s9) _ _ h6)) ⟨⟨l0, fun z hz => ?_⟩, n0, fun z hz => ?_⟩
      · cases hz; omega
      · cases hz; exact n0
    · exact k a3 low none H10 E hp10 (e10.tup ep ((s8.trans s9) _ _ h7)) ⟨⟨l0, fun z hz => nomatch hz⟩, n0, fun z hz => nomatch hz⟩
    · refine k a4 0 (some low) H10 E hp10 (e10.tup ep (s9 _ _ h8)) ⟨⟨by decide, fun z hz => ?_⟩, ⟨by decide, by decide⟩, fun z hz => ?_⟩
      · cases hz; omega
      · cases hz; exact n0
theorem ev_or1 {i : Nat} {t : Addr} {a : Int} {b : Option Int} {σ : L2.St} {H : Hp} {Q : VK} (hs : σ[i]? = some (some (.ref t))) (hp : PairAt H t a b) (q : Q (.int (b.getD 1)) H) :
    (tIf (tB (tIsN (tOp (rIxT K) (tVar i) (tC (.int 1))))) (tC (.int 1)) (tOp (rIxT K) (tVar i) (tC (.int 1)))) σ H Q := by
  cases b with
  | none => exact i_if (i_B (i_isN (i_op (i_var hs (i_c (i_ixT (SqT.of hp) rfl (i_bl (i_YT (i_c q)))))))))
  | some z => exact i_if (i_B (i_isN (i_op (i_var hs (i_c (i_ixT (SqT.of hp) rfl (i_bl (i_YF (i_op (i_var hs (i_c (i_ixT (SqT.of hp) rfl q)))))))))))) 
theorem ok_sizes (F : Fun K "_law_sizes_in" "_law_sizes_in" s_law_sizes_in f fd) (T : TM K mg C p0 p1 p2 pl pm gl gm) (D__law_draw : Dn P w K mg base 1 "_law_draw" spDraw) (D__law_pick : Dn P w K mg base 2 "_law_pick" (spPick K)) :
    FnOk P w K mg base CX0 3 f fd ["_law_pot", "_law_one", "_law_two"] spSizes := by
  refine F.ok sc_law_sizes_in (fun vs H Q E h => ?_) (fun cdv A outer s H vs Q E hr h => ?_)
  · obtain ⟨p, t1, t2, a, c, b, d, rfl, _⟩ := h
    rfl
  · obtain ⟨p, t1, t2, a, c, b, d, rfl, hp, g1, g2, N1, N2, k⟩ := h
    refine ⟨_, (pss_cons (ps_set (i := 3) sc_law_sizes_in.nd rfl (Or.inl rfl) (pe_cl D__law_draw (hr.mono (by decide)) (pa_cons (pv 0) (pa_cons (pe_cl D__law_pick (hr.mono (by decide)) (pa_cons (pv 0) (pa_cons (pe_lstN (pa_cons pe_int (pa_cons pe_int (pa_cons (pe_op op_pow pe_int pe_int) (pa_cons (pe_op op_pow pe_int pe_int) pa_nil))))) pa_nil))) pa_nil))))
      (pss_cons (ps_set (i := 4) sc_law_sizes_in.nd rfl (Or.inl rfl) (pe_lstN (pa_cons (pe_ix ix_tup (pv 1) pe_int (fun _ _ => rfl)) (pa_cons (pe_ix ix_tup (pv 2) pe_int (fun _ _ => rfl)) (pa_cons (pe_ifExp (pt_cmp (pc_isN (pe_ix ix_tup (pv 1) pe_int (fun _ _ => rfl)))) pe_int (pe_ix ix_tup (pv 1) pe_int (fun _ _ => rfl))) (pa_cons (pe_ifExp (pt_cmp (pc_isN (pe_ix ix_tup (pv 2) pe_int (fun _ _ => rfl)))) pe_int (pe_ix ix_tup (pv 2) pe_int (fun _ _ => rfl))) (pa_cons pe_int (pa_cons pe_int pa_nil))))))))
      (pss_cons (ps_set (i := 5) sc_law_sizes_in.nd rfl (Or.inl rfl) (pe_op op_sub (pe_op op_add (pe_op op_mulW (pv 3) (pe_cl D__law_pick (hr.mono (by decide)) (pa_cons (pv 0) (pa_cons (pv 4) pa_nil)))) (pe_cl D__law_draw (hr.mono (by decide)) (pa_cons (pv 0) (pa_cons pe_int pa_nil)))) pe_int))
      (pss_cons (ps_set (i := 6) sc_law_sizes_in.nd rfl (Or.inl rfl) (pe_op op_sub (pe_op op_add (pe_op op_mulW (pv 3) (pe_cl D__law_pick (hr.mono (by decide)) (pa_cons (pv 0) (pa_cons (pv 4) pa_nil)))) (pe_cl D__law_draw (hr.mono (by decide)) (pa_cons (pv 0) (pa_cons pe_int pa_nil)))) pe_int))
      (pss_one (ps_ret (pe_tupN (pa_cons (pe_callB (call_min2 rfl) (by rfl) T.b_min (by decide +kernel) (pa_cons (pe_op op_pow pe_int pe_int) (pa_cons (pe_callB (call_max2 rfl) (by rfl) T.b_max (by decide +kernel) (pa_cons pe_int (pa_cons (pv 5) pa_nil))) pa_nil))) (pa_cons (pe_callB (call_min2 rfl) (by rfl) T.b_min (by decide +kernel) (pa_cons (pe_op op_pow pe_int pe_int) (pa_cons (pe_callB (call_max2 rfl) (by rfl) T.b_max (by decide +kernel) (pa_cons pe_int (pa_cons (pv 6) pa_nil))) pa_nil))) pa_nil))))))))), ?_⟩
    repeat walk_at "rm"
    refine i_new rfl fun l H1 nl s1 hl => ?_
    repeat walk_at "rm"
    have nlp : l ≠ p := by
      obtain ⟨x, y, e, _⟩ := hp
      exact Ne.symm (ne_of_none e nl)
    replace hp := hp.same s1
    replace g1 : PairAt H1 t1 a b := s1 _ _ g1
    replace g2 : PairAt H1 t2 c d := s1 _ _ g2
    refine ⟨p, l, _, rfl, hp, hl, nlp, by simp, by simp, fun v H2 hv e2 hp2 => ?_⟩
    obtain ⟨top, rfl, u0, u1⟩ : ∃ top : Int, v = .int top ∧ 1 ≤ top ∧ top ≤ 10 ^ 58 := by
      simp only [List.mem_cons, List.not_mem_nil, or_false] at hv
      rcases hv with rfl | rfl | rfl | rfl
      · exact ⟨_, rfl, by decide, by decide⟩
      · exact ⟨_, rfl, by decide, by decide⟩
      · exact ⟨_, rfl, by decide, by decide⟩
      · exact ⟨_, rfl, by decide, by decide⟩
    obtain ⟨x1, y1, ep1, _⟩ := hp
    replace g1 : PairAt H2 t1 a b := e2.tup ep1 g1
    replace g2 : PairAt H2 t2 c d := e2.tup ep1 g2
    repeat walk_at "rm"
    refine ⟨p, _, rfl, hp2, by omega, log_le (by omega) (by omega), fun pt H3 pt0 pt1 e3 hp3 => ?_⟩
    obtain ⟨x2, y2, ep2, _⟩ := hp2
    replace g1 : PairAt H3 t1 a b := e3.tup ep2 g1
    replace g2 : PairAt H3 t2 c d := e3.tup ep2 g2
    have g1' : H3 t1 = some (.tup [.int a, optV b]) := g1
    have g2' : H3 t2 = some (.tup [.int c, optV d]) := g2
    have bpt : Bd 200 pt := ⟨by omega, by omega⟩
    repeat walk_at "rmn"
    refine ev_or1 rfl g1 ?_
    repeat walk_at "rmn"
    refine ev_or1 rfl g2 ?_
    repeat walk_at "rmn"
    refine i_new rfl fun l4 H4 nl4 s4 hl4 => ?_
    have nlp4 : l4 ≠ p := by
      obtain ⟨x, y, e, _⟩ := hp3
      exact Ne.symm (ne_of_none e nl4)
    have elt : ∀ v ∈ [V.int a, V.int c, V.int (b.getD 1), V.int (d.getD 1), V.int 1, V.int 7], ∃ i : Int, v = .int i ∧ Nm i := by
      have go : ∀ o : Option Int, (∀ z, o = some z → Nm z) → Nm (o.getD 1) := fun o h => by
        cases o with
        | none => exact ⟨by decide, by decide⟩
        | some z => exact h z rfl
      intro v hv
      simp only [List.mem_cons, List.not_mem_nil, or_false] at hv
      rcases hv with rfl | rfl | rfl | rfl | rfl | rfl
      · exact ⟨_, rfl, N1.bp⟩
      · exact ⟨_, rfl, N2.bp⟩
      · exact ⟨_, rfl, go b N1.bq⟩
      · exact ⟨_, rfl, go d N2.bq⟩
      · exact ⟨_, rfl, by decide, by decide⟩
      · exact ⟨_, rfl, by decide, by decide⟩
    have hp4 := hp3.same s4
    repeat walk_at "rmn"
    refine ⟨p, l4, _, rfl, hp4, hl4, nlp4, by simp, by simp, fun v H5 hv e5 hp5 => ?_⟩
    obtain ⟨st, rfl, bst⟩ := elt v hv
    have hl5 := e5 _ _ nlp4 hl4
    refine i_mulW bpt bst ?_
    repeat walk_at "rmn"
    refine ⟨p, _, rfl, hp5, by decide, by decide +kernel, fun d1 H6 d10 d11 e6 hp6 => ?_⟩
    have hl6 := e6 _ _ nlp4 hl5
    repeat walk_at "rmn"
    refine ⟨p, l4, _, rfl, hp6, hl6, nlp4, by simp, by simp, fun v H7 hv e7 hp7 => ?_⟩
    obtain ⟨st2, rfl, bst2⟩ := elt v hv
    refine i_mulW bpt bst2 ?_
    repeat walk_at "rmn"
    refine ⟨p, _, rfl, hp7, by decide, by decide +kernel, fun d2 H8 d20 d21 e8 hp8 => ?_⟩
    repeat walk_at "rmn"
    refine i_new rfl fun t9 H9 n9 s9 h9 => ?_
    refine k t9 _ _ H9 ?_ (hp8.same s9) h9 ?_ ?_ ?_ ?_
    · exact (Ext.same s1).trans (e2.trans (e3.trans ((Ext.same s4).trans (e5.trans (e6.trans (e7.trans (e8.trans (Ext.same s9))))))))
    · split <;> (try split) <;> omega
    · split <;> (try split) <;> omega
    · split <;> (try split) <;> omega
    · split <;> (try split) <;> omega
theorem ok_due (F : Fun K "_law_due_totals" "_law_due_totals" s_law_due_totals f fd) (T : TM K mg C p0 p1 p2 pl pm gl gm) : FnOk P w K mg base CX0 1 f fd ["_law_a", "_law_one", "_law_b", "_law_two"] spDue := by
  refine F.ok sc_law_due_totals (fun vs H Q E h => ?_) (fun cdv A outer s H vs Q E hr h => ?_)
  · obtain ⟨a, b, t1, t2, p, r, q, z, rfl, _⟩ := h
    rfl
  · obtain ⟨a, b, t1, t2, p, r, q, z, rfl, g1, g2, N1, N2, ha, hb, k⟩ := h
    refine ⟨_, (pss_cons (ps_if (PW.pt (pw_or (PW.pt (pw_and (pt_cmp (pc_notN (pe_ix ix_tup (pv 3) pe_int (fun _ _ => rfl)))) (pw_and1 (pt_cmpR op_lt (pe_op op_mulW (pv 2) (pe_ix ix_tup (pv 3) pe_int (fun _ _ => rfl))) (pe_op op_mulW (pv 0) (pe_ix ix_tup (pv 1) pe_int (fun _ _ => rfl))) (nomark _))))) (pw_or1 (PW.pt (pw_and (pt_cmp (pc_notN (pe_ix ix_tup (pv 1) pe_int (fun _ _ => rfl)))) (pw_and1 (pt_cmpR op_lt (pe_op op_mulW (pv 0) (pe_ix ix_tup (pv 1) pe_int (fun _ _ => rfl))) (pe_op op_mulW (pv 2) (pe_ix ix_tup (pv 3) pe_int (fun _ _ => rfl))) (nomark _))))))))
        (pss_one (ps_ret pe_non))
        pss_nil)
      (pss_cons (ps_if (PW.pt (pw_or (PW.pt (pw_and (pt_cmpR op_gt (pv 0) pe_int (nomark _)) (pw_and1 (pt_cmpR op_lt (pv 2) (pe_ix ix_tup (pv 1) pe_int (fun _ _ => rfl)) (nomark _))))) (pw_or1 (PW.pt (pw_and (pt_cmpR op_gt (pv 2) pe_int (nomark _)) (pw_and1 (pt_cmpR op_lt (pv 0) (pe_ix ix_tup (pv 3) pe_int (fun _ _ => rfl)) (nomark _))))))))
        (pss_one (ps_ret pe_non))
        pss_nil)
      (pss_cons (ps_set (i := 4) sc_law_due_totals.nd rfl (Or.inl rfl) (pe_lstN (pa_cons (pe_op op_mulW (pv 0) (pv 2)) pa_nil)))
      (pss_cons (ps_for PassesOwn.never (by rfl) (pi_list (pe_lstN (pa_cons (pe_tupN (pa_cons (pv 0) (pa_cons (pe_ix ix_tup (pv 1) pe_int (fun _ _ => rfl)) pa_nil))) (pa_cons (pe_tupN (pa_cons (pv 2) (pa_cons (pe_ix ix_tup (pv 3) pe_int (fun _ _ => rfl)) pa_nil))) pa_nil)))) (pg_tup (by rfl) (pgs_cons (pg_name (i := 5) sc_law_due_totals.nd rfl (Or.inr rfl)) (pgs_cons (pg_name (i := 6) sc_law_due_totals.nd rfl (Or.inl rfl)) pgs_nil)))
        (pss_one (ps_expr (pe_bm PySem.F.plainAttrs_list PySem.F.slot_list_extend PySem.F.type_list_extend mt_extend (pv 4) (pa_cons (pe_lc (own := [("_law_high", 7)]) (g := gName 7) (by rfl) sc_law_due_totals.nd (pi_list (pe_lstN (pa_cons (pv 6) pa_nil))) (blkOk_by (own := [("_law_high", 7)]) (N := n_law_due_totals) (sc := defScope s_law_due_totals) (by decide +kernel)) (fun _ _ _ _ _ => (pg_name (i := 7) sc_law_due_totals.nd rfl (Or.inl rfl))) (fun _ _ _ _ _ => (pts_one (pt_cmp (pc_notN (pv 7))))) (fun _ _ _ _ _ => (pe_op op_mulW (pv 5) (pv 7)))) pa_nil)))))
      (pss_one (ps_ret (pe_tupN (pa_cons (pe_callB (call_max2 rfl) (by rfl) T.b_max (by decide +kernel) (pa_cons (pe_op op_mulW (pv 0) (pe_ix ix_tup (pv 1) pe_int (fun _ _ => rfl))) (pa_cons (pe_op op_mulW (pv 2) (pe_ix ix_tup (pv 3) pe_int (fun _ _ => rfl))) pa_nil))) (pa_cons (pe_callB (cr_min rfl) (by rfl) T.b_min (by decide +kernel) (pa_cons (pv 4) pa_nil)) pa_nil))))))))), ?_⟩
    have bp : Nm p := N1.bp
    have br : Nm r := N2.bp
    have g1' : H t1 = some (.tup [.int p, optV q]) := g1
    have g2' : H t2 = some (.tup [.int r, optV z]) := g2
    refine i_seq (i_ifT (ltO z b (a * p) || ltO q a (b * r)) (Tst.or (fun QT g => ?_) (fun QT g => ?_)) (fun e1 => ?_) (fun e1 => ?_))
    · cases z with
      | none =>
        have g2' : H t2 = some (.tup [.int r, .non]) := g2
        repeat walk_at "rm"
        exact g
      | some y =>
        have g2' : H t2 = some (.tup [.int r, .int y]) := g2
        have by_ := N2.bq y rfl
        repeat walk_at "rm"
        refine i_mulW hb by_ ?_
        repeat walk_at "rm"
        refine i_mulW ha bp ?_
        repeat walk_at "rm"
        exact g
    · cases q with
      | none =>
        have g1' : H t1 = some (.tup [.int p, .non]) := g1
        repeat walk_at "rm"
        exact g
      | some y =>
        have g1' : H t1 = some (.tup [.int p, .int y]) := g1
        have by_ := N1.bq y rfl
        repeat walk_at "rm"
        refine i_mulW ha by_ ?_
        repeat walk_at "rm"
        refine i_mulW hb br ?_
        repeat walk_at "rm"
        exact g
    · repeat walk_at "rm"
      refine k _ _ (Same.refl _) ?_
      unfold tot
      rw [if_pos (by unfold bad; rw [← Bool.or_assoc, e1, Bool.true_or])]
      rfl
    refine i_next (i_seq (i_ifT ((decide (0 < a) && decide (b < p)) || (decide (0 < b) && decide (a < r))) (Tst.or (Tst.and (fun QT g => ?_) (fun _ QT g => ?_)) (Tst.and (fun QT g => ?_) (fun _ QT g => ?_))) (fun e2 => ?_) (fun e2 => ?_)))
    · repeat walk_at "rm"
      exact g
    · repeat walk_at "rm"
      exact g
    · repeat walk_at "rm"
      exact g
    · repeat walk_at "rm"
      exact g
    · repeat walk_at "rm"
      refine k _ _ (Same.refl _) ?_
      unfold tot
      rw [if_pos (by unfold bad; rw [e2, Bool.or_true, Bool.or_true])]
      rfl
    have nb : bad a p q b r z = false := by unfold bad; rw [← Bool.or_assoc, e1, e2]; rfl
    refine i_next ?_
    repeat walk_at "rm"
    refine i_mulW ha hb ?_
    repeat walk_at "rm"
    refine i_new rfl fun l H1 nl s1 hl => ?_
    replace g1 : PairAt H1 t1 p q := s1 _ _ g1
    replace g2 : PairAt H1 t2 r z := s1 _ _ g2
    have g1' : H1 t1 = some (.tup [.int p, optV q]) := g1
    have g2' : H1 t2 = some (.tup [.int r, optV z]) := g2
    repeat walk_at "rm"
    refine i_new rfl fun u1 H2 n2 s2 h2 => ?_
    replace g2' := s2 _ _ g2'
    repeat walk_at "rm"
    refine i_new rfl fun u2 H3 n3 s3 h3 => ?_
    repeat walk_at "rm"
    refine i_new rfl fun u4 H4 n4 s4 h4 => ?_
    have S14 : Same H1 H4 := (s2.trans s3).trans s4
    have hl4 := S14 _ _ hl
    replace h2 := (s3.trans s4) _ _ h2
    replace h3 := s4 _ _ h3
    have lu : u4 ≠ l := Ne.symm (ne_of_none ((s2.trans s3) _ _ hl) n4)
    refine ⟨u4, rfl, ⟨_, SqL.of h4⟩, fList (K := K) (a := u4) (xs := [.ref u1, .ref u2]) (fun i σ H' => Ext l H4 H' ∧ H' l = some (.lst (((a * b) :: ((if 0 < i then part a q else []) ++ (if 1 < i then part b z else []))).map V.int)) ∧ ∃ u v w, σ = [some (.int a), some (.ref t1), some (.int b), some (.ref t2), some (.ref l), u, v, w])
      ⟨Ext.refl _ _, hl4, _, _, _, rfl⟩ (fun i σ H' _ z => SqL.of (z.1 _ _ lu h4)) ?_ ?_⟩
    · rintro i x σ H' hi ⟨e', hl', u, v, w', rfl⟩
      obtain ⟨n, o, t, rfl, ht, hn, ho, step⟩ : ∃ n o t, x = .ref t ∧ H' t = some (.tup [.int n, optV o]) ∧ Sz n ∧ (∀ y, o = some y → Nm y) ∧
          ((a * b) :: ((if 0 < i + 1 then part a q else []) ++ (if 1 < i + 1 then part b z else []))) = ((a * b) :: ((if 0 < i then part a q else []) ++ (if 1 < i then part b z else []))) ++ part n o := by
        match i, hi with
        | 0, hi => cases hi; exact ⟨a, q, u1, rfl, e'.tup hl4 h2, ha, N1.bq, by simp⟩
        | 1, hi => cases hi; exact ⟨b, z, u2, rfl, e'.tup hl4 h3, hb, N2.bq, by simp⟩
        | i + 2, hi => simp at hi
      repeat walk_at "rm"
      refine i_new rfl fun l5 H5 n5 s5 h5 => ?_
      have hl5 := s5 _ _ hl'
      refine ⟨l5, rfl, ⟨_, SqL.of h5⟩, fun D nD => lc_list (K := K) (a := l5) (xs := [optV o]) (fun j H6 => Same H5 H6 ∧ H6 D = some (.lst ((if 0 < j then part n o else []).map V.int))) ⟨same_new nD, upd_same⟩ (fun j H6 _ z => SqL.of (z.1 _ _ h5)) ?_ ?_⟩
      · rintro j x H6 hj ⟨s6, hD⟩
        have ej : j = 0 ∧ x = optV o := by
          match j, hj with
          | 0, hj => cases hj; exact ⟨rfl, rfl⟩
          | j + 1, hj => simp at hj
        obtain ⟨rfl, rfl⟩ := ej
        refine i_gname ⟨rfl, ?_⟩
        cases o with
        | none =>
          dsimp only [optV]
          repeat walk_at "rm"
          exact ⟨s6, hD⟩
        | some y =>
          have bn := ho y rfl
          dsimp only [optV]
          repeat walk_at "rm"
          refine i_mulW hn bn ?_
          refine ⟨[], hD, by decide, ?_, upd_same⟩
          exact fun b' o' z' => by rw [upd_ne (ne_of_none z' nD)]; exact s6 b' o' z'
      · rintro H6 ⟨s6, hD⟩
        have hl6 := s6 _ _ hl5
        repeat walk_at "rm"
        refine i_extend hl6 hD ?_ fun H7 e7 h7 => ?_
        · cases o <;> cases q <;> cases z <;> simp [part] <;> (repeat' split) <;> simp
        · refine ⟨e'.trans ((Ext.same (s5.trans s6)).trans e7), ?_, _, _, _, rfl⟩
          rw [h7, step, List.map_append]
          rfl
    · rintro σ H' ⟨e', hl', u, v, w', rfl⟩
      have k1 : H' t1 = some (.tup [.int p, optV q]) := e'.tup hl4 (S14 _ _ g1')
      have k2 : H' t2 = some (.tup [.int r, optV z]) := e'.tup hl4 (S14 _ _ g2)
      repeat walk_at "rm"
      refine i_mulW ha bp ?_
      repeat walk_at "rm"
      refine i_mulW hb br ?_
      repeat walk_at "rm"
      have hl2 : H' l = some (.lst ((tops a q b z).map V.int)) := by
        rw [hl']
        rfl
      refine ⟨l, tops a q b z, rfl, SqL.of hl2, by simp [tops], fun m hm1 hm2 => ?_⟩
      have em := mnl_is (by simp [tops]) hm1 hm2
      subst em
      repeat walk_at "rm"
      refine i_new rfl fun t H9 nt s9 ht => ?_
      refine k _ _ (same_ext (s1.trans S14) nl (e'.trans (Ext.same s9))) ?_
      unfold tot
      rw [nb]
      exact ⟨t, rfl, ht⟩
end
end K35

set_option Elab.async false
set_option linter.all false
set_option maxRecDepth 100000
set_option maxHeartbeats 4000000
namespace K35
open L2 PyProof.Rows PySem.Spec PySem G58 SlX K35M
local macro_rules | `(tactic| walk_at "rd") => `(tactic| first
  | (with_reducible refine i_seq ?_)
  | ((with_reducible refine' i_var ?rdh ?_); (case rdh => exact rfl))
  | (with_reducible refine i_c ?_)
  | (with_reducible refine i_op ?_)
  | (with_reducible refine i_I0 ?_)
  | (with_reducible refine i_set ?_)
  | (with_reducible refine i_ret ?_)
  | (with_reducible refine i_cons ?_)
  | (with_reducible refine i_nil ?_)
  | (with_reducible refine i_cb ?_)
  | (with_reducible refine i_call ?_)
  | (with_reducible refine i_tup ?_)
  | (with_reducible refine i_lst ?_)
  | (with_reducible refine i_ifS ?_)
  | (with_reducible refine i_test ?_)
  | (with_reducible refine i_B ?_)
  | (with_reducible refine i_bl ?_)
  | (with_reducible refine i_isN ?_)
  | (with_reducible refine i_notN ?_)
  | (with_reducible refine i_andV ?_)
  | (with_reducible refine i_orV ?_)
  | (with_reducible refine i_notV ?_)
  | (with_reducible refine i_and ?_)
  | (with_reducible refine i_or ?_)
  | (with_reducible refine i_not ?_)
  | (with_reducible refine i_if ?_)
  | (with_reducible refine i_par ?_)
  | (with_reducible refine i_par2 ?_)
  | (with_reducible refine i_drop ?_)
  | (with_reducible refine i_next ?_)
  | (with_reducible refine i_retN ?_)
  | (with_reducible refine i_iteT ?_)
  | (with_reducible refine i_iteF ?_)
  | (with_reducible refine i_un ?_)
  | (with_reducible refine i_U ?_)
  | (with_reducible refine i_isiII ?_)
  | (with_reducible refine i_isiIB ?_)
  | (with_reducible refine i_nT ?_)
  | (with_reducible refine i_nF ?_)
  | (with_reducible refine i_p10_4 ?_)
  | (with_reducible refine i_p10_9 ?_)
  | (with_reducible refine i_p10_18 ?_)
  | (with_reducible refine i_p10_20 ?_)
  | (with_reducible refine i_p10_30 ?_)
  | (with_reducible refine i_p10_40 ?_)
  | (with_reducible refine i_p10_58 ?_)
  | (with_reducible refine i_p10_60 ?_)
  | (with_reducible refine i_p10_61 ?_)
  | (with_reducible refine i_p10_64 ?_)
  | (with_reducible refine i_ex1 ?_)
  | (with_reducible refine i_ex2 ?_)
  | (with_reducible refine i_toI ?_)
  | (with_reducible refine i_toB ?_)
  | ((with_reducible refine' i_ixL ?rdh ?rda ?_); (case rdh => exact SqL.of (by assumption)); (case rda => exact rfl))
  | ((with_reducible refine' i_ixT ?rdh ?rda ?_); (case rdh => exact SqT.of (by assumption)); (case rda => exact rfl))
  | (with_reducible refine i_mulR ⟨by decide, by decide⟩ ?_)
  | (with_reducible refine i_mulL ⟨by decide, by decide⟩ ?_)
  | (with_reducible refine i_mod (by decide) ?_)
  | (with_reducible refine i_div ⟨by decide, by decide⟩ ?_)
  | ((with_reducible refine' i_gtup ?rdh ?rdl ?_); (case rdh => exact SqT.of (by assumption)); (case rdl => exact rfl))
  | (with_reducible refine i_gcons ?_)
  | (with_reducible refine i_gnil ?_)
  | (with_reducible refine i_gname ?_)
  | (with_reducible refine i_gsub ?_)
  | (with_reducible refine i_bm ?_)
  | (with_reducible refine i_bm0 ?_)
  | ((with_reducible refine' i_tyL ?rdh ?_); (case rdh => assumption))
  | (with_reducible refine i_for ?_)
  | (with_reducible refine i_itup ?_)
  | (with_reducible refine i_ilist ?_)
  | (with_reducible refine i_irng1 ?_)
  | (with_reducible refine i_irng2 ?_)
  | (with_reducible refine i_lc ?_)
  | (with_reducible refine i_yes ?_)
  | (with_reducible refine i_asg ?_)
  | dsimp only)
local macro_rules | `(tactic| walk_at "rm") => `(tactic| first
  | walk_at "rd"
  | (with_reducible refine i_prop ?_)
  | ((with_reducible refine' i_pl ?rdh ?_); (case rdh => assumption))
  | ((with_reducible refine' i_pmS ?rdh ?_); (case rdh => assumption))
  | ((with_reducible refine' i_pmN ?rdh ?_); (case rdh => assumption))
  | ((with_reducible refine' i_pm ?rdh ?_); (case rdh => assumption))
  | (with_reducible refine i_mkM ?_)
  | (with_reducible refine i_NT ?_)
  | (with_reducible refine i_NF ?_)
  | (with_reducible refine i_YT ?_)
  | (with_reducible refine i_YF ?_))
abbrev s_law_right : Stmt := top 37
abbrev n_law_right : List Str := ["_law_pot", "_law_one", "_law_two", "_law_a", "_law_b", "_law_c", "_law_d", "_law_first", "_law_second", "_law_due", "_law_also", "_law_shown", "_law_by", "_law_more", "_law_whole"]
theorem sc_law_right : FnScope n_law_right ["_law_pot"] (defScope s_law_right) := ⟨rfl, rfl, rfl, by decide +kernel, rfl, by decide +kernel, by decide +kernel⟩
abbrev s_law : Stmt := top 38
abbrev n_law : List Str := ["_law_script", "_law_k", "_law_pot", "_law_turn"]
theorem sc_law : FnScope n_law ["_law_script"] (defScope s_law) := ⟨rfl, rfl, rfl, by decide +kernel, rfl, by decide +kernel, by decide +kernel⟩
def dT : Option (Int × Int) → PyData
  | none => .none
  | some (x, y) => .tuple [.int x, .int y]
def Small (o : Option (Int × Int)) : Prop := ∀ x y, o = some (x, y) → Bd 700 x ∧ Bd 700 y
theorem bd_log {n : Nat} {i : Int} (h : Bd n i) (h0 : 0 < n) : i.natAbs.log2 < n := PySem.Flt.log2_lt_of h0 h.abs
theorem ResT.ext {H H' : Hp} {v : V} {o : Option (Int × Int)} {p : Addr} {xs : List V} (h : ResT H v o) (hp : H p = some (.lst xs)) (e : Ext p H H') : ResT H' v o := by
  match o, h with
  | none, h => exact h
  | some (x, y), ⟨t, e', h⟩ => exact ⟨t, e', e.tup hp h⟩
theorem i_reprT {K : PySem.W.Frag} {H : Hp} {Q : VK} {v : V} {o : Option (Int × Int)} (h : ResT H v o) (hb : Small o) (q : Q (.str (dT o).shown) H) : rReprD K [v] H Q := by
  match o, h, hb, q with
  | none, h, hb, q =>
    cases h
    exact ⟨.non, .none, rfl, .non, rfl, rfl, by decide, by decide, q⟩
  | some (x, y), ⟨t, e, ht⟩, hb, q =>
    cases e
    obtain ⟨b1, b2⟩ := hb x y rfl
    have l1 : x.natAbs.log2 < 1920 := Nat.lt_trans (bd_log b1 (by decide)) (by decide)
    have l2 : y.natAbs.log2 < 1920 := Nat.lt_trans (bd_log b2 (by decide)) (by decide)
    refine ⟨.ref t, .tuple [.int x, .int y], rfl, .tup (SqT.of ht) (.cons (.int x) (.cons (.int y) .nil)), ?_, rfl, (by simp [PyData.depth, PyData.depthAll]), ?_, q⟩
    · show (decide (x.natAbs.log2 < 1920) && (decide (y.natAbs.log2 < 1920) && true)) = true
      rw [decide_eq_true l1, decide_eq_true l2]
      rfl
    · show (tupleText [Str.ofString (toString x), Str.ofString (toString y)]).length ≤ sizeLine
      have e1 := int_text_len_1921 l1
      have e2 := int_text_len_1921 l2
      have e3 := tupleText_len_le [Str.ofString (toString x), Str.ofString (toString y)]
      simp only [List.map_cons, List.map_nil, List.sum_cons, List.sum_nil, List.length_cons, List.length_nil] at e3
      rw [sizeLine_eq]
      omega
theorem tot_small {a p : Int} {q : Option Int} {b r : Int} {s : Option Int} (ha : Sz a) (hb : Sz b) (N1 : Nq p q) (N2 : Nq r s) : Small (tot a p q b r s) := by
  intro x y h
  obtain ⟨_, ex, ey⟩ := tot_some h
  have m1 : Bd 700 (a * p) := (ha.mul N1.bp).mono (by decide)
  have m2 : Bd 700 (b * r) := (hb.mul N2.bp).mono (by decide)
  refine ⟨?_, ?_⟩
  · rw [ex]
    split
    · exact m2
    · exact m1
  · have mem : y ∈ tops a q b s := by
      rw [ey]
      exact mnl_mem _ _
    unfold tops at mem
    rcases List.mem_cons.mp mem with e | mem
    · rw [e]
      exact (ha.mul hb).mono (by decide)
    · rcases List.mem_append.mp mem with mem | mem
      · cases q with
        | none => cases mem
        | some z =>
          have e : y = a * z := by simpa using mem
          rw [e]
          exact (ha.mul (N1.bq z rfl)).mono (by decide)
      · cases s with
        | none => cases mem
        | some z =>
          have e : y = b * z := by simpa using mem
          rw [e]
          exact (hb.mul (N2.bq z rfl)).mono (by decide)
theorem i_neS {A B : Str} {H : Hp} {Q : VK} (e : A = B) (q : Q (.bl false) H) : rNe (.str A) (.str B) H Q := by
  subst e
  refine i_ne (by rfl) ?_
  rw [decide_eq_true rfl]
  exact q
section
variable {A B : Prop} {t : Addr}
theorem i_NR (h : A) : if (!decide (V.ref t = V.non)) = true then A else B := iteT (by simpa using h)
theorem i_YR (h : B) : if decide (V.ref t = V.non) = true then A else B := iteF (by simpa using h)
end
local macro_rules | `(tactic| walk_at "rr") => `(tactic| first
  | walk_at "rm"
  | (with_reducible refine i_NR ?_)
  | (with_reducible refine i_YR ?_))
def spRight : Sp := fun vs H Q _ => ∃ (p : Addr), vs = [.ref p] ∧ Pot H p ∧ ∀ H', Ext p H H' → Pot H' p → Q (.bl true) H'
section
variable {P : Program} {w : World} {K : PySem.W.Frag} {mg : Str → Option Value} {base : Heap} {f : Addr} {fd : FuncData} {C p0 p1 p2 pl pm gl gm : Addr}
set_option maxHeartbeats 0 in
theorem ok_right (F : Fun K "_law_right" "_law_right" s_law_right f fd) (T : TM K mg C p0 p1 p2 pl pm gl gm) (D__law_draw : Dn P w K mg base 1 "_law_draw" spDraw)
    (D__law_numbers_in : Dn P w K mg base 3 "_law_numbers_in" spNumbers) (D__law_sizes_in : Dn P w K mg base 3 "_law_sizes_in" spSizes) (D__law_made_many : Dn P w K mg base 6 "_law_made_many" (spMadeMany C))
    (D__law_due_totals : Dn P w K mg base 1 "_law_due_totals" spDue) (D_totals : Dn P w K mg base 5 "totals" (spTotals C)) : FnG P w K mg base CX0 8 f fd ["_law_pot"] spRight := by
  refine okG F sc_law_right (fun vs H Q E h => ?_) (fun cdv A outer s H vs Q E hgd hr h => ?_)
  · obtain ⟨p, rfl, _⟩ := h
    rfl
  · obtain ⟨p, rfl, hp, k⟩ := h
    refine ⟨_, (pss_cons (ps_par (by rfl) sc_law_right.nd (i := 1) (j := 2) rfl rfl (by decide) rfl rfl (pa_cons (pe_cl D__law_numbers_in (hr.mono (by decide)) (pa_cons (pv 0) pa_nil)) (pa_cons (pe_cl D__law_numbers_in (hr.mono (by decide)) (pa_cons (pv 0) pa_nil)) pa_nil)) (by rfl))
      (pss_cons (ps_asg (pe_tupN (pa_cons (pe_cl D__law_sizes_in (hr.mono (by decide)) (pa_cons (pv 0) (pa_cons (pv 1) (pa_cons (pv 2) pa_nil)))) (pa_cons (pe_cl D__law_sizes_in (hr.mono (by decide)) (pa_cons (pv 0) (pa_cons (pv 1) (pa_cons (pv 2) pa_nil)))) pa_nil))) (pg_tup (by rfl) (pgs_cons (pg_tup (by rfl) (pgs_cons (pg_name (i := 3) sc_law_right.nd rfl (Or.inl rfl)) (pgs_cons (pg_name (i := 4) sc_law_right.nd rfl (Or.inl rfl)) pgs_nil))) (pgs_cons (pg_tup (by rfl) (pgs_cons (pg_name (i := 5) sc_law_right.nd rfl (Or.inl rfl)) (pgs_cons (pg_name (i := 6) sc_law_right.nd rfl (Or.inl rfl)) pgs_nil))) pgs_nil))))
      (pss_cons (ps_par (by rfl) sc_law_right.nd (i := 7) (j := 8) rfl rfl (by decide) rfl rfl (pa_cons (pe_cl D__law_made_many (hr.mono (by decide)) (pa_cons (pv 1) pa_nil)) (pa_cons (pe_cl D__law_made_many (hr.mono (by decide)) (pa_cons (pv 2) pa_nil)) pa_nil)) (by rfl))
      (pss_cons (ps_par (by rfl) sc_law_right.nd (i := 9) (j := 10) rfl rfl (by decide) rfl rfl (pa_cons (pe_cl D__law_due_totals (hr.mono (by decide)) (pa_cons (pv 3) (pa_cons (pv 1) (pa_cons (pv 4) (pa_cons (pv 2) pa_nil))))) (pa_cons (pe_cl D__law_due_totals (hr.mono (by decide)) (pa_cons (pv 5) (pa_cons (pv 1) (pa_cons (pv 6) (pa_cons (pv 2) pa_nil))))) pa_nil)) (by rfl))
      (pss_cons (ps_set (i := 11) sc_law_right.nd rfl (Or.inl rfl) (pe_cl D_totals (hr.mono (by decide)) (pa_cons (pv 3) (pa_cons (pv 7) (pa_cons (pv 4) (pa_cons (pv 8) pa_nil))))))
      (pss_cons (ps_if (PW.pt (pw_or (pt_cmpR op_ne (pe_callB (call_reprD hgd hr.units) (by rfl) T.b_repr (by decide +kernel) (pa_cons (pv 11) pa_nil)) (pe_callB (call_reprD hgd hr.units) (by rfl) T.b_repr (by decide +kernel) (pa_cons (pv 9) pa_nil)) (nomark _)) (pw_or1 (pt_cmpR op_ne (pe_callB (call_reprD hgd hr.units) (by rfl) T.b_repr (by decide +kernel) (pa_cons (pe_cl D_totals (hr.mono (by decide)) (pa_cons (pv 4) (pa_cons (pv 8) (pa_cons (pv 3) (pa_cons (pv 7) pa_nil))))) pa_nil)) (pe_callB (call_reprD hgd hr.units) (by rfl) T.b_repr (by decide +kernel) (pa_cons (pv 9) pa_nil)) (nomark _)))))
        (pss_one (ps_ret pe_bl))
        pss_nil)
      (pss_cons (ps_if (pt_cmpR op_ne (pe_callB (call_reprD hgd hr.units) (by rfl) T.b_repr (by decide +kernel) (pa_cons (pe_cl D_totals (hr.mono (by decide)) (pa_cons (pv 5) (pa_cons (pv 7) (pa_cons (pv 6) (pa_cons (pv 8) pa_nil))))) pa_nil)) (pe_callB (call_reprD hgd hr.units) (by rfl) T.b_repr (by decide +kernel) (pa_cons (pv 10) pa_nil)) (nomark _))
        (pss_one (ps_ret pe_bl))
        pss_nil)
      (pss_cons (ps_set (i := 12) sc_law_right.nd rfl (Or.inl rfl) (pe_op op_add pe_int (pe_cl D__law_draw (hr.mono (by decide)) (pa_cons (pv 0) (pa_cons (pe_op op_pow pe_int pe_int) pa_nil)))))
      (pss_cons (ps_set (i := 13) sc_law_right.nd rfl (Or.inl rfl) (pe_cl D_totals (hr.mono (by decide)) (pa_cons (pe_op op_mulW (pv 3) (pv 12)) (pa_cons (pv 7) (pa_cons (pe_op op_mulW (pv 4) (pv 12)) (pa_cons (pv 8) pa_nil))))))
      (pss_cons (ps_if (PW.pt (pw_and (pt_cmp (pc_notN (pv 9))) (pw_and1 (pt_cmp (pc_isN (pv 13))))))
        (pss_one (ps_ret pe_bl))
        pss_nil)
      (pss_cons (ps_if (PW.pt (pw_and (pt_cmp (pc_notN (pv 9))) (pw_and1 (PW.pt (pw_or (pt_cmpR op_gt (pe_ix ix_tup (pv 13) pe_int (fun _ _ => rfl)) (pe_op op_mulW (pe_ix ix_tup (pv 9) pe_int (fun _ _ => rfl)) (pv 12)) (nomark _)) (pw_or1 (pt_cmpR op_gt (pe_op op_mulW (pe_ix ix_tup (pv 9) pe_int (fun _ _ => rfl)) (pv 12)) (pe_ix ix_tup (pv 13) pe_int (fun _ _ => rfl)) (nomark _))))))))
        (pss_one (ps_ret pe_bl))
        pss_nil)
      (pss_cons (ps_set (i := 14) sc_law_right.nd rfl (Or.inl rfl) (pe_cl D_totals (hr.mono (by decide)) (pa_cons (pe_op op_add (pv 3) (pv 5)) (pa_cons (pv 7) (pa_cons (pe_op op_add (pv 4) (pv 6)) (pa_cons (pv 8) pa_nil))))))
      (pss_cons (ps_if (PW.pt (pw_or (pt_cmp (pc_isN (pv 9))) (pw_or1 (pt_cmp (pc_isN (pv 10))))))
        (pss_one (ps_ret pe_bl))
        pss_nil)
      (pss_one (ps_ret (pe_and (pe_cmp (pc_notN (pv 14))) (pe_and (pe_cmpR op_le (pe_ix ix_tup (pv 14) pe_int (fun _ _ => rfl)) (pe_op op_add (pe_ix ix_tup (pv 9) pe_int (fun _ _ => rfl)) (pe_ix ix_tup (pv 10) pe_int (fun _ _ => rfl))) (nomark _)) (pe_one (pe_cmpR op_ge (pe_ix ix_tup (pv 14) pe_int (fun _ _ => rfl)) (pe_op op_add (pe_ix ix_tup (pv 9) pe_int (fun _ _ => rfl)) (pe_ix ix_tup (pv 10) pe_int (fun _ _ => rfl))) (nomark _)))))))))))))))))))), ?_⟩
    refine i_seqA fun n e => ?_
    repeat walk_at "rr"
    refine ⟨p, rfl, hp, fun t1 a1 q1 H1 e1 hp1 g1 N1 => ?_⟩
    repeat walk_at "rr"
    refine ⟨p, rfl, hp1, fun t2 a2 q2 H2 e2 hp2 g2 N2 => ?_⟩
    obtain ⟨x1, y1, ep1, _⟩ := id hp1
    replace g1 : PairAt H2 t1 a1 q1 := e2.tup ep1 g1
    repeat walk_at "rr"
    subst e
    refine i_seqA fun n e => ?_
    repeat walk_at "rr"
    refine ⟨p, t1, t2, a1, a2, q1, q2, rfl, hp2, g1, g2, N1, N2, fun u1 a b H3 e3 hp3 hu1 a0 a9 b0 b9 => ?_⟩
    obtain ⟨x2, y2, ep2, _⟩ := id hp2
    replace g1 : PairAt H3 t1 a1 q1 := e3.tup ep2 g1
    replace g2 : PairAt H3 t2 a2 q2 := e3.tup ep2 g2
    repeat walk_at "rr"
    refine ⟨p, t1, t2, a1, a2, q1, q2, rfl, hp3, g1, g2, N1, N2, fun u2 c d H4 e4 hp4 hu2 c0 c9 d0 d9 => ?_⟩
    obtain ⟨x3, y3, ep3, _⟩ := id hp3
    replace g1 : PairAt H4 t1 a1 q1 := e4.tup ep3 g1
    replace g2 : PairAt H4 t2 a2 q2 := e4.tup ep3 g2
    replace hu1 : H4 u1 = _ := e4.tup ep3 hu1
    have E4 : Ext p H H4 := e1.trans (e2.trans (e3.trans e4))
    repeat walk_at "rr"
    refine i_new rfl fun u3 H5 n5 s5 hu3 => ?_
    replace hu1 := s5 _ _ hu1
    replace hu2 := s5 _ _ hu2
    replace g1 : PairAt H5 t1 a1 q1 := s5 _ _ g1
    replace g2 : PairAt H5 t2 a2 q2 := s5 _ _ g2
    repeat walk_at "rr"
    subst e
    refine i_seqA fun n e => ?_
    repeat walk_at "rr"
    refine ⟨t1, a1, q1, rfl, g1, N1.ok, fun m1 H6 s6 M1 => ?_⟩
    replace g1 : PairAt H6 t1 a1 q1 := s6 _ _ g1
    replace g2 : PairAt H6 t2 a2 q2 := s6 _ _ g2
    repeat walk_at "rr"
    refine ⟨t2, a2, q2, rfl, g2, N2.ok, fun m2 H7 s7 M2 => ?_⟩
    replace g1 : PairAt H7 t1 a1 q1 := s7 _ _ g1
    replace g2 : PairAt H7 t2 a2 q2 := s7 _ _ g2
    replace M1 := M1.same s7
    have za : Sz a := ⟨a0, by omega⟩
    have zb : Sz b := ⟨b0, by omega⟩
    have zc : Sz c := ⟨c0, by omega⟩
    have zd : Sz d := ⟨d0, by omega⟩
    repeat walk_at "rr"
    subst e
    refine i_seqA fun n e => ?_
    repeat walk_at "rr"
    refine ⟨a, b, t1, t2, a1, a2, q1, q2, rfl, g1, g2, N1, N2, za, zb, fun due H8 s8 r8 => ?_⟩
    replace g1 : PairAt H8 t1 a1 q1 := s8 _ _ g1
    replace g2 : PairAt H8 t2 a2 q2 := s8 _ _ g2
    repeat walk_at "rr"
    refine ⟨c, d, t1, t2, a1, a2, q1, q2, rfl, g1, g2, N1, N2, zc, zd, fun also H9 s9 r9 => ?_⟩
    replace M1 := M1.same (s8.trans s9)
    replace M2 := M2.same (s8.trans s9)
    replace r8 := r8.same s9
    repeat walk_at "rr"
    subst e
    refine i_seqA fun n e => ?_
    repeat walk_at "rr"
    refine ⟨a, b, m1, m2, a1, a2, q1, q2, rfl, M1, M2, N1, N2, za, zb, fun shown H10 s10 r10 => ?_⟩
    replace M1 := M1.same s10
    replace M2 := M2.same s10
    replace r8 := r8.same s10
    replace r9 := r9.same s10
    have sm1 := tot_small za zb N1 N2
    have sm2 := tot_small zc zd N1 N2
    repeat walk_at "rr"
    subst e
    refine i_seqA fun n e => ?_
    repeat walk_at "rr"
    refine i_reprT r10 sm1 ?_
    repeat walk_at "rr"
    refine i_reprT r8 sm1 ?_
    refine i_neS rfl ?_
    repeat walk_at "rr"
    refine ⟨b, a, m2, m1, a2, a1, q2, q1, rfl, M2, M1, N2, N1, zb, za, fun sw H11 s11 r11 => ?_⟩
    rw [tot_sym] at r11
    replace M1 := M1.same s11
    replace M2 := M2.same s11
    replace r8 := r8.same s11
    replace r9 := r9.same s11
    repeat walk_at "rr"
    refine i_reprT r11 sm1 ?_
    repeat walk_at "rr"
    refine i_reprT r8 sm1 ?_
    refine i_neS rfl ?_
    repeat walk_at "rr"
    subst e
    refine i_seqA fun n e => ?_
    repeat walk_at "rr"
    refine ⟨c, d, m1, m2, a1, a2, q1, q2, rfl, M1, M2, N1, N2, zc, zd, fun sh2 H12 s12 r12 => ?_⟩
    replace M1 := M1.same s12
    replace M2 := M2.same s12
    replace r8 := r8.same s12
    replace r9 := r9.same s12
    repeat walk_at "rr"
    refine i_reprT r12 sm2 ?_
    repeat walk_at "rr"
    refine i_reprT r9 sm2 ?_
    refine i_neS rfl ?_
    repeat walk_at "rr"
    subst e
    refine i_seqA fun n e => ?_
    repeat walk_at "rr"
    have S12 : Same H4 H12 := s5.trans (s6.trans (s7.trans (s8.trans (s9.trans (s10.trans (s11.trans s12))))))
    have hp12 := hp4.same S12
    refine ⟨p, _, rfl, hp12, by decide, by decide +kernel, fun dr H13 dr0 dr1 e13 hp13 => ?_⟩
    obtain ⟨x4, y4, ep4, _⟩ := id hp12
    replace M1 := M1.ext ep4 e13
    replace M2 := M2.ext ep4 e13
    replace r8 := r8.ext ep4 e13
    replace r9 := r9.ext ep4 e13
    have E13 : Ext p H H13 := E4.trans ((Ext.same S12).trans e13)
    refine i_I0 ?_
    generalize hby : 1 + dr = y0
    have by0 : 1 ≤ y0 := by omega
    have by1 : y0 ≤ 10000 := by omega
    have bby : Bd 14 y0 := ⟨by omega, by omega⟩
    clear hby
    have zay : Sz (a * y0) := by
      refine ⟨Int.mul_nonneg a0 (by omega), ?_⟩
      have := Int.mul_le_mul a9 by1 (by omega) (by decide)
      omega
    have zby : Sz (b * y0) := by
      refine ⟨Int.mul_nonneg b0 (by omega), ?_⟩
      have := Int.mul_le_mul b9 by1 (by omega) (by decide)
      omega
    have zac : Sz (a + c) := ⟨by omega, by omega⟩
    have zbd : Sz (b + d) := ⟨by omega, by omega⟩
    repeat walk_at "rr"
    subst e
    refine i_seqA fun n e => ?_
    repeat walk_at "rr"
    refine i_mulW za bby ?_
    repeat walk_at "rr"
    refine i_mulW zb bby ?_
    repeat walk_at "rr"
    refine ⟨_, _, m1, m2, a1, a2, q1, q2, rfl, M1, M2, N1, N2, zay, zby, fun more H14 s14 r14 => ?_⟩
    replace M1 := M1.same s14
    replace M2 := M2.same s14
    replace r8 := r8.same s14
    replace r9 := r9.same s14
    repeat walk_at "rr"
    subst e
    cases hab : tot a a1 q1 b a2 q2 with
    | none =>
      rw [hab] at r8
      have e8 : due = .non := r8
      subst e8
      refine i_seqA fun n e => ?_
      repeat walk_at "rr"
      subst e
      refine i_seqA fun n e => ?_
      repeat walk_at "rr"
      subst e
      refine i_seqA fun n e => ?_
      repeat walk_at "rr"
      refine ⟨_, _, m1, m2, a1, a2, q1, q2, rfl, M1, M2, N1, N2, zac, zbd, fun whole H15 s15 r15 => ?_⟩
      repeat walk_at "rr"
      subst e
      refine i_seqA fun n e => ?_
      repeat walk_at "rr"
      exact k _ (E13.trans (Ext.same (s14.trans s15))) (hp13.same (s14.trans s15))
    | some xy =>
      obtain ⟨x, y⟩ := xy
      rw [hab] at r8
      obtain ⟨td, e8, htd⟩ := r8
      subst e8
      obtain ⟨x', y', ht', i1, i2⟩ := tot_times a0 b0 by0 hab
      rw [ht'] at r14
      obtain ⟨tm, e14, htm⟩ := r14
      subst e14
      obtain ⟨bx, by2⟩ := sm1 x y hab
      refine i_seqA fun n e => ?_
      repeat walk_at "rr"
      subst e
      refine i_seqA fun n e => ?_
      repeat walk_at "rr"
      refine i_mulW bx bby ?_
      repeat walk_at "rr"
      rw [decide_eq_false (show ¬ x * y0 < x' by omega)]
      repeat walk_at "rr"
      refine i_mulW by2 bby ?_
      repeat walk_at "rr"
      rw [decide_eq_false (show ¬ y' < y * y0 by omega)]
      repeat walk_at "rr"
      subst e
      refine i_seqA fun n e => ?_
      repeat walk_at "rr"
      refine ⟨_, _, m1, m2, a1, a2, q1, q2, rfl, M1, M2, N1, N2, zac, zbd, fun whole H15 s15 r15 => ?_⟩
      replace htd := s15 _ _ htd
      replace r9 := r9.same s15
      repeat walk_at "rr"
      subst e
      cases hcd : tot c a1 q1 d a2 q2 with
      | none =>
        rw [hcd] at r9
        have e9 : also = .non := r9
        subst e9
        refine i_seqA fun n e => ?_
        repeat walk_at "rr"
        exact k _ (E13.trans (Ext.same (s14.trans s15))) (hp13.same (s14.trans s15))
      | some uv =>
        obtain ⟨u, v⟩ := uv
        rw [hcd] at r9
        obtain ⟨ta, e9, hta⟩ := r9
        subst e9
        obtain ⟨x'', y'', ht'', j1, j2⟩ := tot_plus a0 b0 c0 d0 hab hcd
        rw [ht''] at r15
        obtain ⟨tw, e15, htw⟩ := r15
        subst e15
        refine i_seqA fun n e => ?_
        repeat walk_at "rr"
        subst e
        repeat walk_at "rr"
        rw [decide_eq_true (show x'' ≤ x + u by omega)]
        repeat walk_at "rr"
        rw [decide_eq_true (show y + v ≤ y'' by omega)]
        repeat walk_at "rr"
        exact k _ (E13.trans (Ext.same (s14.trans s15))) (hp13.same (s14.trans s15))
def spLaw (K : PySem.W.Frag) : Sp := fun vs H Q _ => ∃ (a : Addr) (ns : List Int), vs = [.ref a] ∧ SqL K H a (ns.map V.int) ∧ ns.length ≤ 63 ∧ ∀ H', Q (.bl true) H'
theorem ok_law (F : Fun K "law" "law" s_law f fd) (T : TM K mg C p0 p1 p2 pl pm gl gm) (D__law_pot_of : Dn P w K mg base 1 "_law_pot_of" (spPotOf K)) (D__law_right : DnG P w K mg base 8 "_law_right" spRight) : FnG P w K mg base CX0 10 f fd ["_law_script"] (spLaw K) := by
  refine okG F sc_law (fun vs H Q E h => ?_) (fun cdv A outer s H vs Q E hgd hr h => ?_)
  · obtain ⟨a, ns, rfl, _⟩ := h
    rfl
  · obtain ⟨a, ns, rfl, hS, hl, k⟩ := h
    refine ⟨_, (pss_cons (ps_for PassesOwn.never (by rfl) (pi_range1 (by rfl) T.b_range (pa_cons (pe_callB (call_max2 rfl) (by rfl) T.b_max (by decide +kernel) (pa_cons pe_int (pa_cons (pe_callB (call_min2 rfl) (by rfl) T.b_min (by decide +kernel) (pa_cons (pe_callB call_len_seq (by rfl) T.b_len (by decide +kernel) (pa_cons (pv 0) pa_nil)) (pa_cons pe_int pa_nil))) pa_nil))) pa_nil)) (pg_name (i := 1) sc_law.nd rfl (Or.inl rfl))
        (pss_cons (ps_set (i := 2) sc_law.nd rfl (Or.inr rfl) (pe_cl D__law_pot_of (hr.mono (by decide)) (pa_cons (pv 0) (pa_cons (pv 1) pa_nil))))
        (pss_one (ps_if (pt_not (pt_val (pe_callB (cr_all rfl) (by rfl) T.b_all (by decide +kernel) (pa_cons (pe_lc (own := [("_law_turn", 3)]) (g := gName 3) (by rfl) sc_law.nd (pi_range1 (by rfl) T.b_range (pa_cons pe_int pa_nil)) (blkOk_by (own := [("_law_turn", 3)]) (N := n_law) (sc := defScope s_law) (by decide +kernel)) (fun _ _ _ _ _ => (pg_name (i := 3) sc_law.nd rfl (Or.inl rfl))) (fun _ _ _ _ _ => pts_nil) (fun _ _ _ _ _ => (pe_clG D__law_right hgd (hr.mono (by decide)) (pa_cons (pv 2) pa_nil)))) pa_nil))))
          (pss_one (ps_ret pe_bl))
          pss_nil))))
      (pss_one (ps_ret pe_bl))), ?_⟩
    repeat walk_at "rm"
    refine i_lenL hS ?_
    repeat walk_at "rm"
    rw [List.length_map]
    generalize hn : (if (if (5 : Int) < (ns.length : Int) then (5 : Int) else (ns.length : Int)) > 1 then (if (5 : Int) < (ns.length : Int) then (5 : Int) else (ns.length : Int)) else 1) = n
    have n0 : 1 ≤ n := by rw [← hn]; split <;> split <;> omega
    have n1 : n ≤ 5 := by rw [← hn]; split <;> split <;> omega
    refine ⟨by omega, by omega, ?_⟩
    refine fRng (fun i σ H' => Same H H' ∧ ∃ u v w', σ = [some (.ref a), u, v, w']) ⟨Same.refl _, _, _, _, rfl⟩ ?_ ?_
    · rintro i σ H1 hi ⟨s1, u, v, w', rfl⟩
      repeat walk_at "rm"
      refine ⟨a, _, ns, rfl, s1.seq hS, by omega, by omega, fun p H2 np s2 hp => ?_⟩
      repeat walk_at "rm"
      refine ⟨by decide, by decide, ?_⟩
      intro D nD
      have npD : p ≠ D := by
        obtain ⟨x, y, e, _⟩ := hp
        exact ne_of_none e nD
      have n2 : H D = none := (s1.trans s2).free nD
      have np0 : H p = none := s1.free np
      refine lc_range (n := 6) (fun j H3 => Same H H3 ∧ Pot H3 p ∧ H3 D = some (.lst ((List.replicate j true).map V.bl))) ⟨(s1.trans s2).trans (same_new nD), hp.same (same_new nD), upd_same⟩ ?_ ?_
      · rintro j H3 hj ⟨s3, hp3, hD⟩
        refine i_gname ⟨rfl, ?_⟩
        repeat walk_at "rm"
        refine ⟨p, rfl, hp3, fun H4 e4 hp4 => ?_⟩
        have hD4 := e4 _ _ (Ne.symm npD) hD
        refine ⟨_, hD4, Nat.lt_of_le_of_lt (m := 1000) (by simp; omega) (by decide), ?_, ?_, ?_⟩
        · intro b o z
          rw [upd_ne (ne_of_none z n2)]
          exact e4 b o (ne_of_none z np0) (s3 b o z)
        · obtain ⟨x, y, e, r⟩ := hp4
          exact ⟨x, y, by rw [upd_ne npD]; exact e, r⟩
        · rw [upd_same, List.replicate_succ', List.map_append]
          rfl
      · rintro H3 ⟨s3, hp3, hD⟩
        repeat walk_at "rm"
        refine ⟨D, List.replicate 6 true, rfl, SqL.of hD, ?_⟩
        refine i_bl ?_
        rw [show (List.replicate 6 true).all id = true from rfl]
        repeat walk_at "rm"
        exact ⟨s3, _, _, _, rfl⟩
    · rintro σ H1 ⟨s1, u, v, w', rfl⟩
      repeat walk_at "rm"
      exact k _
end
end K35

set_option Elab.async false
set_option linter.all false
set_option maxRecDepth 100000
set_option maxHeartbeats 4000000
namespace K35
open L2 PyProof.Rows PySem.Spec PySem G58 SlX K35M
/-- a def of the top as the written part has it -/
def HasDef (K : PySem.W.Frag) (x : Str) (st : Stmt) : Prop := ∃ (f : Addr) (oc : Value) (od : Option Addr) (kV dc pm : Value) (an : Option Addr) (cd ct : Value) (sl : Array (Option Value)),
  PySem.W.nsIn K mainGlobals x = some (some (.ref f)) ∧ K.lookup f = some ⟨oc, od, .func (PySem.W.fnOf x x (defArgs st) (defBody st) (defScope st) .none kV dc pm an cd ct), sl⟩ ∧ PySem.W.codeIn K cd x = true ∧ PySem.W.keepIn K (.ref f) = true
theorem hasDef {K : PySem.W.Frag} {x : Str} {st : Stmt} {f : Addr} {oc : Value} {od : Option Addr} {kV dc pm : Value} {an : Option Addr} {cd ct : Value} {sl : Array (Option Value)}
    (a : PySem.W.nsIn K mainGlobals x = some (some (.ref f))) (l : K.lookup f = some ⟨oc, od, .func (PySem.W.fnOf x x (defArgs st) (defBody st) (defScope st) .none kV dc pm an cd ct), sl⟩) (c : PySem.W.codeIn K cd x = true) (k : PySem.W.keepIn K (.ref f) = true) : HasDef K x st :=
  ⟨f, oc, od, kV, dc, pm, an, cd, ct, sl, a, l, c, k⟩
/-- a method at f -/
def HasMeth (K : PySem.W.Frag) (x qual : Str) (st : Stmt) (f : Addr) : Prop := ∃ (oc : Value) (od : Option Addr) (kV dc pm : Value) (an : Option Addr) (cd ct : Value) (sl : Array (Option Value)),
  K.lookup f = some ⟨oc, od, .func (PySem.W.fnOf x qual (defArgs st) (defBody st) (defScope st) .none kV dc pm an cd ct), sl⟩ ∧ PySem.W.codeIn K cd qual = true ∧ PySem.W.keepIn K (.ref f) = true
theorem hasMeth {K : PySem.W.Frag} {x qual : Str} {st : Stmt} {f : Addr} {oc : Value} {od : Option Addr} {kV dc pm : Value} {an : Option Addr} {cd ct : Value} {sl : Array (Option Value)}
    (l : K.lookup f = some ⟨oc, od, .func (PySem.W.fnOf x qual (defArgs st) (defBody st) (defScope st) .none kV dc pm an cd ct), sl⟩) (c : PySem.W.codeIn K cd qual = true) (k : PySem.W.keepIn K (.ref f) = true) : HasMeth K x qual st f :=
  ⟨oc, od, kV, dc, pm, an, cd, ct, sl, l, c, k⟩
section
variable {P : Program} {w : World} {K : PySem.W.Frag} {mg : Str → Option Value} {base h : Heap} {k : Nat} {x : Str} {st : Stmt} {ps : List Str} {sp : Sp}
theorem dn_mk (X : K.In h) (G : h.Ns mainGlobals mg) (d : HasDef K x st)
    (hb : ∀ (kV doc pm : Value) (an : Option Addr) (cdv ct : Value) (us : List Value), us.length = ps.length → bindArgs (PySem.W.fnOf x x (defArgs st) (defBody st) (defScope st) .none kV doc pm an cdv ct) ⟨us, []⟩ = pure (ps.zip us))
    (ok : ∀ f fd, Fun K x x st f fd → FnOk P w K mg base CX0 k f fd ps sp) : Dn P w K mg base k x sp := by
  obtain ⟨f, oc, od, kV, dc, pm, an, cd, ct, sl, a, l, c, kp⟩ := d
  have F := fun_mk (st := st) l c kp
  exact ⟨f, _, ps, PySem.W.mg_of X G a, kp, F.binds hb, ok f _ F⟩
theorem dnG_mk (X : K.In h) (G : h.Ns mainGlobals mg) (d : HasDef K x st)
    (hb : ∀ (kV doc pm : Value) (an : Option Addr) (cdv ct : Value) (us : List Value), us.length = ps.length → bindArgs (PySem.W.fnOf x x (defArgs st) (defBody st) (defScope st) .none kV doc pm an cdv ct) ⟨us, []⟩ = pure (ps.zip us))
    (ok : ∀ f fd, Fun K x x st f fd → FnG P w K mg base CX0 k f fd ps sp) : DnG P w K mg base k x sp := by
  obtain ⟨f, oc, od, kV, dc, pm, an, cd, ct, sl, a, l, c, kp⟩ := d
  have F := fun_mk (st := st) l c kp
  exact ⟨f, _, ps, PySem.W.mg_of X G a, kp, F.binds hb, ok f _ F⟩
end
theorem hasInit {K : PySem.W.Frag} {x qual : Str} {st : Stmt} {f T : Addr} {oc oc' : Value} {od od' : Option Addr} {kV dc pm : Value} {an : Option Addr} {cd ct : Value} {sl sl' : Array (Option Value)} {its : List Value} {n : Nat}
    (l : K.lookup f = some ⟨oc, od, .func (PySem.W.fnOf x qual (defArgs st) (defBody st) (defScope st) (.ref T) kV dc pm an cd ct), sl⟩) (c : PySem.W.codeIn K cd qual = true) (k : PySem.W.keepIn K (.ref f) = true)
    (lT : K.lookup T = some ⟨oc', od', .seq its.toArray n, sl'⟩) (r : Vals [.non] its) : ∃ fd, FunD K x qual (defArgs st) (defBody st) (defScope st) [.non] [] f fd :=
  ⟨_, ⟨oc, od, .ref T, kV, dc, pm, an, cd, ct, sl, rfl, l, c, .inr ⟨by simp, T, _, its, n, rfl, lT, rfl, r⟩, .inl rfl⟩, k⟩
theorem hasRec {K : PySem.W.Frag} {p g : Addr} {rest : List Value} (h : PySem.W.recIn K p "property" = some (.ref g :: rest)) : ∃ rest, PySem.W.recIn K p "property" = some (.ref g :: rest) := ⟨rest, h⟩
/-- all that is read off the written part -/
structure All (K : PySem.W.Frag) (C p0 p1 p2 pl pm gl gm fI : Addr) : Prop where
  d1 : HasDef K "is_integer" s_is_integer
  d2 : HasDef K "is_count" s_is_count
  d3 : HasDef K "want_count" s_want_count
  d4 : HasDef K "wrong_line" s_wrong_line
  d5 : HasDef K "totals_between" s_totals_between
  d6 : HasDef K "totals" s_totals
  d7 : HasDef K "_law_pot_of" s_law_pot_of
  d8 : HasDef K "_law_draw" s_law_draw
  d9 : HasDef K "_law_pick" s_law_pick
  d10 : HasDef K "_law_made_many" s_law_made_many
  d11 : HasDef K "_law_numbers_in" s_law_numbers_in
  d12 : HasDef K "_law_sizes_in" s_law_sizes_in
  d13 : HasDef K "_law_due_totals" s_law_due_totals
  d14 : HasDef K "_law_right" s_law_right
  d15 : HasDef K "law" s_law
  b1 : PySem.W.nsIn K mainGlobals "int" = some none
  b2 : PySem.W.nsIn K mainGlobals "bool" = some none
  b3 : PySem.W.nsIn K mainGlobals "isinstance" = some none
  b4 : PySem.W.nsIn K mainGlobals "len" = some none
  b5 : PySem.W.nsIn K mainGlobals "abs" = some none
  b6 : PySem.W.nsIn K mainGlobals "max" = some none
  b7 : PySem.W.nsIn K mainGlobals "min" = some none
  b8 : PySem.W.nsIn K mainGlobals "all" = some none
  b9 : PySem.W.nsIn K mainGlobals "range" = some none
  b10 : PySem.W.nsIn K mainGlobals "divmod" = some none
  b11 : PySem.W.nsIn K mainGlobals "repr" = some none
  gC : PySem.W.nsIn K mainGlobals "Many" = some (some (.ref C))
  sc : SCls K C
  isi : SIsi K C
  s0 : Slot1 K C "own_least" p0 0
  s1 : Slot1 K C "own_most" p1 1
  s2 : Slot1 K C "own_place" p2 2
  a_least : PySem.W.findIn K (.ref C) "least" = some (some (.ref pl))
  p_least : PySem.W.specialIn K (.ref pl) "__get__" = some (some (.builtin "property.__get__"))
  t_least : PySem.W.takesIn K (.ref pl) = some true
  r_least : ∃ rest, PySem.W.recIn K pl "property" = some (.ref gl :: rest)
  a_most : PySem.W.findIn K (.ref C) "most" = some (some (.ref pm))
  p_most : PySem.W.specialIn K (.ref pm) "__get__" = some (some (.builtin "property.__get__"))
  t_most : PySem.W.takesIn K (.ref pm) = some true
  r_most : ∃ rest, PySem.W.recIn K pm "property" = some (.ref gm :: rest)
  m1 : HasMeth K "least" "Many.least" s_Many_least gl
  m2 : HasMeth K "most" "Many.most" s_Many_most gm
  mm : Mk K C fI
  mi : ∃ fd, FunD K "__init__" "Many.__init__" (defArgs s_Many___init) (defBody s_Many___init) (defScope s_Many___init) [.non] [] fI fd
theorem all_law {P : Program} {w : World} {K : PySem.W.Frag} {mg : Str → Option Value} {h : Heap} {fa C p0 p1 p2 pl pm gl gm fI : Addr} (X : K.In h) (G : h.Ns mainGlobals mg) (hfa : mg "law" = some (.ref fa)) (Z : All K C p0 p1 p2 pl pm gl gm fI) :
    ∃ fd : FuncData, (∀ (s : Shared) (u : Value), BindsTo s fd ⟨[u], []⟩ [("_law_script", u)]) ∧ ∀ base : Heap, K.In base → base.Ns mainGlobals mg → FnG P w K mg base CX0 10 fa fd ["_law_script"] (spLaw K) := by
  obtain ⟨f, oc, od, kV, dc, pmv, an, cd, ct, sl, a, l, c, kp⟩ := Z.d15
  have e := hfa.symm.trans (PySem.W.mg_of X G a)
  cases e
  have F := fun_mk (st := s_law) l c kp
  have B : Blt mg := ⟨PySem.W.mg_none_of X G Z.b1, PySem.W.mg_none_of X G Z.b2, PySem.W.mg_none_of X G Z.b3, PySem.W.mg_none_of X G Z.b4, PySem.W.mg_none_of X G Z.b5, PySem.W.mg_none_of X G Z.b6, PySem.W.mg_none_of X G Z.b7, PySem.W.mg_none_of X G Z.b8,
    PySem.W.mg_none_of X G Z.b9, PySem.W.mg_none_of X G Z.b10, PySem.W.mg_none_of X G Z.b11⟩
  have T : TM K mg C p0 p1 p2 pl pm gl gm := ⟨B, ⟨PySem.W.mg_of X G Z.gC, Z.sc, Z.isi, Z.s0, Z.s1, Z.s2, Z.a_least, Z.p_least, Z.t_least, Z.r_least, Z.a_most, Z.p_most, Z.t_most, Z.r_most⟩⟩
  refine ⟨PySem.W.fnOf "law" "law" (defArgs s_law) (defBody s_law) (defScope s_law) .none kV dc pmv an cd ct, fun s v => .of_eq rfl, fun base _ _ => ?_⟩
  have D1 : Dn P w K mg base 1 "is_integer" spIsInt := dn_mk X G Z.d1 (fun _ _ _ _ _ _ us hl => match us, hl with | [_], _ => rfl) fun f fd F => ok_is_integer F B
  have D2 : Dn P w K mg base 2 "is_count" spIsCount := dn_mk X G Z.d2 (fun _ _ _ _ _ _ us hl => match us, hl with | [_], _ => rfl) fun f fd F => ok_is_count F B D1
  have D3 : Dn P w K mg base 3 "want_count" spWant := dn_mk X G Z.d3 (fun _ _ _ _ _ _ us hl => match us, hl with | [_], _ => rfl) fun f fd F => ok_want_count F B D2
  have DL : FnR P w K mg base CX0 1 gl (spLeast C) := by
    obtain ⟨oc, od, kV, dc, pmv, an, cd, ct, sl, l, c, kp⟩ := Z.m1
    have F := fun_mk (st := s_Many_least) l c kp
    have R := (ok_least (P := P) (w := w) (base := base) F T).raw (F.binds (ps := ["self"]) fun _ _ _ _ _ _ us hl => match us, hl with | [_], _ => rfl) .nil
    exact R.imp fun vs H Q E z => by rw [List.append_nil]; exact z
  have DM : FnR P w K mg base CX0 1 gm (spMost C) := by
    obtain ⟨oc, od, kV, dc, pmv, an, cd, ct, sl, l, c, kp⟩ := Z.m2
    have F := fun_mk (st := s_Many_most) l c kp
    have R := (ok_most (P := P) (w := w) (base := base) F T).raw (F.binds (ps := ["self"]) fun _ _ _ _ _ _ us hl => match us, hl with | [_], _ => rfl) .nil
    exact R.imp fun vs H Q E z => by rw [List.append_nil]; exact z
  have MK : MkM P w K mg base C := by
    obtain ⟨fd, FI⟩ := Z.mi
    obtain ⟨ds0, r0, b0⟩ := FI.binds1 (ps := ["self", "least", "most"]) 3 1 (by simp) rfl (fun _ _ _ _ _ _ _ us its h1 h2 => match us, its, h1, h2 with | [_, _, _], [_], _, _ => ⟨_, rfl, rfl⟩)
    obtain ⟨ds1, r1, b1⟩ := FI.binds1 (ps := ["self", "least", "most"]) 2 0 (by simp) rfl (fun _ _ _ _ _ _ _ us its h1 h2 => match us, its, h1, h2 with | [_, _], [_], _, _ => ⟨_, rfl, rfl⟩)
    have e0 : ds0 = [] := by
      cases r0
      rfl
    subst e0
    exact ⟨fI, fd, Z.mm, ok_init FI T D3, b0, ds1, r1, b1⟩
  have D4 : Dn P w K mg base 3 "wrong_line" (spWrong C) := dn_mk X G Z.d4 (fun _ _ _ _ _ _ us hl => match us, hl with | [_, _, _, _], _ => rfl) fun f fd F => ok_wrong F T DL DM
  have D5 : Dn P w K mg base 3 "totals_between" (spBetween C) := dn_mk X G Z.d5 (fun _ _ _ _ _ _ us hl => match us, hl with | [_, _, _, _], _ => rfl) fun f fd F => ok_between F T DL DM
  have D6 : Dn P w K mg base 5 "totals" (spTotals C) := dn_mk X G Z.d6 (fun _ _ _ _ _ _ us hl => match us, hl with | [_, _, _, _], _ => rfl) fun f fd F => ok_totals F T D3 D4 D5
  have D7 : Dn P w K mg base 1 "_law_pot_of" (spPotOf K) := dn_mk X G Z.d7 (fun _ _ _ _ _ _ us hl => match us, hl with | [_, _], _ => rfl) fun f fd F => ok_pot_of F B
  have D8 : Dn P w K mg base 1 "_law_draw" spDraw := dn_mk X G Z.d8 (fun _ _ _ _ _ _ us hl => match us, hl with | [_, _], _ => rfl) fun f fd F => ok_draw F B
  have D9 : Dn P w K mg base 2 "_law_pick" (spPick K) := dn_mk X G Z.d9 (fun _ _ _ _ _ _ us hl => match us, hl with | [_, _], _ => rfl) fun f fd F => ok_pick F B D8
  have D10 : Dn P w K mg base 6 "_law_made_many" (spMadeMany C) := dn_mk X G Z.d10 (fun _ _ _ _ _ _ us hl => match us, hl with | [_], _ => rfl) fun f fd F => ok_made_many F T MK
  have D11 : Dn P w K mg base 3 "_law_numbers_in" spNumbers := dn_mk X G Z.d11 (fun _ _ _ _ _ _ us hl => match us, hl with | [_], _ => rfl) fun f fd F => ok_numbers F T D8 D9
  have D12 : Dn P w K mg base 3 "_law_sizes_in" spSizes := dn_mk X G Z.d12 (fun _ _ _ _ _ _ us hl => match us, hl with | [_, _, _], _ => rfl) fun f fd F => ok_sizes F T D8 D9
  have D13 : Dn P w K mg base 1 "_law_due_totals" spDue := dn_mk X G Z.d13 (fun _ _ _ _ _ _ us hl => match us, hl with | [_, _, _, _], _ => rfl) fun f fd F => ok_due F T
  have D14 : DnG P w K mg base 8 "_law_right" spRight := dnG_mk X G Z.d14 (fun _ _ _ _ _ _ us hl => match us, hl with | [_], _ => rfl) fun f fd F => ok_right F T D8 D11 D12 D10 D13 D6
  exact ok_law F T D7 D14
theorem walk {l : PySem.W.OpenLaw} {q : Program} {loose : List Str} {XP : (Str → Option Value) → Heap → Prop} {YP : World → Heap → Prop} {d : DefRec} {K : Params → PySem.W.Frag} (hn : l.most = some 63) (hdf : d.params.defaults = [])
    (hY : ∀ (w : World) (h : Heap), YP w h → (K w.params).In h) (hd : d.name = "law") (Z : ∀ w : World, ∃ C p0 p1 p2 pl pm gl gm fI, All (K w.params) C p0 p1 p2 pl pm gl gm fI) :
    PySem.W.WalkO q loose XP YP l.row.toRowW d [] (fun f vs => PySem.call f vs) :=
  walkG (n := 63) (k := 10) (x := "_law_script") (sp := spLaw) hn (by decide) hdf ⟨rfl, by decide, by decide⟩ hY
    (fun w mg fa h X G hfa => let ⟨C, p0, p1, p2, pl, pm, gl, gm, fI, z⟩ := Z w; all_law X G (by rw [← hd]; exact hfa) z) fun K H a ns hl _ hS => ⟨a, ns, rfl, hS, hl, fun _ => rfl⟩
end K35

open PySem PySem.W PyProof.Rows
set_option Elab.async false
set_option maxRecDepth 100000
set_option maxHeartbeats 0
open_top hd for PySem.Challenge.rw_howmanyeach_k35_totals_far_away

open PySem PySem.W PyProof.Rows
set_option Elab.async false
set_option maxRecDepth 100000
set_option maxHeartbeats 0
theorem PySem.Challenge.cw_howmanyeach_k35_totals_far_away_holds : PySem.Challenge.rw_howmanyeach_k35_totals_far_away.Holds :=
  hd (by
    k_fill
    refine K35.walk (l := PySem.Challenge.rw_howmanyeach_k35_totals_far_away) rfl rfl (fun w h Y => PySem.W.kIn_of Y) rfl ?Z
    case Z =>
      intro w
      refine' ⟨_, _, _, _, _, _, _, _, _, ⟨?d1, ?d2, ?d3, ?d4, ?d5, ?d6, ?d7, ?d8, ?d9, ?d10, ?d11, ?d12, ?d13, ?d14, ?d15, ?b1, ?b2, ?b3, ?b4, ?b5, ?b6, ?b7, ?b8, ?b9, ?b10, ?b11, ?gC, ?sc, ?isi, ?s0, ?s1, ?s2, ?a_least, ?p_least, ?t_least, ?r_least, ?a_most, ?p_most, ?t_most, ?r_most, ?m1, ?m2, ?mm, ?mi⟩⟩
      case gC => (k_is)
      case d1 => (refine' K35.hasDef ?ha ?hl ?hc ?hk; (case ha => k_is); (case hl => k_is); (case hc => k_is); (case hk => k_is))
      case d2 => (refine' K35.hasDef ?ha ?hl ?hc ?hk; (case ha => k_is); (case hl => k_is); (case hc => k_is); (case hk => k_is))
      case d3 => (refine' K35.hasDef ?ha ?hl ?hc ?hk; (case ha => k_is); (case hl => k_is); (case hc => k_is); (case hk => k_is))
      case d4 => (refine' K35.hasDef ?ha ?hl ?hc ?hk; (case ha => k_is); (case hl => k_is); (case hc => k_is); (case hk => k_is))
      case d5 => (refine' K35.hasDef ?ha ?hl ?hc ?hk; (case ha => k_is); (case hl => k_is); (case hc => k_is); (case hk => k_is))
      case d6 => (refine' K35.hasDef ?ha ?hl ?hc ?hk; (case ha => k_is); (case hl => k_is); (case hc => k_is); (case hk => k_is))
      case d7 => (refine' K35.hasDef ?ha ?hl ?hc ?hk; (case ha => k_is); (case hl => k_is); (case hc => k_is); (case hk => k_is))
      case d8 => (refine' K35.hasDef ?ha ?hl ?hc ?hk; (case ha => k_is); (case hl => k_is); (case hc => k_is); (case hk => k_is))
      case d9 => (refine' K35.hasDef ?ha ?hl ?hc ?hk; (case ha => k_is); (case hl => k_is); (case hc => k_is); (case hk => k_is))
      case d10 => (refine' K35.hasDef ?ha ?hl ?hc ?hk; (case ha => k_is); (case hl => k_is); (case hc => k_is); (case hk => k_is))
      case d11 => (refine' K35.hasDef ?ha ?hl ?hc ?hk; (case ha => k_is); (case hl => k_is); (case hc => k_is); (case hk => k_is))
      case d12 => (refine' K35.hasDef ?ha ?hl ?hc ?hk; (case ha => k_is); (case hl => k_is); (case hc => k_is); (case hk => k_is))
      case d13 => (refine' K35.hasDef ?ha ?hl ?hc ?hk; (case ha => k_is); (case hl => k_is); (case hc => k_is); (case hk => k_is))
      case d14 => (refine' K35.hasDef ?ha ?hl ?hc ?hk; (case ha => k_is); (case hl => k_is); (case hc => k_is); (case hk => k_is))
      case d15 => (refine' K35.hasDef ?ha ?hl ?hc ?hk; (case ha => k_is); (case hl => k_is); (case hc => k_is); (case hk => k_is))
      case b1 => (k_is)
      case b2 => (k_is)
      case b3 => (k_is)
      case b4 => (k_is)
      case b5 => (k_is)
      case b6 => (k_is)
      case b7 => (k_is)
      case b8 => (k_is)
      case b9 => (k_is)
      case b10 => (k_is)
      case b11 => (k_is)
      case sc => (refine' ⟨?h1, ?h2, ?h3, ?h4⟩; (case h1 => k_is); (case h2 => k_is); (case h3 => k_is); (case h4 => k_is))
      case isi => (refine' ⟨?h1, ?h2, ?h3, ?h4⟩; (case h1 => k_is); (case h2 => k_is); (case h3 => k_is); (case h4 => k_is))
      case s0 => (refine' ⟨?h1, ?h2, ?h3, ?h4, ?h5, ?h6⟩; (case h1 => k_is); (case h2 => k_is); (case h3 => k_is); (case h4 => k_is); (case h5 => k_is); (case h6 => decide))
      case s1 => (refine' ⟨?h1, ?h2, ?h3, ?h4, ?h5, ?h6⟩; (case h1 => k_is); (case h2 => k_is); (case h3 => k_is); (case h4 => k_is); (case h5 => k_is); (case h6 => decide))
      case s2 => (refine' ⟨?h1, ?h2, ?h3, ?h4, ?h5, ?h6⟩; (case h1 => k_is); (case h2 => k_is); (case h3 => k_is); (case h4 => k_is); (case h5 => k_is); (case h6 => decide))
      case a_least => (k_is)
      case p_least => (k_is)
      case t_least => (k_is)
      case r_least => (refine' K35.hasRec ?h1; (case h1 => k_is))
      case a_most => (k_is)
      case p_most => (k_is)
      case t_most => (k_is)
      case r_most => (refine' K35.hasRec ?h1; (case h1 => k_is))
      case m1 => (refine' K35.hasMeth ?hl ?hc ?hk; (case hl => k_is); (case hc => k_is); (case hk => k_is))
      case m2 => (refine' K35.hasMeth ?hl ?hc ?hk; (case hl => k_is); (case hc => k_is); (case hk => k_is))
      case mm => (refine' ⟨?h1, ?h2, ?h3, ?h4⟩; (case h1 => k_is); (case h2 => k_is); (case h3 => k_is); (case h4 => k_is))
      case mi => (refine' K35.hasInit ?hl ?hc ?hk ?ht ?hr; (case hl => k_is); (case hc => k_is); (case hk => k_is); (case ht => k_is); (case hr => exact .cons rfl .nil)))
