import PyProof.Rows.All
import Wide.All
import OpenK.AllK
import Wide.FinOn
import HandS.ForMost
import HandS.Wide
import HandS.WideBits
import HandS.IsInst
import HandS.Slots
import HandS.SlotsOwn
import HandS.Defaults
import PyProof.ReprRoads
import HandS.Conv
import HandS.SetFor
import HandS.Strs
import PySem.Challenge.RW_howmanyeach_k34_whole_totals_by_all_pair
set_option Elab.async false
set_option linter.all false
set_option maxRecDepth 100000
set_option maxHeartbeats 4000000
namespace G58
open L2 PyProof.Rows PySem.Spec PySem

/-- a def's promise where it is known that no repr is under way -/
structure FnG (P : Program) (w : World) (K : PySem.W.Frag) (mg : Str → Option Value) (base : Heap) (CX : CXT) (k : Nat) (f : Addr) (fd : FuncData) (ps : List Str) (sp : Sp) : Prop where
  len : ∀ vs H Q E, sp vs H Q E → vs.length = ps.length
  run : ∀ (A : Around) (outer : List Env) (s : Shared) (H : Hp) (args : Args) (us : List Value) (vs : List V) (Q : VK) (E : XK),
    A.guards = some [] → Room k A → Env0 P w K mg base A outer s H → BindsTo s fd args (ps.zip us) → Vals vs us → sp vs H Q E →
      codeAny (model P w) A (.call (.ref f) args) (CR CX outer P w H s Q E) s

section
variable {P : Program} {w : World} {K : PySem.W.Frag} {mg : Str → Option Value} {base : Heap} {CX : CXT} {j k : Nat} {f : Addr} {fd : FuncData} {ps : List Str} {sp : Sp}
theorem FnG.mono (F : FnG P w K mg base CX j f fd ps sp) (h : j ≤ k) : FnG P w K mg base CX k f fd ps sp :=
  ⟨F.len, fun A o s H ar us vs Q E g hr => F.run A o s H ar us vs Q E g (hr.mono h)⟩
theorem fnG_ok (F : FnOk P w K mg base CX k f fd ps sp) : FnG P w K mg base CX k f fd ps sp :=
  ⟨F.len, fun A o s H ar us vs Q E _ => F.run A o s H ar us vs Q E⟩
/-- the rule of a def by its body -/
theorem fnG_of {name qual : Str} {params : Arguments} {body : List Stmt} {scope : Scope} {dV kV doc pm cdv ct oc : Value} {an od : Option Addr} {osl : Array (Option Value)} {N : List Str}
    (lk : K.lookup f = some ⟨oc, od, .func (PySem.W.fnOf name qual params body scope dV kV doc pm an cdv ct), osl⟩)
    (hcd : PySem.W.codeIn K cdv qual = true) (S : FnScope N ps scope) (len : ∀ vs H Q E, sp vs H Q E → vs.length = ps.length)
    (hbody : ∀ (A : Around) (outer : List Env) (s : Shared) (H : Hp) (vs : List V) (Q : VK) (E : XK),
      A.guards = some [] → Room k (A.deeper (envOfC qual scope s.heap.objs.size f cdv)) → sp vs H Q E →
      ∃ t, PSs (cxOf CX P w K mg base N qual scope f cdv A outer s H E) body t ∧ t { nx := fun _ H' => Q .non H', rt := Q } (start N vs) H) :
    FnG P w K mg base CX (k + 1) f (PySem.W.fnOf name qual params body scope dV kV doc pm an cdv ct) ps sp where
  len := len
  run := by
    intro A outer s H args us vs Q E hg hr e0 hb r hsp
    have kept : ∀ b o, base.get? b = some o → s.heap.get? b = some o := fun b o e => (e0.bs b o e).1
    have KX : K.In s.heap := e0.mod.kin.keeps kept
    refine codeAny_call_function hr.depth (KX _ _ lk) rfl S.co S.gen rfl (PySem.W.codeRec_of KX hcd) (hb _ _ _ _ ?_)
    refine wpAny_newFunctionEnv_cells S.kind (fun y hy => ?_) ?_
    · obtain ⟨n, v⟩ := y
      cases S.par n (List.of_mem_zip hy).1 with
      | inl q => exact .inl q
      | inr q => exact .inr ⟨q, PySem.W.cellsFrom_some _ _ _ (.inl q)⟩
    · intro env he s1 x
      subst he
      refine ⟨(e0.mod.nolimit.keeps kept).keeps x.toInCall.keep, codeAny_func ?_⟩
      obtain ⟨t, ht, hq⟩ := hbody A outer s H vs Q E hg (hr.deeper _) hsp
      have I := inv_start (CX := CX) (E := E) S hr.hd e0 (len _ _ _ _ hsp) r x
      refine wpAny_mono (ht.run [] s1 (start N vs) H _ I hq) (fun fl s' hs => ?_) fun _ _ z => z
      match fl, hs with
      | .ret u, ⟨v, σ', H', J, rv, q⟩ => exact ⟨v, H', J.os, J.bare, J.base, J.hok, rv, q⟩
      | .next, ⟨σ', H', J, q⟩ => exact ⟨V.non, H', J.os, J.bare, J.base, J.hok, rfl, q⟩
      | .brk, ⟨_, _, _, q⟩ => exact False.elim q
      | .cont, ⟨_, _, _, q⟩ => exact False.elim q
/-- the same over Fun, where no exception leaves -/
theorem okG {x qual : Str} {st : Stmt} {N : List Str} (F : Fun K x qual st f fd) (S : FnScope N ps (defScope st)) (len : ∀ vs H Q E, sp vs H Q E → vs.length = ps.length)
    (hbody : ∀ (cdv : Value) (A : Around) (outer : List Env) (s : Shared) (H : Hp) (vs : List V) (Q : VK) (E : XK),
      A.guards = some [] → Room k (A.deeper (envOfC qual (defScope st) s.heap.objs.size f cdv)) → sp vs H Q E →
      ∃ t, PSs (cxOf CX0 P w K mg base N qual (defScope st) f cdv A outer s H E).nox (defBody st) t ∧ t { nx := fun _ H' => Q .non H', rt := Q } (start N vs) H) :
    FnG P w K mg base CX0 (k + 1) f fd ps sp := by
  obtain ⟨oc, od, kV, doc, pm, an, cdv, ct, osl, rfl, lk, hcd⟩ := F.ex
  exact fnG_of lk hcd S len fun A outer s H vs Q E hg hr hsp => let ⟨t, h, q⟩ := hbody cdv A outer s H vs Q E hg hr hsp; ⟨t, h.nox, q⟩
end

section
variable {X : Cx} {CX : CXT} {k : Nat} {f : Addr} {fd : FuncData} {ps : List Str} {sp : Sp} {dvs : List V} {ds : List Value} {E : XK} {x : Str} {p pos : Pos} {e : Expr} {es : List Expr} {t : TA}
theorem run_fnG {pins : List (Addr × Obj)} {σ : L2.St} {H : Hp} {s : Shared} {Q : VK} {us : List Value} {vs : List V} (F : FnG X.prog X.w X.K X.mg X.base CX k f fd ps sp) (hg : X.A.guards = some []) (hr : Room k X.A)
    (hb : Binds X.K fd ps ds) (hd : Vals dvs ds) (hx : Passes CX X E) (I : Inv X pins σ H s) (r : Vals vs us) (h : sp (vs ++ dvs) H Q E) :
    wpAny (model X.prog X.w) X.A (call (.ref f) us) (EP X pins σ Q) X.xe s := by
  have r2 := r.append hd
  have hl : (us ++ ds).length = ps.length := r2.length.symm.trans (F.len _ _ _ _ h)
  refine wpAny_call (codeAny_mono (F.run X.A X.stack s H ⟨us, []⟩ (us ++ ds) (vs ++ dvs) Q E hg hr I.env0 (hb s us I.kIn hl) r2 h) fun r s' hq => ?_)
  match r, hq with
  | .error e, hq => exact hx pins σ H s e s' I hq
  | .ok (.ret u), hq => exact I.after hq
  | .ok .next, hq => exact False.elim hq
  | .ok .brk, hq => exact False.elim hq
  | .ok .cont, hq => exact False.elim hq
/-- f(e, ..) of such a def -/
theorem pe_callG (F : FnG X.prog X.w X.K X.mg X.base CX k f fd ps sp) (hgd : X.A.guards = some []) (hr : Room k X.A) (hg : Gl X x) (hm : X.mg x = some (.ref f)) (hk : PySem.W.keepIn X.K (.ref f) = true)
    (hb : Binds X.K fd ps ds) (hd : Vals dvs ds) (hx : Passes CX X E) (ha : PA X (e :: es) t) (hdb : (x == ("__debug__" : Str)) = false := by decide)
    (he : starEach (e :: es) X.env = (false, eval e X.env) :: starEach es X.env := by rfl) (hpl : (backTo pos (starEach es X.env)).any (·.1) = false := by rfl) :
    PE X (.Call (.Name x p) (e :: es) [] pos) (tCall sp dvs E t) where
  run := fun pins s σ H Q I h => wpAny_Call_Name_kw (ld_glob I hg hm
    (PySem.W.callWith_K (h₀ := X.base) I.ok.mod.kin hk (thn (ha.run pos pins s σ H _ I h) fun us s1 z => let ⟨vs, H1, I1, r, q⟩ := z; ⟨I1.kIn, run_fnG F hgd hr hb hd hx I1 r q⟩) he hpl) hdb)
theorem pe_callG0 (F : FnG X.prog X.w X.K X.mg X.base CX k f fd ps sp) (hgd : X.A.guards = some []) (hr : Room k X.A) (hg : Gl X x) (hm : X.mg x = some (.ref f)) (hk : PySem.W.keepIn X.K (.ref f) = true)
    (hb : Binds X.K fd ps ds) (hd : Vals dvs ds) (hx : Passes CX X E) (hdb : (x == ("__debug__" : Str)) = false := by decide) :
    PE X (.Call (.Name x p) [] [] pos) (tCall sp dvs E tNil) where
  run := fun pins s σ H Q I h => wpAny_Call_Name_kw (ld_glob I hg hm (PySem.W.callWith_K0 I.kIn hk (run_fnG (us := []) F hgd hr hb hd hx I .nil h)) hdb)

/-- repr of data: its text is a function of the data alone -/
def rReprD (K : PySem.W.Frag) : List V → Hp → VK → Prop := fun xs H Q => ∃ x d, xs = [x] ∧ Dp K H x d ∧ d.showable = true ∧ d.hasDict = false ∧ d.depth ≤ 60 ∧ d.shown.length ≤ sizeLine ∧ Q (.str d.shown) H
end
end G58

set_option Elab.async false
set_option linter.all false
set_option maxRecDepth 100000
set_option maxHeartbeats 4000000
namespace G58
open L2 PyProof.Rows PySem.Spec PySem
section
variable {X : Cx}
theorem call_reprD (hg : X.A.guards = some []) (hu : X.A.units + 64 < cLine) : CallR X (.builtin "repr") (rReprD X.K) := by
  intro pins s σ H xs us Q I r h
  obtain ⟨x, d, rfl, hd, hs, hn, hp, hz, q⟩ := h
  obtain ⟨u, rfl, ru⟩ := r.one
  obtain ⟨as, rd⟩ := Dp.reads I d x u hd ru
  have big : ∀ a, u = .ref a → wpAny (model X.prog X.w) X.A (call (.builtin "repr") [u]) (EP X pins σ Q) X.xe s := by
    intro a e
    subst e
    refine repr_of_reads' rd hs (fun z => by rw [hn] at z; cases z) hg (by omega) (fun _ _ e => e) (fun h' u' tk hk => ?_) hz
    exact ⟨.str d.shown, H, I.kept hk, ⟨_, rfl⟩, q⟩
  cases hd with
  | non =>
    cases ru
    exact PySem.P.repr_of_none ⟨.str _, H, I.tok _, ⟨_, rfl⟩, q⟩
  | bl b =>
    cases ru
    exact PySem.P.repr_of_bool ⟨.str _, H, I.tok _, ⟨_, rfl⟩, q⟩
  | int i =>
    obtain ⟨t, rfl⟩ := ru
    exact PySem.P.repr_of_int (of_decide_eq_true hs) ⟨.str _, H, I.tok _, ⟨_, rfl⟩, q⟩
  | str z =>
    obtain ⟨t, rfl⟩ := ru
    exact PySem.P.repr_of_str ⟨.str _, H, I.tok _, ⟨_, rfl⟩, q⟩ hz
  | lst a b => exact big _ ru
  | tup a b => exact big _ ru
end
end G58

set_option Elab.async false
set_option linter.all false
set_option maxRecDepth 100000
set_option maxHeartbeats 4000000
namespace G58
open L2 PyProof.Rows PySem.Spec PySem
/-- the law's call from a heap in which at most the script is tracked -/
theorem callG_core {P : Program} {w : World} {K : PySem.W.Frag} {mg mb : Str → Option Value} {CX : CXT} {k : Nat} {fa a : Addr} {fd : FuncData} {x : Str} {sp : Sp} {s1 : Shared} {vs : List Value}
    (KX : K.In s1.heap) (hns : s1.heap.Ns mainGlobals mg) (hb : s1.heap.Ns builtinsNs mb) (hbb : ∀ x : Str, x ≠ "__name__" → mb x = bootBuiltins x) (hlim : s1.heap.NoLimit) (hg : s1.gens = #[])
    (ha : s1.heap.get? a = some { cls := .type "list", data := .seq vs.toArray }) (hr : Room k callerA)
    (F : ∀ base : Heap, K.In base → base.Ns mainGlobals mg → FnG P w K mg base CX k fa fd [x] sp) (hbind : ∀ (s : Shared) (u : Value), BindsTo s fd ⟨[u], []⟩ [(x, u)])
    (hCX : ∀ H e s', CX [] H s1 (fun _ _ _ => False) e s' → False)
    (H : Hp) (hO : Only H) (hok : HOk P w H s1.heap) (hA : ∀ b, H b ≠ none → b = a) (hK : H a ≠ none → K.lookup a = none)
    (hsp : sp [.ref a] H (fun v _ => v = .bl true) fun _ _ _ => False) :
    codeAny (model P w) callerA (.call (.ref fa) ⟨[.ref a], []⟩) (fun r s' => r = .ok (.ret (.bool true)) ∧ OldK s1.heap s'.heap ∧ s'.os = s1.os ∧ AllBare s'.gens) s1 := by
  have only : ∀ {b u}, H b = some u → b = a := fun {b u} z => hA b (fun n => by rw [z] at n; cases n)
  have free : ∀ {b : Addr} {o : Obj} {es : Array DictEntry} {ep : Nat}, s1.heap.get? b = some o → o.data = .dict es ep → H b = none := by
    intro b o es ep e d
    match q : H b with
    | none => rfl
    | some u =>
      have z := only q
      subst z
      rw [ha] at e
      injection e with e
      subst e
      injection d
  have nsB : ∀ {b : Addr} {m : Str → Option Value}, s1.heap.Ns b m → (hidT s1.heap H).Ns b m := by
    rintro b m ⟨o, es, ep, e, d, r⟩
    exact ⟨o, es, ep, hidT_get e (free e d), d, r⟩
  have inB : K.In (hidT s1.heap H) := by
    intro b o e
    refine hidT_get (KX b o e) ?_
    match q : H b with
    | none => rfl
    | some u =>
      have z := only q
      subst z
      rw [hK (by rw [q]; exact fun n => nomatch n)] at e
      cases e
  have e0 : Env0 P w K mg (hidT s1.heap H) callerA [] s1 H :=
    ⟨rfl, ⟨inB, nsB hns, ⟨mb, nsB hb, hbb⟩, let ⟨mc, z1, z2⟩ := hlim; ⟨mc, nsB z1, z2⟩⟩, fun _ _ e => of_hidT e, Nat.le_of_eq (hidT_size _ _), trivial, (fun _ z => (List.not_mem_nil z).elim), hok, .of_eq hg⟩
  refine codeAny_mono ((F _ inB (nsB hns)).run callerA [] s1 H ⟨[.ref a], []⟩ [.ref a] [.ref a] _ _ rfl hr e0 (hbind s1 (.ref a)) (.cons rfl .nil) hsp) fun r s' h => ?_
  match r, h with
  | .error e, h => exact (hCX H e s' h).elim
  | .ok .next, h => exact False.elim h
  | .ok .brk, h => exact False.elim h
  | .ok .cont, h => exact False.elim h
  | .ok (.ret u), ⟨v, H', os, bare, un, hok', r', q⟩ =>
    have q' : v = .bl true := q
    subst q'
    have r'' : u = Value.bool true := r'
    subst r''
    refine ⟨rfl, OldK.of_keep fun b o e => ?_, os, bare⟩
    match z : H b with
    | none => exact un.keep b o e z (fun n => (List.not_mem_nil n).elim) (fun n => (List.not_mem_nil n).elim)
    | some u =>
      cases hO b with
      | inl n => rw [z] at n; cases n
      | inr n =>
        obtain ⟨ob, ys, n⟩ := n
        obtain ⟨e1, _⟩ := hok b _ n
        obtain ⟨e2, _⟩ := hok' b _ (un.frzs b ob _ n)
        rw [e] at e1
        cases e1
        exact e2
/-- the law's call -/
theorem callG {P : Program} {w : World} {K : PySem.W.Frag} {mg mb : Str → Option Value} {CX : CXT} {k : Nat} {fa a : Addr} {fd : FuncData} {x : Str} {sp : Sp} {s1 : Shared} {vs : List Value} {ns : List Int}
    (KX : K.In s1.heap) (hns : s1.heap.Ns mainGlobals mg) (hb : s1.heap.Ns builtinsNs mb) (hbb : ∀ x : Str, x ≠ "__name__" → mb x = bootBuiltins x) (hlim : s1.heap.NoLimit) (hg : s1.gens = #[])
    (ha : s1.heap.get? a = some { cls := .type "list", data := .seq vs.toArray }) (hi : IntsAre vs ns) (hl : ns.length ≤ sizeLine) (hr : Room k callerA)
    (F : ∀ base : Heap, K.In base → base.Ns mainGlobals mg → FnG P w K mg base CX k fa fd [x] sp) (hbind : ∀ (s : Shared) (u : Value), BindsTo s fd ⟨[u], []⟩ [(x, u)])
    (hsp : ∀ H : Hp, Only H → SqL K H a (ns.map V.int) → sp [.ref a] H (fun v _ => v = .bl true) fun _ _ _ => False)
    (hCX : ∀ H e s', CX [] H s1 (fun _ _ _ => False) e s' → False) :
    codeAny (model P w) callerA (.call (.ref fa) ⟨[.ref a], []⟩) (fun r s' => r = .ok (.ret (.bool true)) ∧ OldK s1.heap s'.heap ∧ s'.os = s1.os ∧ AllBare s'.gens) s1 := by
  have core := callG_core KX hns hb hbb hlim hg ha hr F hbind hCX
  have rv := vals_ints hi
  match hk : K.lookup a with
  | some o =>
    have e := KX a o hk
    rw [ha] at e
    injection e with e
    subst e
    have only : Only fun _ => none := fun _ => .inl rfl
    refine core (fun _ => none) only (fun _ _ z => nomatch z) (fun _ z => absurd rfl z) (fun z => absurd rfl z) (hsp _ only (.inr ⟨_, vs.toArray, _, hk, rfl, rfl, rfl, ?_, by simpa using rv⟩))
    rw [List.size_toArray, hi.length]
    exact hl
  | none =>
    have at1 : ∀ b, (fun b => if b = a then some (HO.frz { cls := .type "list", data := .seq vs.toArray } (.lst (ns.map V.int))) else none : Hp) b ≠ none → b = a := by
      intro b z
      by_cases q : b = a
      · exact q
      · exact absurd (if_neg q) z
    have only : Only fun b => if b = a then some (HO.frz { cls := .type "list", data := .seq vs.toArray } (.lst (ns.map V.int))) else none := by
      intro b
      by_cases q : b = a
      · exact .inr ⟨_, _, if_pos q⟩
      · exact .inl (if_neg q)
    refine core _ only (fun b u z => ?_) at1 (fun _ => hk) (hsp _ only (.inl (.inr ⟨_, if_pos rfl⟩)))
    have q := at1 b (fun n => nomatch (z.symm.trans n))
    subst q
    have z2 := (if_pos rfl).symm.trans z
    injection z2 with z2
    subst z2
    exact ⟨ha, by rw [List.length_map]; exact hl, vs, _, rv, ha⟩
/-- what the head leaves, from the law's promise -/
theorem walkG {l : PySem.W.OpenLaw} {n k : Nat} {q : Program} {loose : List Str} {XP : (Str → Option Value) → Heap → Prop} {YP : World → Heap → Prop} {d : DefRec} {K : Params → PySem.W.Frag} {sp : PySem.W.Frag → Sp} {x : Str}
    (hn : l.most = some n) (hn2 : n ≤ sizeLine) (hdf : d.params.defaults = []) (hr : Room k callerA) (hY : ∀ (w : World) (h : Heap), YP w h → (K w.params).In h)
    (F : ∀ (w : World) (mg : Str → Option Value) (fa : Addr) (h : Heap), (K w.params).In h → h.Ns mainGlobals mg → mg d.name = some (.ref fa) →
      ∃ fd : FuncData, (∀ (s : Shared) (u : Value), BindsTo s fd ⟨[u], []⟩ [(x, u)]) ∧
        ∀ base : Heap, (K w.params).In base → base.Ns mainGlobals mg → FnG l.prog w (K w.params) mg base CX0 k fa fd [x] (sp (K w.params)))
    (hsp : ∀ (K : PySem.W.Frag) (H : Hp) (a : Addr) (ns : List Int), ns.length ≤ n → Only H → SqL K H a (ns.map V.int) → sp K [.ref a] H (fun v _ => v = .bl true) fun _ _ _ => False) :
    PySem.W.WalkO q loose XP YP l.row.toRowW d [] (fun f vs => PySem.call f vs) := by
  refine Att.attach_call hn hdf ?_
  intro w s0 s1 mg mb fa o pm cd doc a vs ns G Y ho hd hcd hmg hobj hints hlen hg
  have KX := hY w _ Y
  obtain ⟨fd, hb, hF⟩ := F w mg fa _ KX G.T.g hmg
  exact callG KX G.T.g G.T.b G.T.builtins G.T.nolimit hg hobj hints (Nat.le_trans hlen hn2) hr hF hb (fun H hO hS => hsp _ H a ns hlen hO hS) fun _ _ _ z => z
end G58

set_option Elab.async false
set_option linter.all false
set_option maxRecDepth 100000
set_option maxHeartbeats 4000000
namespace G58
open L2 PyProof.Rows PySem.Spec PySem
/-- a def of the module by its name, and what it promises -/
structure Dn (P : Program) (w : World) (K : PySem.W.Frag) (mg : Str → Option Value) (base : Heap) (k : Nat) (x : Str) (sp : Sp) : Prop where
  ex : ∃ (f : Addr) (fd : FuncData) (ps : List Str), mg x = some (.ref f) ∧ PySem.W.keepIn K (.ref f) = true ∧ Binds K fd ps [] ∧ FnOk P w K mg base CX0 k f fd ps sp
structure DnG (P : Program) (w : World) (K : PySem.W.Frag) (mg : Str → Option Value) (base : Heap) (k : Nat) (x : Str) (sp : Sp) : Prop where
  ex : ∃ (f : Addr) (fd : FuncData) (ps : List Str), mg x = some (.ref f) ∧ PySem.W.keepIn K (.ref f) = true ∧ Binds K fd ps [] ∧ FnG P w K mg base CX0 k f fd ps sp
section
variable {X : Cx} {k : Nat} {sp : Sp} {x : Str} {p pos : Pos} {e : Expr} {es : List Expr} {t : TA}
theorem pe_cl (D : Dn X.prog X.w X.K X.mg X.base k x sp) (hr : Room k X.A) (ha : PA X (e :: es) t) (hg : Gl X x := by rfl) (hdb : (x == ("__debug__" : Str)) = false := by decide)
    (he : starEach (e :: es) X.env = (false, eval e X.env) :: starEach es X.env := by rfl) (hpl : (backTo pos (starEach es X.env)).any (·.1) = false := by rfl) :
    PE X (.Call (.Name x p) (e :: es) [] pos) (tCall sp [] E0 t) := by
  obtain ⟨f, fd, ps, hm, hk, hb, F⟩ := D.ex
  exact pe_call F hr hg hm hk hb .nil pass0 ha hdb he hpl
theorem pe_clG (D : DnG X.prog X.w X.K X.mg X.base k x sp) (hgd : X.A.guards = some []) (hr : Room k X.A) (ha : PA X (e :: es) t) (hg : Gl X x := by rfl) (hdb : (x == ("__debug__" : Str)) = false := by decide)
    (he : starEach (e :: es) X.env = (false, eval e X.env) :: starEach es X.env := by rfl) (hpl : (backTo pos (starEach es X.env)).any (·.1) = false := by rfl) :
    PE X (.Call (.Name x p) (e :: es) [] pos) (tCall sp [] E0 t) := by
  obtain ⟨f, fd, ps, hm, hk, hb, F⟩ := D.ex
  exact pe_callG F hgd hr hg hm hk hb .nil pass0 ha hdb he hpl
end
/-! steps of a reading -/
section
variable {σ : L2.St} {H : Hp} {i j : Nat} {v x y : V} {ta tb te tc : TE} {c d : TT} {Q : VK} {QT : Bool → Hp → Prop} {QA : List V → Hp → Prop} {tl : TA} {nx bk ct : L2.St → Hp → Prop} {rt : VK} {t1 t2 : TS} {D : Ends}
theorem i_var (h : σ[i]? = some (some v)) (q : Q v H) : tVar i σ H Q := ⟨v, h, q⟩
theorem i_c (q : Q v H) : tC v σ H Q := q
theorem i_op {r : R2} (h : ta σ H fun x H1 => tb σ H1 fun y H2 => r x y H2 Q) : tOp r ta tb σ H Q := h
theorem i_un {r : V → Hp → VK → Prop} (h : ta σ H fun x H1 => r x H1 Q) : tUn r ta σ H Q := h
theorem i_I0 {g : Int → Int → V} {a b : Int} (q : Q (g a b) H) : rI0 g (.int a) (.int b) H Q := ⟨a, b, rfl, rfl, q⟩
theorem i_I {C : Int → Int → Prop} {g : Int → Int → V} {a b : Int} (hc : C a b) (q : Q (g a b) H) : rI C g (.int a) (.int b) H Q := ⟨a, b, rfl, rfl, hc, q⟩
theorem i_U {g : Int → V} {a : Int} (q : Q (g a) H) : rU g (.int a) H Q := ⟨a, rfl, q⟩
theorem i_eq (h : scal x y = true) (q : Q (.bl (decide (x = y))) H) : rEq x y H Q := ⟨h, q⟩
theorem i_ne (h : scal x y = true) (q : Q (.bl (!decide (x = y))) H) : rNe x y H Q := ⟨h, q⟩
theorem i_isN (h : ta σ H fun x H1 => Q (.bl (decide (x = .non))) H1) : tIsN ta σ H Q := h
theorem i_notN (h : ta σ H fun x H1 => Q (.bl (!decide (x = .non))) H1) : tNotN ta σ H Q := h
theorem i_B (h : ta σ H fun x H1 => ∃ c, x = .bl c ∧ QT c H1) : tB ta σ H QT := h
theorem i_test (h : ta σ H fun x H1 => ∃ c, x = .bl c ∧ QT c H1) : tTest ta σ H QT := h
theorem i_bl {b : Bool} {R : Bool → Prop} (q : R b) : ∃ c, V.bl b = .bl c ∧ R c := ⟨b, rfl, q⟩
theorem i_and (h : c σ H fun b H1 => if b = true then d σ H1 QT else QT false H1) : tAnd c d σ H QT := h
theorem i_or (h : c σ H fun b H1 => if b = true then QT true H1 else d σ H1 QT) : tOr c d σ H QT := h
theorem i_not (h : c σ H fun b H1 => QT (!b) H1) : tNot c σ H QT := h
theorem i_andV (h : ta σ H fun x H1 => ∃ c, x = .bl c ∧ if c = true then tb σ H1 Q else Q (.bl false) H1) : tAndV ta tb σ H Q := h
theorem i_orV (h : ta σ H fun x H1 => ∃ c, x = .bl c ∧ if c = true then Q (.bl true) H1 else tb σ H1 Q) : tOrV ta tb σ H Q := h
theorem i_notV (h : ta σ H fun x H1 => ∃ c, x = .bl c ∧ Q (.bl (!c)) H1) : tNotV ta σ H Q := h
theorem i_if (h : c σ H fun b H1 => if b = true then ta σ H1 Q else tb σ H1 Q) : tIf c ta tb σ H Q := h
theorem i_nil (q : QA [] H) : tNil σ H QA := q
theorem i_cons (h : ta σ H fun x H1 => tl σ H1 fun xs H2 => QA (x :: xs) H2) : tCons ta tl σ H QA := h
theorem i_cb {r : List V → Hp → VK → Prop} (h : tl σ H fun vs H1 => r vs H1 Q) : tCB r tl σ H Q := h
theorem i_call {sp : Sp} {E : XK} (h : tl σ H fun vs H1 => sp (vs ++ []) H1 Q E) : tCall sp [] E tl σ H Q := h
/-- a new object, told by what stays -/
abbrev New (H : Hp) (o : HO) (Q : VK) : Prop := ∀ p H', H p = none → Same H H' → H' p = some o → Q (.ref p) H'
theorem same_new {o : HO} {p : Addr} (n : H p = none) : Same H (upd H p o) := fun b o e => by rw [upd_ne (ne_of_none e n)]; exact e
theorem New.to {o : HO} (k : New H o Q) : ∀ p, H p = none → Q (.ref p) (upd H p o) := fun p n => k p _ n (same_new n) upd_same
abbrev NewS (xs : List V) (H : Hp) (o : HO) (Q : VK) : Prop := xs.length ≤ sizeLine ∧ New H o Q
/-- a reading of arguments, made monotone in what follows -/
def moA (t : TA) : TA := fun σ H Q' => ∃ Q0, t σ H Q0 ∧ ∀ vs H1, Q0 vs H1 → Q' vs H1
def tTupN (t : TA) : TE := tTup (moA t)
def tLstN (t : TA) : TE := tLst (moA t)
theorem i_tup (h : tl σ H fun xs H1 => NewS xs H1 (.tup xs) Q) : tTupN tl σ H Q := ⟨_, h, fun _ _ z => ⟨z.1, z.2.to⟩⟩
theorem i_lst (h : tl σ H fun xs H1 => NewS xs H1 (.lst xs) Q) : tLstN tl σ H Q := ⟨_, h, fun _ _ z => ⟨z.1, z.2.to⟩⟩
theorem i_new {o : HO} {xs : List V} (h : decide (xs.length ≤ 1000) = true) (k : New H o Q) : NewS xs H o Q := ⟨Nat.le_trans (of_decide_eq_true h) (by decide), k⟩
def rDm : List V → Hp → VK → Prop := fun xs H Q => ∃ a b, xs = [.int a, .int b] ∧ 0 < b ∧ b.natAbs.log2 < 9000 ∧ New H (.tup [.int (a / b), .int (a % b)]) Q
theorem i_seq (h : t1 (Ends.mk (t2 (Ends.mk nx rt bk ct)) rt bk ct) σ H) : tSeq t1 t2 (Ends.mk nx rt bk ct) σ H := h
theorem i_set (h : te σ H fun x H1 => nx (σ.set i (some x)) H1) : tAsg te (gName i) (Ends.mk nx rt bk ct) σ H := h
theorem i_asg {g : TG} (h : te σ H fun x H1 => g x σ H1 nx) : tAsg te g (Ends.mk nx rt bk ct) σ H := h
theorem i_par (h : tl σ H fun vs H1 => ∃ v w, vs = [v, w] ∧ nx ((σ.set i (some v)).set j (some w)) H1) : tPar i j tl (Ends.mk nx rt bk ct) σ H := h
theorem i_par2 {y : V} {R : V → V → Prop} (q : R x y) : ∃ v w, [x, y] = [v, w] ∧ R v w := ⟨x, y, rfl, q⟩
theorem i_drop (h : te σ H fun _ H1 => nx σ H1) : tDrop te (Ends.mk nx rt bk ct) σ H := h
theorem i_ret (h : te σ H rt) : tRet te (Ends.mk nx rt bk ct) σ H := h
theorem i_retN (h : rt .non H) : tRetN (Ends.mk nx rt bk ct) σ H := h
theorem i_next (h : nx σ H) : tNext (Ends.mk nx rt bk ct) σ H := h
theorem i_ifS (h : c σ H fun b H1 => if b = true then t1 D σ H1 else t2 D σ H1) : tIfS c t1 t2 D σ H := h
theorem i_iteT {A B : Prop} (h : A) : if true = true then A else B := iteT h
theorem i_iteF {A B : Prop} (h : B) : if false = true then A else B := iteF h
/-- new objects, told by what stays -/
theorem newO0 {o : HO} {Q : Addr → Hp → Prop} (k : ∀ p H', H p = none → Same H H' → H' p = some o → (∀ b, b ≠ p → H' b = H b) → Q p H') : ∀ p, H p = none → Q p (upd H p o) := fun p n =>
  k p _ n (fun b o e => by rw [upd_ne (ne_of_none e n)]; exact e) upd_same fun b h => upd_ne h
theorem i_len2 {xs : List V} {A : Prop} (h : xs.length ≤ 1000) (a : A) : xs.length ≤ sizeLine ∧ A := ⟨Nat.le_trans h (by decide), a⟩
end
theorem i_isi {K : PySem.W.Frag} {H : Hp} {Q : VK} {x c : V} {t u : Value} {b : Bool} (k : ClsV c u) (ty : TyX K H x t) (e : PySem.W.kitOne K t u = some b) (q : Q (.bl b) H) : rIsi K [x, c] H Q := ⟨x, c, t, u, b, rfl, k, ty, e, q⟩
section
variable {K : PySem.W.Frag} {H : Hp} {Q : VK} {i : Int}
theorem i_isiII (q : Q (.bl true) H) : rIsi K [.int i, .ty "int"] H Q := i_isi (.ty _) (.base (.int i)) (kit_ty (by decide +kernel)) q
theorem i_isiIB (q : Q (.bl false) H) : rIsi K [.int i, .ty "bool"] H Q := i_isi (.ty _) (.base (.int i)) (kit_ty (by decide +kernel)) q
theorem i_nT {A B : Prop} (h : B) : if (!true) = true then A else B := iteF h
theorem i_nF {A B : Prop} (h : A) : if (!false) = true then A else B := iteT h
end
section
variable {X : Cx} {es : List Expr} {t : TA} {pos : Pos}
theorem pa_mo (h : PA X es t) : PA X es (moA t) := ⟨fun pos pins s σ H Q I z => let ⟨Q0, h0, k⟩ := z; thn (h.run pos pins s σ H Q0 I h0) fun us s1 y => let ⟨vs, H1, I1, r, q⟩ := y; ⟨vs, H1, I1, r, k _ _ q⟩⟩
theorem pe_tupN {x1} (h : PA X es t) : PE X (.Tuple es x1 pos) (tTupN t) := pe_tup (pa_mo h)
theorem pe_lstN (h : PA X es t) : PE X (.List es pos) (tLstN t) := pe_lst (pa_mo h)
theorem call_dm : CallR X (.builtin "divmod") rDm := fun pins s σ H xs us Q I r h => let ⟨a, b, e, h1, h2, k⟩ := h; call_divmodW pins s σ H xs us Q I r ⟨a, b, e, ⟨h1, PyProof.noPylong_of_log2 h2⟩, k.to⟩
end
/-! values in the form of built-in calls -/
section
variable {K : PySem.W.Frag} {σ : L2.St} {H : Hp} {Q : VK} {a b : Int} {p : Addr} {xs : List V} {v : V}
theorem i_ex1 {R : Int → Prop} (q : R a) : ∃ i, [V.int a] = [V.int i] ∧ R i := ⟨a, rfl, q⟩
theorem i_ex2 {R : Int → Int → Prop} (q : R a b) : ∃ i j, [V.int a, V.int b] = [V.int i, V.int j] ∧ R i j := ⟨a, b, rfl, q⟩
theorem i_toI {R : Int → Prop} {R' : Bool → Prop} (q : R a) : (∃ i, [V.int a] = [V.int i] ∧ R i) ∨ ∃ k, [V.int a] = [V.bl k] ∧ R' k := .inl ⟨a, rfl, q⟩
theorem i_toB {R : Int → Prop} {R' : Bool → Prop} {c : Bool} (q : R' c) : (∃ i, [V.bl c] = [V.int i] ∧ R i) ∨ ∃ k, [V.bl c] = [V.bl k] ∧ R' k := .inr ⟨c, rfl, q⟩
theorem i_lenL {R : List V → Prop} (h : SqL K H p xs) (q : R xs) : ∃ p' ys, [V.ref p] = [V.ref p'] ∧ (SqL K H p' ys ∨ SqT K H p' ys) ∧ R ys := ⟨p, xs, rfl, .inl h, q⟩
theorem i_ixL {i : Int} (h : SqL K H p xs) (ha : atI xs i = some v) (q : Q v H) : rIxL K (.ref p) (.int i) H Q := ⟨p, xs, i, v, rfl, rfl, h, ha, q⟩
theorem i_ixT {i : Int} (h : SqT K H p xs) (ha : atI xs i = some v) (q : Q v H) : rIxT K (.ref p) (.int i) H Q := ⟨p, xs, i, v, rfl, rfl, h, ha, q⟩
theorem i_mulR {g : Int → Int → V} (h : (-(2 ^ 64) < b ∧ b < 2 ^ 64)) (q : Q (g a b) H) : rI CMul g (.int a) (.int b) H Q := i_I (.inr h) q
theorem i_mulL {g : Int → Int → V} (h : (-(2 ^ 64) < a ∧ a < 2 ^ 64)) (q : Q (g a b) H) : rI CMul g (.int a) (.int b) H Q := i_I (.inl h) q
theorem i_mod {g : Int → Int → V} (h : 0 < b) (q : Q (g a b) H) : rI (fun _ j => 0 < j) g (.int a) (.int b) H Q := i_I h q
theorem i_div {g : Int → Int → V} (h : 0 < b ∧ b < 1073741824) (q : Q (g a b) H) : rI CDiv g (.int a) (.int b) H Q := i_I h q
theorem i_gtup {n : Nat} {t : TGs} {R : L2.St → Hp → Prop} (h : SqT K H p xs) (l : xs.length = n) (q : t xs σ H R) : gTup K n t (.ref p) σ H R := ⟨p, xs, rfl, h, l, q⟩
theorem i_gcons {t : TG} {u : TGs} {r : List V} {R : L2.St → Hp → Prop} (q : t v σ H fun σ' H' => u r σ' H' R) : gCons t u (v :: r) σ H R := ⟨v, r, rfl, q⟩
theorem i_gnil {R : L2.St → Hp → Prop} (q : R σ H) : gNil [] σ H R := ⟨rfl, q⟩
theorem i_gname {i : Nat} {R : L2.St → Hp → Prop} (q : R (σ.set i (some v)) H) : gName i v σ H R := q
theorem i_gsub {to ti : TE} {t : TSet} {R : L2.St → Hp → Prop} (q : to σ H fun o H1 => ti σ H1 fun i H2 => t o i v H2 fun H3 => R σ H3) : gSub to ti t v σ H R := q
theorem i_setL {k : Int} {j : Nat} {R : Hp → Prop} (h : H p = some (.lst xs)) (e : ixN xs.length k = some j) (q : R (upd H p (.lst (xs.set j v)))) : rSetL (.ref p) (.int k) v H R := ⟨p, xs, k, j, rfl, rfl, h, e, q⟩
end
theorem i_p10_4 {H : Hp} {Q : VK} (q : Q (.int 10000) H) : rI CPow (fun i j => .int (i ^ j.toNat)) (.int 10) (.int 4) H Q := i_I ⟨by decide, by decide, by decide⟩ (show Q (.int ((10 : Int) ^ (4 : Int).toNat)) H by rw [show ((10 : Int) ^ (4 : Int).toNat) = 10000 from by decide +kernel]; exact q)
theorem i_p10_9 {H : Hp} {Q : VK} (q : Q (.int 1000000000) H) : rI CPow (fun i j => .int (i ^ j.toNat)) (.int 10) (.int 9) H Q := i_I ⟨by decide, by decide, by decide⟩ (show Q (.int ((10 : Int) ^ (9 : Int).toNat)) H by rw [show ((10 : Int) ^ (9 : Int).toNat) = 1000000000 from by decide +kernel]; exact q)
theorem i_p10_18 {H : Hp} {Q : VK} (q : Q (.int 1000000000000000000) H) : rI CPow (fun i j => .int (i ^ j.toNat)) (.int 10) (.int 18) H Q := i_I ⟨by decide, by decide, by decide⟩ (show Q (.int ((10 : Int) ^ (18 : Int).toNat)) H by rw [show ((10 : Int) ^ (18 : Int).toNat) = 1000000000000000000 from by decide +kernel]; exact q)
theorem i_p10_20 {H : Hp} {Q : VK} (q : Q (.int 100000000000000000000) H) : rI CPow (fun i j => .int (i ^ j.toNat)) (.int 10) (.int 20) H Q := i_I ⟨by decide, by decide, by decide⟩ (show Q (.int ((10 : Int) ^ (20 : Int).toNat)) H by rw [show ((10 : Int) ^ (20 : Int).toNat) = 100000000000000000000 from by decide +kernel]; exact q)
theorem i_p10_30 {H : Hp} {Q : VK} (q : Q (.int 1000000000000000000000000000000) H) : rI CPow (fun i j => .int (i ^ j.toNat)) (.int 10) (.int 30) H Q := i_I ⟨by decide, by decide, by decide⟩ (show Q (.int ((10 : Int) ^ (30 : Int).toNat)) H by rw [show ((10 : Int) ^ (30 : Int).toNat) = 1000000000000000000000000000000 from by decide +kernel]; exact q)
theorem i_p10_40 {H : Hp} {Q : VK} (q : Q (.int 10000000000000000000000000000000000000000) H) : rI CPow (fun i j => .int (i ^ j.toNat)) (.int 10) (.int 40) H Q := i_I ⟨by decide, by decide, by decide⟩ (show Q (.int ((10 : Int) ^ (40 : Int).toNat)) H by rw [show ((10 : Int) ^ (40 : Int).toNat) = 10000000000000000000000000000000000000000 from by decide +kernel]; exact q)
theorem i_p10_58 {H : Hp} {Q : VK} (q : Q (.int 10000000000000000000000000000000000000000000000000000000000) H) : rI CPow (fun i j => .int (i ^ j.toNat)) (.int 10) (.int 58) H Q := i_I ⟨by decide, by decide, by decide⟩ (show Q (.int ((10 : Int) ^ (58 : Int).toNat)) H by rw [show ((10 : Int) ^ (58 : Int).toNat) = 10000000000000000000000000000000000000000000000000000000000 from by decide +kernel]; exact q)
theorem i_p10_60 {H : Hp} {Q : VK} (q : Q (.int 1000000000000000000000000000000000000000000000000000000000000) H) : rI CPow (fun i j => .int (i ^ j.toNat)) (.int 10) (.int 60) H Q := i_I ⟨by decide, by decide, by decide⟩ (show Q (.int ((10 : Int) ^ (60 : Int).toNat)) H by rw [show ((10 : Int) ^ (60 : Int).toNat) = 1000000000000000000000000000000000000000000000000000000000000 from by decide +kernel]; exact q)
theorem i_p10_61 {H : Hp} {Q : VK} (q : Q (.int 10000000000000000000000000000000000000000000000000000000000000) H) : rI CPow (fun i j => .int (i ^ j.toNat)) (.int 10) (.int 61) H Q := i_I ⟨by decide, by decide, by decide⟩ (show Q (.int ((10 : Int) ^ (61 : Int).toNat)) H by rw [show ((10 : Int) ^ (61 : Int).toNat) = 10000000000000000000000000000000000000000000000000000000000000 from by decide +kernel]; exact q)
theorem i_p10_64 {H : Hp} {Q : VK} (q : Q (.int 10000000000000000000000000000000000000000000000000000000000000000) H) : rI CPow (fun i j => .int (i ^ j.toNat)) (.int 10) (.int 64) H Q := i_I ⟨by decide, by decide, by decide⟩ (show Q (.int ((10 : Int) ^ (64 : Int).toNat)) H by rw [show ((10 : Int) ^ (64 : Int).toNat) = 10000000000000000000000000000000000000000000000000000000000000000 from by decide +kernel]; exact q)
/-! heaps -/
/-- all but the object at p is as it was -/
def Ext (p : Addr) (H H' : Hp) : Prop := ∀ b o, b ≠ p → H b = some o → H' b = some o
theorem Ext.refl (p : Addr) (H : Hp) : Ext p H H := fun _ _ _ h => h
theorem Ext.trans {p : Addr} {H H1 H2 : Hp} (a : Ext p H H1) (b : Ext p H1 H2) : Ext p H H2 := fun c o n h => b c o n (a c o n h)
theorem Ext.same {p : Addr} {H H' : Hp} (s : Same H H') : Ext p H H' := fun b o _ h => s b o h
theorem Ext.put {p : Addr} {H : Hp} {o : HO} : Ext p H (L2.upd H p o) := fun b _ n h => by rw [upd_ne n]; exact h
theorem Ext.tup {p t : Addr} {H H' : Hp} {xs ys : List V} (e : Ext p H H') (hp : H p = some (.lst ys)) (h : H t = some (.tup xs)) : H' t = some (.tup xs) :=
  e t _ (fun z => by rw [z, hp] at h; cases h) h
theorem Same.new {H : Hp} {p : Addr} {o : HO} (n : H p = none) : Same H (L2.upd H p o) := fun b o e => by rw [upd_ne (ne_of_none e n)]; exact e
theorem Same.tup {K : PySem.W.Frag} {H H' : Hp} {a : Addr} {xs : List V} (e : Same H H') (h : SqT K H a xs) : SqT K H' a xs := by
  rcases h with (h | ⟨o, h⟩) | h
  · exact .inl (.inl (e _ _ h))
  · exact .inl (.inr ⟨o, e _ _ h⟩)
  · exact .inr h
theorem abs_eq (i : Int) : (if i < 0 then -i else i) = (i.natAbs : Int) := by split <;> omega
theorem i_setH {H : Hp} {p : Addr} {xs ys : List V} {v : V} {k : Int} {j : Nat} {R : Hp → Prop} (h : H p = some (.lst xs)) (e : ixN xs.length k = some j) (ey : xs.set j v = ys)
    (q : ∀ H', Ext p H H' → H' p = some (.lst ys) → R H') : rSetL (.ref p) (.int k) v H R := i_setL h e (q _ Ext.put (by rw [ey]; exact upd_same))
theorem atI_in {α : Type} {xs : List α} {d : Int} (h0 : 0 ≤ d) (h : d.toNat < xs.length) : atI xs d = some (xs[d.toNat]'h) := by
  have e : ((d.toNat : Nat) : Int) = d := by omega
  have z := atI_nat (xs := xs) (j := d.toNat) (v := xs[d.toNat]'h) (List.getElem?_eq_getElem h)
  rw [e] at z
  exact z
/-! an if by the answer of its test -/
section
variable {σ : L2.St} {H : Hp} {c : TT} {t1 t2 : TS} {D : Ends} {ta tb : TE} {Q : VK}
theorem i_ifT (b : Bool) (h : ∀ QT : Bool → Hp → Prop, QT b H → c σ H QT) (h1 : b = true → t1 D σ H) (h2 : b = false → t2 D σ H) : tIfS c t1 t2 D σ H := by
  refine h _ ?_
  cases b with
  | true => exact iteT (h1 rfl)
  | false => exact iteF (h2 rfl)
theorem i_ifE (b : Bool) (h : ∀ QT : Bool → Hp → Prop, QT b H → c σ H QT) (h1 : b = true → ta σ H Q) (h2 : b = false → tb σ H Q) : tIf c ta tb σ H Q := by
  refine h _ ?_
  cases b with
  | true => exact iteT (h1 rfl)
  | false => exact iteF (h2 rfl)
/-- the same where the test leaves new objects -/
theorem i_ifN (b : Bool) (h : ∀ QT : Bool → Hp → Prop, (∀ H', Same H H' → QT b H') → c σ H QT) (h1 : b = true → ∀ H', Same H H' → t1 D σ H') (h2 : b = false → ∀ H', Same H H' → t2 D σ H') : tIfS c t1 t2 D σ H := by
  refine h _ fun H' s => ?_
  cases b with
  | true => exact iteT (h1 rfl H' s)
  | false => exact iteF (h2 rfl H' s)
end
section
variable {K : PySem.W.Frag} {σ : L2.St} {H : Hp} {c : TT} {t1 t2 : TS} {nx bk ct : L2.St → Hp → Prop} {rt : VK} {Q : VK} {l : Addr} {xs : List V} {y : V}
/-- an if whose ways meet -/
theorem i_ifJ (b : Bool) (R : Hp → Prop) (h : ∀ QT : Bool → Hp → Prop, QT b H → c σ H QT) (h1 : b = true → ∀ nx', (∀ H', R H' → nx' σ H') → t1 (Ends.mk nx' rt bk ct) σ H)
    (h2 : b = false → ∀ nx', (∀ H', R H' → nx' σ H') → t2 (Ends.mk nx' rt bk ct) σ H) (k : ∀ H', R H' → nx σ H') : tIfS c t1 t2 (Ends.mk nx rt bk ct) σ H :=
  i_ifT b h (fun e => h1 e nx k) (fun e => h2 e nx k)
theorem i_bm {T : String} {r : V → List V → Hp → VK → Prop} {to : TE} {t : TA} (h : to σ H fun x H1 => tyV K T x H1 ∧ t σ H1 fun xs H2 => r x xs H2 Q) : tBM K T r to t σ H Q := h
theorem i_bm0 {T : String} {r : V → List V → Hp → VK → Prop} {to : TE} (h : to σ H fun x H1 => tyV K T x H1 ∧ r x [] H1 Q) : tBM0 K T r to σ H Q := h
theorem i_tyL {A : Prop} (h : H l = some (.lst xs)) (k : A) : tyV K "list" (.ref l) H ∧ A := ⟨.inl ⟨rfl, _, SqL.of h⟩, k⟩
theorem i_append (h : H l = some (.lst xs)) (hz : xs.length ≤ 1000) (q : ∀ H', Ext l H H' → H' l = some (.lst (xs ++ [y])) → Q .non H') : rAppend (.ref l) [y] H Q :=
  ⟨l, xs, y, rfl, rfl, h, Nat.lt_of_le_of_lt hz (by decide), q _ Ext.put upd_same⟩
theorem i_extend {b : Addr} {zs : List V} (h : H l = some (.lst xs)) (hb : H b = some (.lst zs)) (hz : xs.length + zs.length ≤ 1000) (q : ∀ H', Ext l H H' → H' l = some (.lst (xs ++ zs)) → Q .non H') : rExtend (.ref l) [.ref b] H Q :=
  ⟨l, b, xs, zs, rfl, rfl, h, hb, Nat.le_trans hz (by decide), q _ Ext.put upd_same⟩
theorem same_ext {H1 H2 : Hp} (s1 : Same H H1) (nl : H l = none) (e : Ext l H1 H2) : Same H H2 := fun b o z => e b o (ne_of_none z nl) (s1 b o z)
end
section
variable {K : PySem.W.Frag} {σ : L2.St} {H : Hp} {g : TG} {tb : TS} {D : Ends} {wi : TI} {tl : TE} {ta : TA} {R : It → Hp → Prop} {tt : TT} {te : TE} {vs : List Nat} {Q : VK}
theorem i_for {nx bk ct : L2.St → Hp → Prop} {rt : VK} (h : wi σ H fun J H1 => ∃ W : Nat → Nat → L2.St → Hp → Prop, (∃ m, W 0 m σ H1) ∧ ∀ i m σ H, W i m σ H →
  (J.stop i H ∧ nx σ H) ∨ (J.go i H ∧ ∃ N : L2.St → Hp → Prop, (∀ σ' H', N σ' H' → ∃ m', m' < m ∧ W (i + 1) m' σ' H') ∧ ∀ x H', J.yld i H x H' → g x σ H' fun σ2 H2 => tb (Ends.mk N rt nx N) σ2 H2)) : tFor wi g tb (Ends.mk nx rt bk ct) σ H := h
theorem fTup {a : Addr} {xs : List V} {nx : L2.St → Hp → Prop} {rt : VK} (Pv : Nat → L2.St → Hp → Prop) (h0 : Pv 0 σ H) (hl : ∀ i σ H, i ≤ xs.length → Pv i σ H → SqT K H a xs)
    (hs : ∀ i x σ H, xs[i]? = some x → Pv i σ H → g x σ H fun σ2 H2 => tb (Ends.mk (Pv (i + 1)) rt nx (Pv (i + 1))) σ2 H2) (hd : ∀ σ H, Pv xs.length σ H → nx σ H) :
    ∃ W : Nat → Nat → L2.St → Hp → Prop, (∃ m, W 0 m σ H) ∧ ∀ i m σ H, W i m σ H →
      ((Itt K a).stop i H ∧ nx σ H) ∨ ((Itt K a).go i H ∧ ∃ N : L2.St → Hp → Prop, (∀ σ' H', N σ' H' → ∃ m', m' < m ∧ W (i + 1) m' σ' H') ∧ ∀ x H', (Itt K a).yld i H x H' → g x σ H' fun σ2 H2 => tb (Ends.mk N rt nx N) σ2 H2) :=
  for_tup (D := Ends.mk nx rt nx nx) Pv h0 hl hs hd
theorem fList {a : Addr} {xs : List V} {nx : L2.St → Hp → Prop} {rt : VK} (Pv : Nat → L2.St → Hp → Prop) (h0 : Pv 0 σ H) (hl : ∀ i σ H, i ≤ xs.length → Pv i σ H → SqL K H a xs)
    (hs : ∀ i x σ H, xs[i]? = some x → Pv i σ H → g x σ H fun σ2 H2 => tb (Ends.mk (Pv (i + 1)) rt nx (Pv (i + 1))) σ2 H2) (hd : ∀ σ H, Pv xs.length σ H → nx σ H) :
    ∃ W : Nat → Nat → L2.St → Hp → Prop, (∃ m, W 0 m σ H) ∧ ∀ i m σ H, W i m σ H →
      ((Itl K a).stop i H ∧ nx σ H) ∨ ((Itl K a).go i H ∧ ∃ N : L2.St → Hp → Prop, (∀ σ' H', N σ' H' → ∃ m', m' < m ∧ W (i + 1) m' σ' H') ∧ ∀ x H', (Itl K a).yld i H x H' → g x σ H' fun σ2 H2 => tb (Ends.mk N rt nx N) σ2 H2) :=
  for_list (D := Ends.mk nx rt nx nx) Pv h0 hl hs hd
theorem fRng {lo : Int} {n : Nat} {nx : L2.St → Hp → Prop} {rt : VK} (Pv : Nat → L2.St → Hp → Prop) (h0 : Pv 0 σ H)
    (hs : ∀ i σ H, i < n → Pv i σ H → g (.int (lo + i)) σ H fun σ2 H2 => tb (Ends.mk (Pv (i + 1)) rt nx (Pv (i + 1))) σ2 H2) (hd : ∀ σ H, Pv n σ H → nx σ H) :
    ∃ W : Nat → Nat → L2.St → Hp → Prop, (∃ m, W 0 m σ H) ∧ ∀ i m σ H, W i m σ H →
      ((Itr lo n).stop i H ∧ nx σ H) ∨ ((Itr lo n).go i H ∧ ∃ N : L2.St → Hp → Prop, (∀ σ' H', N σ' H' → ∃ m', m' < m ∧ W (i + 1) m' σ' H') ∧ ∀ x H', (Itr lo n).yld i H x H' → g x σ H' fun σ2 H2 => tb (Ends.mk N rt nx N) σ2 H2) :=
  for_range (D := Ends.mk nx rt nx nx) Pv h0 hs hd
theorem i_itup (h : tl σ H fun x H1 => ∃ a, x = .ref a ∧ (∃ xs, SqT K H1 a xs) ∧ R (Itt K a) H1) : iTup K tl σ H R := h
theorem i_ilist (h : tl σ H fun x H1 => ∃ a, x = .ref a ∧ (∃ xs, SqL K H1 a xs) ∧ R (Itl K a) H1) : iList K tl σ H R := h
theorem i_irng1 (h : ta σ H fun vs H1 => ∃ j : Int, vs = [.int j] ∧ -(2 ^ 62) ≤ j ∧ j < 2 ^ 62 ∧ R (Itr 0 j.toNat) H1) : iRng1 ta σ H R := h
theorem i_irng2 (h : ta σ H fun vs H1 => ∃ i j : Int, vs = [.int i, .int j] ∧ (-(2 ^ 62) ≤ i ∧ i < 2 ^ 62 ∧ -(2 ^ 62) ≤ j ∧ j < 2 ^ 62) ∧ R (Itr i (j - i).toNat) H1) : iRng2 ta σ H R := h
theorem i_rng {j : Int} {R' : Int → Prop} (h0 : -(2 ^ 62) ≤ j) (h1 : j < 2 ^ 62) (q : R' j) : ∃ i : Int, [V.int j] = [.int i] ∧ -(2 ^ 62) ≤ i ∧ i < 2 ^ 62 ∧ R' i := ⟨j, rfl, h0, h1, q⟩
/-- what a comprehension asks after its first iterable is made -/
def LcW (J : It) (g : TG) (tt : TT) (te : TE) (vs : List Nat) (σ : L2.St) (H1 : Hp) (Q : VK) : Prop := ∀ D, H1 D = none → ∃ W : Nat → Nat → Hp → Prop, (∃ m, W 0 m (upd H1 D (.lst []))) ∧ ∀ i m H, W i m H →
  (J.stop i H ∧ Q (.ref D) H) ∨ (J.go i H ∧ ∃ Nx : Hp → Prop, (∀ H', Nx H' → ∃ m', m' < m ∧ W (i + 1) m' H') ∧ ∀ x H', J.yld i H x H' → g x (wipe σ vs) H' fun σ2 H2 => wipe σ2 vs = wipe σ vs ∧ tt σ2 H2 fun b H3 =>
    if b = true then te σ2 H3 fun y H4 => ∃ acc, H4 D = some (.lst acc) ∧ acc.length < sizeLine ∧ Nx (upd H4 D (.lst (acc ++ [y]))) else Nx H3)
theorem i_lc (h : wi σ H fun J H1 => LcW J g tt te vs σ H1 Q) : tLc wi g tt te vs σ H Q := h
theorem i_yes {QT : Bool → Hp → Prop} (q : QT true H) : tYes σ H QT := q
end
section
variable {σ : L2.St} {H : Hp} {c d : TT}
/-- a test has one answer and leaves the heap -/
def Tst (c : TT) (σ : L2.St) (H : Hp) (b : Bool) : Prop := ∀ QT : Bool → Hp → Prop, QT b H → c σ H QT
theorem Tst.or {b1 b2 : Bool} (h1 : Tst c σ H b1) (h2 : Tst d σ H b2) : Tst (tOr c d) σ H (b1 || b2) := fun QT q => by
  refine h1 _ ?_
  cases b1 with
  | true => exact iteT q
  | false => exact iteF (h2 _ q)
theorem Tst.and {b1 b2 : Bool} (h1 : Tst c σ H b1) (h2 : b1 = true → Tst d σ H b2) : Tst (tAnd c d) σ H (b1 && b2) := fun QT q => by
  refine h1 _ ?_
  cases b1 with
  | true => exact iteT (h2 rfl _ q)
  | false => exact iteF q
theorem Tst.not {b : Bool} (h : Tst c σ H b) : Tst (tNot c) σ H (!b) := fun QT q => h _ q
end
/-- a statement with what follows hidden -/
theorem i_seqA {t1 t2 : TS} {nx bk ct : L2.St → Hp → Prop} {rt : VK} {σ : L2.St} {H : Hp} (h : ∀ n, n = t2 (Ends.mk nx rt bk ct) → t1 (Ends.mk n rt bk ct) σ H) : tSeq t1 t2 (Ends.mk nx rt bk ct) σ H := h _ rfl
end G58

set_option Elab.async false
set_option linter.all false
set_option maxRecDepth 100000
set_option maxHeartbeats 4000000
namespace G58
open L2 PyProof.Rows PySem.Spec PySem
/-! an attribute as a target -/
def gFld (K : PySem.W.Frag) (to : TE) (f : Str) : TG := fun v σ H Q => to σ H fun x H1 => ∃ a C dx fs, x = .ref a ∧ H1 a = some (.ins C dx fs) ∧ Cls K C ∧ NoAttr K C f ∧ fs.length < 1000 ∧ Q σ (upd H1 a (.ins C dx (putF f v fs)))
section
variable {X : Cx} {o : Expr} {to : TE} {f : Str} {pos : Pos}
theorem pg_fld (ho : PE X o to)
    (ha : ∀ v, assign (.Attribute o f pos) X.env v = (do
      let ov ← holding [v] (eval o X.env)
      standAt pos.atName
      holding [v, ov] (setAttr ov f v)
      release [v, ov] []) := by intro _; rfl) : PG X (.Attribute o f pos) (gFld X.K to f) where
  run := fun pins s σ H v u Q I r h => by
    rw [ha]
    refine wpAny_bind (wpAny_holding (thn (ho.run pins s σ H _ I h) ?_))
    rintro ov s1 ⟨x, H1, I1, rx, a, C, dx, fs, rfl, ea, c, n, l, q⟩
    have e : ov = Value.ref a := rx
    subst e
    exact wpAny_bind (wpAny_standAt (wpAny_bind (wpAny_holding (setattr_ok I1 ea c n l r fun s3 I3 => wpAny_release ⟨σ, _, I3, q⟩))))
end
/-! set(l) of a list of ints -/
abbrev fset (w : World) : Obj := { cls := .type "set", dict := none, data := .set #[] 0 (.fresh 0 0 (!w.params.followText "set-order")) }
section
variable {P : Program} {w : World} {A : Around} {E : Value → Shared → Prop} {s : Shared}
/-- what the set's __init__ leaves -/
def SetL (w : World) (ns : List Int) (s s2 : Shared) : Prop := ∃ h' tk c, s2 = { s with heap := h', toks := tk } ∧ SetR w h' s.heap.objs.size (fun j => decide (j ∈ ns)) c ∧ c ≤ ns.length ∧ ∀ b o, s.heap.get? b = some o → h'.get? b = some o
theorem set_init_list {l : Addr} {items : Array Value} {ns : List Int} (hh : A.handled = none) (hl : s.heap.IsList l items) (hit : IntsAre items.toList ns) (hb : ns.length + 1 < scanBound)
    (hT : Shared.TypeIs { s with heap := s.heap.push (fset w) } (.ref s.heap.objs.size) "set") (hS : (s.heap.push (fset w)).get? s.heap.objs.size = some (fset w)) :
    codeAny (model P w) A (.call (.builtin "set.__init__") ⟨[.ref s.heap.objs.size, .ref l], []⟩) (wants (fun r s2 => r = .none ∧ SetL w ns s s2) E) { s with heap := s.heap.push (fset w) } := by
  have hisz : items.size = ns.length := (Array.length_toList (xs := items)).symm.trans (IntsAre.length hit)
  refine codeAny_call_builtin F.called_set.init.plain F.entry_set_init (check_set_init_1 hT ?_)
  obtain ⟨⟨oc, od, odt, osl⟩, hol, hcl, nl, hdl⟩ := hl
  simp only at hcl hdl
  subst hcl hdl
  have hlS : l < s.heap.objs.size := Heap.lt_size hol
  have hol' : (s.heap.push (fset w)).get? l = some { cls := .type "list", dict := od, data := .seq items nl, slots := osl } := Heap.get?_push_of_some _ hol
  have q1 := F.sub_list_set
  have q2 := F.sub_list_frozenset
  have q3 : (Value.type "list" == Value.type "dict") = false := by decide
  have hl1 : (s.heap.push (fset w)).IsList l items := ⟨_, hol', rfl, nl, rfl⟩
  unfold Builtin.«set.__init__» noKeywords Builtin.Frozenset.updateFrom
  generalize gI : pyIter = PI
  wp_walk
  subst gI
  refine wpAny_pyIter_list hl1 (wpAny_bind (wpAny_runValue ?_))
  have hh3 : A.in1.in1.handled = none := hh
  have z1 : (s.heap.push (fset w)).objs.size = s.heap.objs.size + 1 := Heap.size_push ..
  have n1 : l ≠ (s.heap.push (fset w)).objs.size := by rw [z1]; exact Nat.ne_of_lt (Nat.lt_succ_of_lt hlS)
  have n2 : s.heap.objs.size ∉ [(s.heap.push (fset w)).objs.size, l] := by
    rw [z1]
    intro z
    rcases List.mem_cons.mp z with z | z
    · exact absurd z (Nat.ne_of_lt (Nat.lt_succ_self _))
    · exact absurd (List.mem_singleton.mp z) (Nat.ne_of_gt hlS)
  have val : ∀ (i : Nat) (v : Value), items[i]? = some v → ∃ k t, ns[i]? = some k ∧ v = .int k t := by
    intro i v hv
    have hi : i < ns.length := hisz ▸ (Array.getElem?_eq_some_iff.mp hv).1
    obtain ⟨t, e⟩ := IntsAre.int_at hit i v ((Array.getElem?_toList ..).trans hv)
    exact ⟨ns[i], t, List.getElem?_eq_getElem hi, by rw [e, List.getD_eq_getElem?_getD, List.getElem?_eq_getElem hi]; rfl⟩
  refine set_update_ints (Walks.list hh3 _ l n1 items).toS s.heap.objs.size n2 ns hisz hb val (items.size - 0) 0 _ (by omega) (Nat.zero_le _) ?hW0 ?hS0 ?_
  case hW0 => exact ⟨⟨_, Heap.get?_push_size _ rfl, rfl, rfl⟩, hl1.push _⟩
  case hS0 => exact ⟨0, Nat.le_refl 0, setR_new_at (Heap.get?_push_of_some _ hS)⟩
  rintro ⟨h', g2, d', tk', os'⟩ c' hm hc' hS'
  have eg : g2 = s.gens := hm.gens
  have ed : d' = s.drawn := hm.drawn
  have eo : os' = s.os := hm.os
  subst eg ed eo
  refine wpAny_pure (show wpAny _ _ (ret Value.none) _ _ _ from wpAny_pure ⟨rfl, h', tk', c', rfl, hS', hisz ▸ hc', fun b o e => ?_⟩)
  have b0 : b < s.heap.objs.size := Heap.lt_size e
  refine hm.heap b o (fun z => ?_) (Heap.get?_push_of_some _ (Heap.get?_push_of_some _ e))
  rcases List.mem_cons.mp z with z | z
  · exact absurd z (Nat.ne_of_lt b0)
  · refine absurd (List.mem_singleton.mp z) ?_
    rw [z1]
    exact Nat.ne_of_lt (Nat.lt_succ_of_lt b0)
theorem call_set_ints {l : Addr} {items : Array Value} (ns : List Int) {Q : Value → Shared → Prop} (hh : A.handled = none) (hl : s.heap.IsList l items) (hit : IntsAre items.toList ns) (hb : ns.length + 1 < scanBound)
    (h : ∀ s2, SetL w ns s s2 → Q (.ref s.heap.objs.size) s2) : wpAny (model P w) A (call (.type "set") [.ref l]) Q E s := by
  obtain ⟨c, tl, q0⟩ := F.called_set.mro
  have q1 := F.called_set.made
  have q2 := F.called_set.sub
  refine wpAny_call (codeAny_of_tree (show wpAny _ _ (callAny (.type "set") _) _ _ _ from wpAny_pure ⟨Code.quiet_builtin _ (by decide +kernel), codeAny_builtin F.entry_type_call ?_⟩))
  rw [Around.under_plain (weight_type_call_type "set" [.ref l] []) rfl]
  have q3 := F.called_set.notType
  have q4 := F.called_set.canCreate
  have q5 := F.typeCall_set_1 (.ref l)
  repeat (any_goals (first | assumption | wp_step))
  refine codeAny_mono (code_set_led1 (.ref l) (E := E) (Q₁ := fun obj s1 => obj = .ref s.heap.objs.size ∧ s1 = { s with heap := s.heap.push (fset w) }) ⟨rfl, rfl⟩) ?_
  intro r s1 hr
  match r, hr with
  | .error e, hr => exact hr
  | .ok .next, hr => exact hr.elim
  | .ok .brk, hr => exact hr.elim
  | .ok .cont, hr => exact hr.elim
  | .ok (.ret obj), hr =>
    obtain ⟨rfl, rfl⟩ := hr
    have hS : (s.heap.push (fset w)).get? s.heap.objs.size = some (fset w) := Heap.get?_push_size _ rfl
    have hT : Shared.TypeIs { s with heap := s.heap.push (fset w) } (.ref s.heap.objs.size) "set" := ⟨_, hS, rfl⟩
    have q6 := F.called_set.init.lookup
    have q7 := F.called_set.init.bind (.ref s.heap.objs.size)
    repeat (any_goals (first | assumption | wp_step))
    refine codeAny_mono (set_init_list (E := E) hh hl hit hb hT hS) ?_
    intro r2 s2 hr2
    match r2, hr2 with
    | .error e, hr2 => exact hr2
    | .ok .next, hr2 => exact hr2.elim
    | .ok .brk, hr2 => exact hr2.elim
    | .ok .cont, hr2 => exact hr2.elim
    | .ok (.ret r), hr2 =>
      obtain ⟨rfl, z⟩ := hr2
      repeat (any_goals (first | assumption | wp_step))
      exact h _ z
end
theorem nodup_len : ∀ (m : Nat) (l : List Int), l.Nodup → (∀ k ∈ l, 0 ≤ k ∧ k < m) → l.length ≤ m
  | 0, [], _, _ => Nat.le_refl _
  | 0, x :: t, _, h => by
    have := h x List.mem_cons_self
    omega
  | m + 1, l, hn, h => by
    by_cases c : (m : Int) ∈ l
    · have ih := nodup_len m (l.erase (m : Int)) (hn.erase _) fun k hk => by
        obtain ⟨h1, h2⟩ := hn.mem_erase_iff.mp hk
        have := h k h2
        omega
      rw [List.length_erase_of_mem c] at ih
      omega
    · have ih := nodup_len m l hn fun k hk => by
        have h1 := h k hk
        have h2 : k ≠ m := fun z => c (z ▸ hk)
        omega
      omega
theorem setR_len {w : World} {h : Heap} {a : Addr} {ns : List Int} {c : Nat} (R : SetR w h a (fun j => decide (j ∈ ns)) c) (m : Nat) (hm : ∀ k ∈ ns, 0 ≤ k ∧ k < (m : Int)) : c ≤ m := by
  obtain ⟨o, es, ep, t, ho, _, _, _, nd, mem, _, _, sz, _⟩ := R
  have l := nodup_len m _ nd fun k hk => hm k (by simpa using (mem k).mpr hk)
  rw [List.length_map, Array.length_toList, sz] at l
  exact l
def rSetI (K : PySem.W.Frag) (w : World) : List V → Hp → VK → Prop := fun xs H Q => ∃ (l : Addr) (ns : List Int), xs = [.ref l] ∧ SqL K H l (ns.map V.int) ∧ ns.length ≤ 4000 ∧
  ∀ p c H', H p = none → Same H H' → (∀ m : Nat, (∀ k ∈ ns, 0 ≤ k ∧ k < (m : Int)) → c ≤ m) → H' p = some (SetO w p (fun j => decide (j ∈ ns)) c) → Q (.ref p) H'
theorem cr_setI {X : Cx} (hc : X.calm = true) : CallR X (.type "set") (rSetI X.K X.w) := by
  intro pins s σ H xs us Q I r h
  obtain ⟨l, ns, rfl, hS, hn, q⟩ := h
  obtain ⟨u, rfl, ru⟩ := r.one
  have e : u = Value.ref l := ru
  subst e
  obtain ⟨its, rv, pl, hz⟩ := I.list hS
  have hit : IntsAre its.toArray.toList ns := by
    rw [List.toList_toArray]
    exact ints_of_vals rv
  refine call_set_ints ns (I.ok.hd hc) pl.isList hit (by unfold scanBound; omega) ?_
  rintro s2 ⟨h', tk, c, rfl, R, hc', k⟩
  have fr : H s.heap.objs.size = none := I.hok.fresh (Nat.le_refl _)
  exact ⟨.ref _, upd H s.heap.objs.size (SetO X.w s.heap.objs.size (fun j => decide (j ∈ ns)) c), I.laid (t' := tk) k (Nat.le_refl _) (setO_new R), rfl, q _ c _ fr (same_new fr) (setR_len R) upd_same⟩
/-! a comprehension within a comprehension -/
def relS (scope sc0 : Scope) : Scope :=
  { scope with names := scope.names.map fun y => if (y.2 == .free && sc0.kind == .function && sc0.names.lookup y.1 == some .cell) then (y.1, .cell) else (y.1, y.2) }
theorem blkOk_in {N : List Str} {sc0 scO scope : Scope} {own : List (Str × Nat)} {env : Env} (e : env.scope = sc0) (h : blkC N (relS scO sc0) scope own = true) : BlkOk N (relabel scO env) scope own := by
  subst e
  exact blkOk_by h
theorem i_itB {A B : Prop} (b : Bool) (h1 : b = true → A) (h2 : b = false → B) : if b = true then A else B := by
  cases b with
  | true => exact iteT (h1 rfl)
  | false => exact iteF (h2 rfl)
/-! attributes of an own object -/
section
variable {K : PySem.W.Frag} {σ : L2.St} {H : Hp} {Q : VK} {ta tv : TE} {f : Str} {nx bk ct : L2.St → Hp → Prop} {rt : VK} {a C dx : Addr} {fs gs : List (Str × V)} {v y : V} {R : Hp → Prop}
/-- the reading of an attribute -/
def Fld (K : PySem.W.Frag) (f : Str) (x : V) (H : Hp) (Q : VK) : Prop := ∃ a C dx fs v, x = .ref a ∧ H a = some (.ins C dx fs) ∧ Cls K C ∧ NoAttr K C f ∧ fs.lookup f = some v ∧ Q v H
theorem i_fld (h : ta σ H fun x H1 => Fld K f x H1 Q) : tFld K ta f σ H Q := h
theorem i_fldA (h : H a = some (.ins C dx fs)) (c : Cls K C) (n : NoAttr K C f) (l : fs.lookup f = some v) (q : Q v H) : Fld K f (.ref a) H Q := ⟨a, C, dx, fs, v, rfl, h, c, n, l, q⟩
/-- the store of an attribute -/
def Put (K : PySem.W.Frag) (f : Str) (y x : V) (H : Hp) (R : Hp → Prop) : Prop := ∃ a C dx fs, x = .ref a ∧ H a = some (.ins C dx fs) ∧ Cls K C ∧ NoAttr K C f ∧ fs.length < 1000 ∧ R (upd H a (.ins C dx (putF f y fs)))
theorem i_sfld (h : tv σ H fun y H1 => ta σ H1 fun x H2 => Put K f y x H2 fun H3 => nx σ H3) : sFld K ta tv f (Ends.mk nx rt bk ct) σ H := h
theorem i_gfld {R : L2.St → Hp → Prop} (h : ta σ H fun x H1 => Put K f v x H1 fun H2 => R σ H2) : gFld K ta f v σ H R := h
theorem i_put (h : H a = some (.ins C dx fs)) (c : Cls K C) (n : NoAttr K C f) (e : putF f y fs = gs) (l : decide (fs.length < 1000) = true) (q : ∀ H', Ext a H H' → H' a = some (.ins C dx gs) → R H') : Put K f y (.ref a) H R :=
  ⟨a, C, dx, fs, rfl, h, c, n, of_decide_eq_true l, q _ Ext.put (by rw [e]; exact upd_same)⟩
/-- the object of a method -/
def MAt (C : Addr) (m : Str) (x : V) (H : Hp) (A : Prop) : Prop := ∃ a dx fs, x = .ref a ∧ H a = some (.ins C dx fs) ∧ fs.lookup m = none ∧ A
theorem i_methR {sp : Sp} {E : XK} {m : Str} {t : TA} (h : ta σ H fun x H1 => MAt C m x H1 (t σ H1 fun vs H2 => sp (x :: vs) H2 Q E)) : tMethR C m sp E ta t σ H Q := h
theorem i_mAt {m : Str} {A : Prop} (h : H a = some (.ins C dx fs)) (l : fs.lookup m = none) (q : A) : MAt C m (.ref a) H A := ⟨a, dx, fs, rfl, h, l, q⟩
theorem i_fdivW {g : Int → Int → V} {i j : Int} {n : Nat} (h0 : 0 < j) (h1 : j.natAbs < 2 ^ n) (q : Q (g i j) H) (b : decide (0 < n ∧ n ≤ 9000) = true := by rfl) : rI CDivW g (.int i) (.int j) H Q :=
  i_I (wide_div h0 h1 (of_decide_eq_true b).1 (of_decide_eq_true b).2) q
theorem i_eqS {x y : Str} (q : Q (.bl (decide (V.str x = V.str y))) H) : rEq (.str x) (.str y) H Q := i_eq rfl q
theorem i_isiSS {x : Str} (q : Q (.bl true) H) : rIsi K [.str x, .ty "str"] H Q := i_isi (.ty _) (.base (.str x)) (kit_ty (by decide +kernel)) q
theorem i_inT {x : V} {p : Addr} {xs : List V} (h : SqT K H p xs) (fx : flatV x = true) (fs : xs.all flatV = true) (q : Q (.bl (inV x xs)) H) : rIn K false x (.ref p) H Q := ⟨p, xs, rfl, .inr h, fx, fs, q⟩
theorem i_inL {x : V} {p : Addr} {xs : List V} (h : SqL K H p xs) (fx : flatV x = true) (fs : xs.all flatV = true) (q : Q (.bl (inV x xs)) H) : rIn K false x (.ref p) H Q := ⟨p, xs, rfl, .inl h, fx, fs, q⟩
end
/-! comprehensions by what their new list holds -/
/-- what a turn of a comprehension must leave -/
def Nxt (D : Addr) (N : Hp → Prop) (y : V) (H : Hp) : Prop := ∃ acc, H D = some (.lst acc) ∧ acc.length < sizeLine ∧ N (upd H D (.lst (acc ++ [y])))
theorem ite_t {A B : Prop} (h : if true = true then A else B) : A := by simpa using h
theorem ite_f {A B : Prop} (h : if false = true then A else B) : B := by simpa using h
theorem put_same {H1 H : Hp} {D : Addr} {o : HO} (s : Same H1 H) (n : H1 D = none) : Same H1 (upd H D o) := fun b p z => by rw [upd_ne (ne_of_none z n)]; exact s b p z
section
variable {K : PySem.W.Frag} {lo : Int} {n : Nat} {g : TG} {tt : TT} {te : TE} {vs : List Nat} {σ : L2.St} {H1 : Hp} {Q : VK} {a : Addr} {xs : List V}
theorem lcR (R : Addr → Nat → Hp → List V → Prop) (hn : n ≤ 40000) (hR : ∀ D i H H' ys zs, H D = some (.lst ys) → Ext D H H' → R D i H zs → R D i H' zs) (h0 : ∀ D H, R D 0 H [])
    (hs : ∀ D i H ys N, H1 D = none → i < n → ys.length ≤ i → Same H1 H → H D = some (.lst ys) → R D i H ys → (∀ y H4, Same H H4 → R D (i + 1) H4 (ys ++ [y]) → Nxt D N y H4) → (∀ H3, Same H H3 → R D (i + 1) H3 ys → N H3) → g (.int (lo + i)) (wipe σ vs) H fun σ2 H2 => wipe σ2 vs = wipe σ vs ∧ tt σ2 H2 fun b H3 =>
      if b = true then te σ2 H3 fun y H4 => Nxt D N y H4 else N H3)
    (hd : ∀ D H ys, H1 D = none → Same H1 H → H D = some (.lst ys) → ys.length ≤ n → R D n H ys → Q (.ref D) H) :
    LcW (Itr lo n) g tt te vs σ H1 Q := by
  intro D nD
  refine lc_range (Qd := fun H => Q (.ref D) H) (fun i H => i ≤ n ∧ Same H1 H ∧ ∃ ys, H D = some (.lst ys) ∧ ys.length ≤ i ∧ R D i H ys) ⟨Nat.zero_le _, same_new nD, [], upd_same, Nat.le_refl _, h0 D _⟩ ?_ ?_
  · rintro i H hi ⟨_, s, ys, hD, hl, r⟩
    refine hs D i H ys _ nD hi hl s hD r (fun v H4 s4 r4 => ?_) (fun H3 s3 r3 => ?_)
    · have hD4 := s4 _ _ hD
      exact ⟨ys, hD4, Nat.lt_of_le_of_lt (m := 40000) (by omega) (by decide), by omega, put_same (s.trans s4) nD, ys ++ [v], upd_same, by rw [List.length_append]; simp; omega, hR D _ _ _ _ _ hD4 Ext.put r4⟩
    · exact ⟨by omega, s.trans s3, ys, s3 _ _ hD, by omega, r3⟩
  · rintro H ⟨_, s, ys, hD, hl, r⟩
    exact hd D H ys nD s hD hl r
theorem lcL (R : Addr → Nat → Hp → List V → Prop) (hn : xs.length ≤ 40000) (hx : SqL K H1 a xs) (hR : ∀ D i H H' ys zs, H D = some (.lst ys) → Ext D H H' → R D i H zs → R D i H' zs) (h0 : ∀ D H, R D 0 H [])
    (hs : ∀ D i x H ys N, H1 D = none → xs[i]? = some x → ys.length ≤ i → Same H1 H → H D = some (.lst ys) → R D i H ys → (∀ y H4, Same H H4 → R D (i + 1) H4 (ys ++ [y]) → Nxt D N y H4) → (∀ H3, Same H H3 → R D (i + 1) H3 ys → N H3) → g x (wipe σ vs) H fun σ2 H2 => wipe σ2 vs = wipe σ vs ∧ tt σ2 H2 fun b H3 =>
      if b = true then te σ2 H3 fun y H4 => Nxt D N y H4 else N H3)
    (hd : ∀ D H ys, H1 D = none → Same H1 H → H D = some (.lst ys) → ys.length ≤ xs.length → R D xs.length H ys → Q (.ref D) H) :
    LcW (Itl K a) g tt te vs σ H1 Q := by
  intro D nD
  refine lc_list (Qd := fun H => Q (.ref D) H) (xs := xs) (fun i H => i ≤ xs.length ∧ Same H1 H ∧ ∃ ys, H D = some (.lst ys) ∧ ys.length ≤ i ∧ R D i H ys) ⟨Nat.zero_le _, same_new nD, [], upd_same, Nat.le_refl _, h0 D _⟩ (fun i H _ z => z.2.1.seq hx) ?_ ?_
  · rintro i x H hx' ⟨_, s, ys, hD, hl, r⟩
    have hi : i < xs.length := (List.getElem?_eq_some_iff.mp hx').1
    refine hs D i x H ys _ nD hx' hl s hD r (fun v H4 s4 r4 => ?_) (fun H3 s3 r3 => ?_)
    · have hD4 := s4 _ _ hD
      exact ⟨ys, hD4, Nat.lt_of_le_of_lt (m := 40000) (by omega) (by decide), by omega, put_same (s.trans s4) nD, ys ++ [v], upd_same, by rw [List.length_append]; simp; omega, hR D _ _ _ _ _ hD4 Ext.put r4⟩
    · exact ⟨by omega, s.trans s3, ys, s3 _ _ hD, by omega, r3⟩
  · rintro H ⟨_, s, ys, hD, hl, r⟩
    exact hd D H ys nD s hD hl r
end
end G58

set_option maxRecDepth 100000
set_option maxHeartbeats 4000000
/-! the plain law of totals -/
namespace KXM
def ltO (x : Option Int) (m n : Int) : Bool := match x with | none => false | some z => decide (m * z < n)
def bad (a p : Int) (q : Option Int) (b r : Int) (s : Option Int) : Bool :=
  ltO s b (a * p) || (ltO q a (b * r) || ((decide (0 < a) && decide (b < p)) || (decide (0 < b) && decide (a < r))))
def tops (a : Int) (q : Option Int) (b : Int) (s : Option Int) : List Int := (a * b) :: ((match q with | none => [] | some z => [a * z]) ++ (match s with | none => [] | some z => [b * z]))
def mnl : List Int → Int
  | [] => 0
  | x :: [] => x
  | x :: y :: r => if mnl (y :: r) < x then mnl (y :: r) else x
theorem mnl_mem : ∀ (x : Int) (l : List Int), mnl (x :: l) ∈ x :: l
  | x, [] => by simp [mnl]
  | x, y :: r => by
    have ih := mnl_mem y r
    unfold mnl
    split
    · exact List.mem_cons_of_mem _ ih
    · exact List.mem_cons_self
theorem mnl_le : ∀ (x : Int) (l : List Int), ∀ y ∈ x :: l, mnl (x :: l) ≤ y
  | x, [], y, h => by
    simp at h
    subst h
    exact Int.le_refl _
  | x, y :: r, z, h => by
    have ih := mnl_le y r
    unfold mnl
    rcases List.mem_cons.mp h with e | h
    · subst e
      split <;> omega
    · have := ih z h
      split <;> omega
theorem mnl_is {m : Int} {l : List Int} (h : 0 < l.length) (h1 : m ∈ l) (h2 : ∀ y ∈ l, m ≤ y) : m = mnl l := by
  match l, h with
  | x :: r, _ =>
    have a := mnl_le x r m h1
    have b := h2 _ (mnl_mem x r)
    omega
/-- the least and the greatest total -/
def tot (a p : Int) (q : Option Int) (b r : Int) (s : Option Int) : Option (Int × Int) :=
  if bad a p q b r s = true then none else some (if b * r > a * p then b * r else a * p, mnl (tops a q b s))
theorem bad_sym (a p : Int) (q : Option Int) (b r : Int) (s : Option Int) : bad a p q b r s = bad b r s a p q := by
  unfold bad
  generalize ltO s b (a * p) = A
  generalize ltO q a (b * r) = B
  generalize (decide (0 < a) && decide (b < p)) = C
  generalize (decide (0 < b) && decide (a < r)) = D
  revert A B C D
  decide
theorem tops_sym (a : Int) (q : Option Int) (b : Int) (s : Option Int) : mnl (tops a q b s) = mnl (tops b s a q) := by
  have mem : ∀ y, y ∈ tops a q b s ↔ y ∈ tops b s a q := fun y => by
    unfold tops
    rw [Int.mul_comm a b]
    cases q <;> cases s <;> simp <;> constructor <;> intro h <;> (first | exact h | (rcases h with h | h | h <;> simp [h]))
  have l1 : ∀ (a : Int) (q : Option Int) (b : Int) (s : Option Int), ∃ r, tops a q b s = (a * b) :: r := fun a q b s => ⟨_, rfl⟩
  obtain ⟨r1, e1⟩ := l1 a q b s
  obtain ⟨r2, e2⟩ := l1 b s a q
  refine mnl_is (by rw [e2]; simp) ?_ fun y hy => ?_
  · rw [← mem, e1]
    exact mnl_mem _ _
  · rw [e1]
    refine mnl_le _ _ y ?_
    rw [← e1, mem]
    exact hy
theorem tot_sym (a p : Int) (q : Option Int) (b r : Int) (s : Option Int) : tot a p q b r s = tot b r s a p q := by
  unfold tot
  rw [bad_sym a p q b r s, tops_sym a q b s]
  have : (if b * r > a * p then b * r else a * p) = (if a * p > b * r then a * p else b * r) := by
    split <;> split <;> omega
  rw [this]
/-! what is let, in plain words -/
structure Good (a p : Int) (q : Option Int) (b r : Int) (s : Option Int) : Prop where
  h1 : ∀ z, s = some z → a * p ≤ b * z
  h2 : ∀ z, q = some z → b * r ≤ a * z
  h3 : 0 < a → p ≤ b
  h4 : 0 < b → r ≤ a
theorem good_iff (a p : Int) (q : Option Int) (b r : Int) (s : Option Int) : bad a p q b r s = false ↔ Good a p q b r s := by
  unfold bad
  simp only [Bool.or_eq_false_iff]
  constructor
  · rintro ⟨h1, h2, h3, h4⟩
    refine ⟨fun z e => ?_, fun z e => ?_, fun h => ?_, fun h => ?_⟩
    · subst e
      have := of_decide_eq_false h1
      omega
    · subst e
      have := of_decide_eq_false h2
      omega
    · rw [decide_eq_true h, Bool.true_and] at h3
      have := of_decide_eq_false h3
      omega
    · rw [decide_eq_true h, Bool.true_and] at h4
      have := of_decide_eq_false h4
      omega
  · rintro ⟨h1, h2, h3, h4⟩
    refine ⟨?_, ?_, ?_, ?_⟩
    · cases s with
      | none => rfl
      | some z => exact decide_eq_false (by have := h1 z rfl; omega)
    · cases q with
      | none => rfl
      | some z => exact decide_eq_false (by have := h2 z rfl; omega)
    · by_cases h : 0 < a
      · rw [decide_eq_true h, Bool.true_and]
        exact decide_eq_false (by have := h3 h; omega)
      · rw [decide_eq_false h, Bool.false_and]
    · by_cases h : 0 < b
      · rw [decide_eq_true h, Bool.true_and]
        exact decide_eq_false (by have := h4 h; omega)
      · rw [decide_eq_false h, Bool.false_and]
theorem tot_some {a p : Int} {q : Option Int} {b r : Int} {s : Option Int} {x y : Int} (h : tot a p q b r s = some (x, y)) :
    Good a p q b r s ∧ x = (if b * r > a * p then b * r else a * p) ∧ y = mnl (tops a q b s) := by
  unfold tot at h
  split at h
  · cases h
  · rename_i c
    injection h with h
    injection h with e1 e2
    exact ⟨(good_iff ..).mp (by simpa using c), e1.symm, e2.symm⟩
theorem tot_of_good {a p : Int} {q : Option Int} {b r : Int} {s : Option Int} (h : Good a p q b r s) : tot a p q b r s = some (if b * r > a * p then b * r else a * p, mnl (tops a q b s)) := by
  unfold tot
  rw [(good_iff ..).mpr h]
  simp
/-- y is at most every top -/
theorem mnl_tops {y a : Int} {q : Option Int} {b : Int} {s : Option Int} (h0 : y ≤ a * b) (h1 : ∀ z, q = some z → y ≤ a * z) (h2 : ∀ z, s = some z → y ≤ b * z) : y ≤ mnl (tops a q b s) := by
  have m : mnl (tops a q b s) ∈ tops a q b s := mnl_mem _ _
  have all : ∀ t ∈ tops a q b s, y ≤ t := by
    intro t ht
    unfold tops at ht
    rcases List.mem_cons.mp ht with e | ht
    · rw [e]
      exact h0
    · rcases List.mem_append.mp ht with ht | ht
      · cases q with
        | none => cases ht
        | some z =>
          have e : t = a * z := by simpa using ht
          rw [e]
          exact h1 z rfl
      · cases s with
        | none => cases ht
        | some z =>
          have e : t = b * z := by simpa using ht
          rw [e]
          exact h2 z rfl
  exact all _ m
theorem tops_le {a : Int} {q : Option Int} {b : Int} {s : Option Int} : mnl (tops a q b s) ≤ a * b ∧ (∀ z, q = some z → mnl (tops a q b s) ≤ a * z) ∧ (∀ z, s = some z → mnl (tops a q b s) ≤ b * z) := by
  have l := mnl_le (a * b) ((match q with | none => [] | some z => [a * z]) ++ (match s with | none => [] | some z => [b * z]))
  refine ⟨l _ List.mem_cons_self, fun z e => ?_, fun z e => ?_⟩
  · subst e
    exact l _ (List.mem_cons_of_mem _ (List.mem_append_left _ (by simp)))
  · subst e
    exact l _ (List.mem_cons_of_mem _ (List.mem_append_right _ (by simp)))
theorem mulr (a b k : Int) (h : a ≤ b) (hk : 0 ≤ k) : a * k ≤ b * k := Int.mul_le_mul_of_nonneg_right h hk
/-- so many times both sizes -/
theorem tot_times {a p : Int} {q : Option Int} {b r : Int} {s : Option Int} {x y k : Int} (ha : 0 ≤ a) (hb : 0 ≤ b) (hk : 1 ≤ k) (h : tot a p q b r s = some (x, y)) :
    ∃ x' y', tot (a * k) p q (b * k) r s = some (x', y') ∧ x' ≤ x * k ∧ y * k ≤ y' := by
  obtain ⟨G, ex, ey⟩ := tot_some h
  have e1 : ∀ t : Int, a * k * t = a * t * k := fun t => by rw [Int.mul_assoc, Int.mul_comm k t, ← Int.mul_assoc]
  have e2 : ∀ t : Int, b * k * t = b * t * k := fun t => by rw [Int.mul_assoc, Int.mul_comm k t, ← Int.mul_assoc]
  have pos : ∀ t : Int, 0 ≤ t → t ≤ t * k := fun t h0 => by
    have := Int.mul_le_mul_of_nonneg_left hk h0
    rw [Int.mul_one] at this
    exact this
  have up : ∀ t : Int, 0 < t * k → 0 < t := fun t h0 => by
    rcases Int.lt_or_le 0 t with z | z
    · exact z
    · have := mulr t 0 k z (by omega)
      rw [Int.zero_mul] at this
      omega
  have G' : Good (a * k) p q (b * k) r s := by
    refine ⟨fun z e => ?_, fun z e => ?_, fun h0 => ?_, fun h0 => ?_⟩
    · rw [e1, e2]
      exact mulr _ _ _ (G.h1 z e) (by omega)
    · rw [e1, e2]
      exact mulr _ _ _ (G.h2 z e) (by omega)
    · exact Int.le_trans (G.h3 (up a h0)) (pos b hb)
    · exact Int.le_trans (G.h4 (up b h0)) (pos a ha)
  refine ⟨_, _, tot_of_good G', ?_, ?_⟩
  · rw [e1, e2]
    have l1 : a * p ≤ x := by rw [ex]; split <;> omega
    have l2 : b * r ≤ x := by rw [ex]; split <;> omega
    split
    · exact mulr _ _ _ l2 (by omega)
    · exact mulr _ _ _ l1 (by omega)
  · obtain ⟨t0, t1, t2⟩ := tops_le (a := a) (q := q) (b := b) (s := s)
    rw [← ey] at t0 t1 t2
    refine mnl_tops ?_ (fun z e => ?_) (fun z e => ?_)
    · rw [e1, ← Int.mul_assoc]
      have w := mulr _ _ k t0 (by omega)
      have v := pos (a * b * k) (Int.mul_nonneg (Int.mul_nonneg ha hb) (by omega))
      exact Int.le_trans w v
    · rw [e1]
      exact mulr _ _ _ (t1 z e) (by omega)
    · rw [e2]
      exact mulr _ _ _ (t2 z e) (by omega)
/-- sums of sizes -/
theorem tot_plus {a p : Int} {q : Option Int} {b r : Int} {s : Option Int} {x y c d u v : Int} (ha : 0 ≤ a) (hb : 0 ≤ b) (hc : 0 ≤ c) (hd : 0 ≤ d) (h : tot a p q b r s = some (x, y)) (h' : tot c p q d r s = some (u, v)) :
    ∃ x' y', tot (a + c) p q (b + d) r s = some (x', y') ∧ x' ≤ x + u ∧ y + v ≤ y' := by
  obtain ⟨G, ex, ey⟩ := tot_some h
  obtain ⟨G2, eu, ev⟩ := tot_some h'
  have G' : Good (a + c) p q (b + d) r s := by
    refine ⟨fun z e => ?_, fun z e => ?_, fun h0 => ?_, fun h0 => ?_⟩
    · have i1 := G.h1 z e
      have i2 := G2.h1 z e
      rw [Int.add_mul, Int.add_mul]
      omega
    · have i1 := G.h2 z e
      have i2 := G2.h2 z e
      rw [Int.add_mul, Int.add_mul]
      omega
    · rcases Int.lt_or_le 0 a with z | z
      · have := G.h3 z
        omega
      · have := G2.h3 (by omega)
        omega
    · rcases Int.lt_or_le 0 b with z | z
      · have := G.h4 z
        omega
      · have := G2.h4 (by omega)
        omega
  refine ⟨_, _, tot_of_good G', ?_, ?_⟩
  · rw [Int.add_mul, Int.add_mul, ex, eu]
    split <;> split <;> split <;> omega
  · obtain ⟨t0, t1, t2⟩ := tops_le (a := a) (q := q) (b := b) (s := s)
    obtain ⟨w0, w1, w2⟩ := tops_le (a := c) (q := q) (b := d) (s := s)
    rw [← ey] at t0 t1 t2
    rw [← ev] at w0 w1 w2
    refine mnl_tops ?_ (fun z e => ?_) (fun z e => ?_)
    · have n1 := Int.mul_nonneg ha hd
      have n2 := Int.mul_nonneg hc hb
      rw [Int.add_mul, Int.mul_add, Int.mul_add]
      omega
    · have := t1 z e
      have := w1 z e
      rw [Int.add_mul]
      omega
    · have := t2 z e
      have := w2 z e
      rw [Int.add_mul]
      omega
end KXM

set_option linter.all false
set_option maxRecDepth 100000
set_option maxHeartbeats 4000000
/-! the plain law of nets -/
namespace KXM
def spots (a b : Nat) : List (Nat × Nat) := (List.range a).flatMap fun i => (List.range b).map fun j => (i, j)
def selN {α : Type} (l : List α) (code n : Nat) : List α := (List.range n).filterMap fun k => if code / 2 ^ k % 2 = 1 then l[k]? else none
def sel {α : Type} (l : List α) (code : Nat) : List α := selN l code l.length
theorem selN_succ {α : Type} (l : List α) (code n : Nat) (x : α) (h : l[n]? = some x) : selN l code (n + 1) = selN l code n ++ (if code / 2 ^ n % 2 = 1 then [x] else []) := by
  unfold selN
  rw [List.range_succ, List.filterMap_append]
  congr 1
  by_cases c : code / 2 ^ n % 2 = 1
  · simp [c, h]
  · simp [c]
theorem selN_zero {α : Type} (l : List α) (code : Nat) : selN l code 0 = [] := rfl
theorem spots_succ (a b : Nat) : spots (a + 1) b = spots a b ++ (List.range b).map fun j => (a, j) := by
  unfold spots
  rw [List.range_succ, List.flatMap_append]
  simp
theorem spots_len (a b : Nat) : (spots a b).length = a * b := by
  induction a with
  | zero => simp [spots]
  | succ a ih => rw [spots_succ, List.length_append, ih, List.length_map, List.length_range, Nat.succ_mul]
def cnt0 (ps : List (Nat × Nat)) (i : Nat) : Nat := (ps.filter fun x => x.1 == i).length
def cnt1 (ps : List (Nat × Nat)) (i : Nat) : Nat := (ps.filter fun x => x.2 == i).length
def lets (p : Int) (q : Option Int) (d : Int) : Bool := decide (p ≤ d) && (match q with | none => true | some z => decide (d ≤ z))
theorem lets_iff {p : Int} {q : Option Int} {d : Int} : lets p q d = true ↔ p ≤ d ∧ ∀ z, q = some z → d ≤ z := by
  unfold lets
  cases q with
  | none => simp
  | some z => simp
def isLet (ps : List (Nat × Nat)) (a b : Nat) (p : Int) (q : Option Int) (r : Int) (s : Option Int) : Bool := (List.range a).all (fun i => lets p q (cnt0 ps i)) && (List.range b).all (fun j => lets r s (cnt1 ps j))
theorem sums : ∀ a < 4, ∀ b < 4, ∀ code < 2 ^ (a * b), ((List.range a).map (cnt0 (sel (spots a b) code))).sum = (sel (spots a b) code).length ∧ ((List.range b).map (cnt1 (sel (spots a b) code))).sum = (sel (spots a b) code).length ∧ (sel (spots a b) code).length ≤ a * b := by
  decide +kernel
def rowOf (a e k : Nat) : Nat := if k < e % a * (e / a + 1) then k / (e / a + 1) else e % a + (k - e % a * (e / a + 1)) / (e / a)
def codeOf (a b e : Nat) : Nat := ((List.range e).map fun k => 2 ^ (rowOf a e k * b + k % b)).sum
def balP (a b e : Nat) (ps : List (Nat × Nat)) : Bool := decide (ps.length = e) && ((List.range a).all (fun i => decide (e / a ≤ cnt0 ps i) && decide (cnt0 ps i * a ≤ e + a - 1)) && (List.range b).all (fun i => decide (e / b ≤ cnt1 ps i) && decide (cnt1 ps i * b ≤ e + b - 1)))
theorem bal0 : ∀ a < 4, ∀ b < 4, ∀ e < a * b + 1, codeOf a b e < 2 ^ (a * b) ∧ balP a b e (sel (spots a b) (codeOf a b e)) = true := by
  decide +kernel
theorem bal (a : Nat) (ha : a < 4) (b : Nat) (hb : b < 4) (e : Nat) (he : e < a * b + 1) : codeOf a b e < 2 ^ (a * b) ∧ (sel (spots a b) (codeOf a b e)).length = e ∧ (∀ i < a, e / a ≤ cnt0 (sel (spots a b) (codeOf a b e)) i ∧ cnt0 (sel (spots a b) (codeOf a b e)) i * a ≤ e + a - 1) ∧
    (∀ i < b, e / b ≤ cnt1 (sel (spots a b) (codeOf a b e)) i ∧ cnt1 (sel (spots a b) (codeOf a b e)) i * b ≤ e + b - 1) := by
  obtain ⟨h1, h2⟩ := bal0 a ha b hb e he
  unfold balP at h2
  simp only [Bool.and_eq_true, decide_eq_true_eq, List.all_eq_true, List.mem_range] at h2
  exact ⟨h1, h2.1, h2.2.1, h2.2.2⟩
theorem sum_ge (f : Nat → Nat) (p : Int) : ∀ n, (∀ i < n, p ≤ (f i : Int)) → (n : Int) * p ≤ (((List.range n).map f).sum : Nat)
  | 0, _ => by simp
  | n + 1, h => by
    have ih := sum_ge f p n fun i hi => h i (by omega)
    have := h n (by omega)
    rw [List.range_succ, List.map_append, List.sum_append]
    simp only [List.map_cons, List.map_nil, List.sum_cons, List.sum_nil]
    rw [Int.natCast_add (n := n) (m := 1), Int.add_mul]
    omega
theorem sum_le (f : Nat → Nat) (p : Int) : ∀ n, (∀ i < n, (f i : Int) ≤ p) → (((List.range n).map f).sum : Nat) ≤ (n : Int) * p
  | 0, _ => by simp
  | n + 1, h => by
    have ih := sum_le f p n fun i hi => h i (by omega)
    have := h n (by omega)
    rw [List.range_succ, List.map_append, List.sum_append]
    simp only [List.map_cons, List.map_nil, List.sum_cons, List.sum_nil]
    rw [Int.natCast_add (n := n) (m := 1), Int.add_mul]
    omega
/-- k pairs can stand -/
structure Inn (a p : Int) (q : Option Int) (b r : Int) (s : Option Int) (k : Int) : Prop where
  h0 : 0 ≤ k
  h1 : a * p ≤ k
  h2 : b * r ≤ k
  h3 : k ≤ a * b
  h4 : ∀ z, q = some z → k ≤ a * z
  h5 : ∀ z, s = some z → k ≤ b * z
theorem part_ge {a e : Nat} {p : Int} (h : (a : Int) * p ≤ e) (ha : 0 < a) : p ≤ ((e / a : Nat) : Int) := by
  rw [Int.natCast_ediv]
  exact (Int.le_ediv_iff_mul_le (by omega)).mpr (by rw [Int.mul_comm]; exact h)
theorem part_le {a e c : Nat} {z : Int} (h : (e : Int) ≤ a * z) (ha : 0 < a) (hc : c * a ≤ e + a - 1) : (c : Int) ≤ z := by
  have h1 : ((c * a : Nat) : Int) < (a : Int) * (z + 1) := by
    rw [Int.mul_add, Int.mul_one]
    omega
  rw [Int.natCast_mul, Int.mul_comm] at h1
  have := Int.lt_of_mul_lt_mul_left h1 (by omega)
  omega
theorem found_iff {a b : Nat} (ha : a < 4) (hb : b < 4) (p r : Int) (q s : Option Int) (k : Int) :
    (∃ code < 2 ^ (a * b), isLet (sel (spots a b) code) a b p q r s = true ∧ ((sel (spots a b) code).length : Int) = k) ↔ Inn a p q b r s k := by
  constructor
  · rintro ⟨code, hc, hl, rfl⟩
    obtain ⟨s0, s1, s2⟩ := sums a ha b hb code hc
    unfold isLet at hl
    rw [Bool.and_eq_true, List.all_eq_true, List.all_eq_true] at hl
    obtain ⟨l0, l1⟩ := hl
    have l0' : ∀ i < a, p ≤ (cnt0 (sel (spots a b) code) i : Int) ∧ ∀ z, q = some z → (cnt0 (sel (spots a b) code) i : Int) ≤ z := fun i hi => lets_iff.mp (l0 i (List.mem_range.mpr hi))
    have l1' : ∀ i < b, r ≤ (cnt1 (sel (spots a b) code) i : Int) ∧ ∀ z, s = some z → (cnt1 (sel (spots a b) code) i : Int) ≤ z := fun i hi => lets_iff.mp (l1 i (List.mem_range.mpr hi))
    refine ⟨by omega, ?_, ?_, by exact_mod_cast s2, fun z hz => ?_, fun z hz => ?_⟩
    · rw [← s0]; exact sum_ge _ _ _ fun i hi => (l0' i hi).1
    · rw [← s1]; exact sum_ge _ _ _ fun i hi => (l1' i hi).1
    · rw [← s0]; exact sum_le _ _ _ fun i hi => (l0' i hi).2 z hz
    · rw [← s1]; exact sum_le _ _ _ fun i hi => (l1' i hi).2 z hz
  · rintro ⟨h0, h1, h2, h3, h4, h5⟩
    obtain ⟨e, rfl⟩ := Int.eq_ofNat_of_zero_le h0
    have he : e < a * b + 1 := by
      have : (e : Int) ≤ ((a * b : Nat) : Int) := by rw [Int.natCast_mul]; exact h3
      omega
    obtain ⟨c1, c2, c3, c4⟩ := bal a ha b hb e he
    refine ⟨codeOf a b e, c1, ?_, by rw [c2]⟩
    unfold isLet
    rw [Bool.and_eq_true, List.all_eq_true, List.all_eq_true]
    refine ⟨fun i hi => ?_, fun i hi => ?_⟩
    · have hi := List.mem_range.mp hi
      obtain ⟨d1, d2⟩ := c3 i hi
      refine lets_iff.mpr ⟨Int.le_trans (part_ge h1 (by omega)) (by exact_mod_cast d1), fun z hz => part_le (h4 z hz) (by omega) d2⟩
    · have hi := List.mem_range.mp hi
      obtain ⟨d1, d2⟩ := c4 i hi
      refine lets_iff.mpr ⟨Int.le_trans (part_ge h2 (by omega)) (by exact_mod_cast d1), fun z hz => part_le (h5 z hz) (by omega) d2⟩
/-- one end of a table -/
theorem near_iff {a e : Nat} {p : Int} {q : Option Int} (he : a = 0 → e = 0) : (List.range a).all (fun i => lets p q (((e / a : Nat) : Int) + (if i < e % a then 1 else 0))) = true ↔ (a : Int) * p ≤ e ∧ ∀ z, q = some z → (e : Int) ≤ a * z := by
  rw [List.all_eq_true]
  rcases Nat.eq_zero_or_pos a with rfl | ha
  · simp [he rfl]
  have dm := Nat.div_add_mod e a
  have ml := Nat.mod_lt e ha
  have dm' : (a : Int) * ((e / a : Nat) : Int) + ((e % a : Nat) : Int) = e := by exact_mod_cast dm
  constructor
  · intro h
    have l := fun i hi => lets_iff.mp (h i (List.mem_range.mpr hi))
    refine ⟨?_, fun z hz => ?_⟩
    · have := (l (a - 1) (by omega)).1
      rw [if_neg (by omega), Int.add_zero] at this
      have := Int.mul_le_mul_of_nonneg_left this (show (0 : Int) ≤ a by omega)
      omega
    · have := (l 0 ha).2 z hz
      by_cases c : 0 < e % a
      · rw [if_pos c] at this
        have := Int.mul_le_mul_of_nonneg_left this (show (0 : Int) ≤ a by omega)
        rw [Int.mul_add, Int.mul_one] at this
        omega
      · rw [if_neg c, Int.add_zero] at this
        have := Int.mul_le_mul_of_nonneg_left this (show (0 : Int) ≤ a by omega)
        omega
  · rintro ⟨h1, h2⟩ i hi
    have hi := List.mem_range.mp hi
    refine lets_iff.mpr ⟨?_, fun z hz => ?_⟩
    · have := part_ge h1 ha
      split <;> omega
    · have := h2 z hz
      by_cases c : i < e % a
      · rw [if_pos c]
        refine Int.le_of_lt_add_one (Int.lt_of_mul_lt_mul_left (a := (a : Int)) ?_ (by omega))
        rw [Int.mul_add, Int.mul_add, Int.mul_one]
        omega
      · rw [if_neg c, Int.add_zero]
        refine Int.le_of_lt_add_one (Int.lt_of_mul_lt_mul_left (a := (a : Int)) ?_ (by omega))
        rw [Int.mul_add, Int.mul_one]
        omega
theorem inn_of_tot {a p : Int} {q : Option Int} {b r : Int} {s : Option Int} (ha : 0 ≤ a) (hb : 0 ≤ b) (hp : 0 ≤ p) (hr : 0 ≤ r) (hq : ∀ z, q = some z → p ≤ z) (hs : ∀ z, s = some z → r ≤ z) :
    (tot a p q b r s = none → ∀ k, ¬ Inn a p q b r s k) ∧ (∀ x y, tot a p q b r s = some (x, y) → 0 ≤ x ∧ x ≤ y ∧ ∀ k, Inn a p q b r s k ↔ x ≤ k ∧ k ≤ y) := by
  have ml : ∀ {u v c : Int}, 0 ≤ c → u ≤ v → c * u ≤ c * v := fun h0 h => Int.mul_le_mul_of_nonneg_left h h0
  refine ⟨fun h k hk => ?_, fun x y h => ?_⟩
  · have G : Good a p q b r s := by
      refine ⟨fun z hz => Int.le_trans hk.h1 (hk.h5 z hz), fun z hz => Int.le_trans hk.h2 (hk.h4 z hz), fun h0 => ?_, fun h0 => ?_⟩
      · exact Int.le_of_mul_le_mul_left (Int.le_trans hk.h1 hk.h3) h0
      · exact Int.le_of_mul_le_mul_left (by rw [Int.mul_comm b a]; exact Int.le_trans hk.h2 hk.h3) h0
    rw [tot_of_good G] at h
    cases h
  · obtain ⟨G, ex, ey⟩ := tot_some h
    obtain ⟨t0, t1, t2⟩ := tops_le (a := a) (q := q) (b := b) (s := s)
    rw [← ey] at t0 t1 t2
    have x1 : a * p ≤ x := by rw [ex]; split <;> omega
    have x2 : b * r ≤ x := by rw [ex]; split <;> omega
    have x0 : 0 ≤ x := Int.le_trans (Int.mul_nonneg ha hp) x1
    have xc : ∀ k, a * p ≤ k → b * r ≤ k → x ≤ k := fun k h1 h2 => by rw [ex]; split <;> omega
    refine ⟨x0, ?_, fun k => ⟨fun hk => ⟨xc k hk.h1 hk.h2, ?_⟩, fun hk => ⟨by omega, by omega, by omega, by omega, fun z hz => Int.le_trans hk.2 (t1 z hz), fun z hz => Int.le_trans hk.2 (t2 z hz)⟩⟩⟩
    · rw [ey]
      refine mnl_tops (xc _ ?_ ?_) (fun z hz => xc _ ?_ ?_) (fun z hz => xc _ ?_ ?_)
      · rcases Int.lt_or_le 0 a with c | c
        · exact ml ha (G.h3 c)
        · have : a = 0 := by omega
          subst this
          simp
      · rw [Int.mul_comm a b]
        rcases Int.lt_or_le 0 b with c | c
        · exact ml hb (G.h4 c)
        · have : b = 0 := by omega
          subst this
          simp
      · exact ml ha (hq z hz)
      · exact G.h2 z hz
      · exact G.h1 z hz
      · exact ml hb (hs z hz)
    · rw [ey]
      exact mnl_tops hk.h3 hk.h4 hk.h5
/-- wider numbers let more -/
theorem tot_wider {a p p' : Int} {q q' : Option Int} {b r r' : Int} {s s' : Option Int} {x y : Int} (ha : 0 ≤ a) (hb : 0 ≤ b) (h1 : p' ≤ p) (h2 : r' ≤ r) (hq : ∀ z', q' = some z' → ∃ z, q = some z ∧ z ≤ z') (hs : ∀ z', s' = some z' → ∃ z, s = some z ∧ z ≤ z')
    (h : tot a p q b r s = some (x, y)) : ∃ x' y', tot a p' q' b r' s' = some (x', y') ∧ x' ≤ x ∧ y ≤ y' := by
  have ml : ∀ {u v c : Int}, 0 ≤ c → u ≤ v → c * u ≤ c * v := fun h0 h => Int.mul_le_mul_of_nonneg_left h h0
  obtain ⟨G, ex, ey⟩ := tot_some h
  have G' : Good a p' q' b r' s' := by
    refine ⟨fun z' hz => ?_, fun z' hz => ?_, fun h0 => ?_, fun h0 => ?_⟩
    · obtain ⟨z, e, l⟩ := hs z' hz
      exact Int.le_trans (ml ha h1) (Int.le_trans (G.h1 z e) (ml hb l))
    · obtain ⟨z, e, l⟩ := hq z' hz
      exact Int.le_trans (ml hb h2) (Int.le_trans (G.h2 z e) (ml ha l))
    · have := G.h3 h0
      omega
    · have := G.h4 h0
      omega
  obtain ⟨t0, t1, t2⟩ := tops_le (a := a) (q := q) (b := b) (s := s)
  rw [← ey] at t0 t1 t2
  have m1 := ml ha h1
  have m2 := ml hb h2
  refine ⟨_, _, tot_of_good G', ?_, ?_⟩
  · rw [ex]
    split <;> split <;> omega
  · refine mnl_tops t0 (fun z' hz => ?_) (fun z' hz => ?_)
    · obtain ⟨z, e, l⟩ := hq z' hz
      exact Int.le_trans (t1 z e) (ml ha l)
    · obtain ⟨z, e, l⟩ := hs z' hz
      exact Int.le_trans (t2 z e) (ml hb l)
/-- a rising list is told by its members -/
theorem rising : ∀ {l m : List Int}, l.Pairwise (· < ·) → m.Pairwise (· < ·) → (∀ k, k ∈ l ↔ k ∈ m) → l = m
  | [], [], _, _, _ => rfl
  | [], y :: m, _, _, h => absurd ((h y).mpr List.mem_cons_self) (by simp)
  | x :: l, [], _, _, h => absurd ((h x).mp List.mem_cons_self) (by simp)
  | x :: l, y :: m, h1, h2, h => by
    obtain ⟨a1, a2⟩ := List.pairwise_cons.mp h1
    obtain ⟨b1, b2⟩ := List.pairwise_cons.mp h2
    have e : x = y := by
      rcases List.mem_cons.mp ((h x).mp List.mem_cons_self) with z | z
      · exact z
      · rcases List.mem_cons.mp ((h y).mpr List.mem_cons_self) with w | w
        · exact w.symm
        · have := b1 x z
          have := a1 y w
          omega
    subst e
    congr 1
    refine rising a2 b2 fun k => ⟨fun hk => ?_, fun hk => ?_⟩
    · rcases List.mem_cons.mp ((h k).mp (List.mem_cons_of_mem _ hk)) with z | z
      · subst z
        have := a1 k hk
        omega
      · exact z
    · rcases List.mem_cons.mp ((h k).mpr (List.mem_cons_of_mem _ hk)) with z | z
      · subst z
        have := b1 k hk
        omega
      · exact z
def rg (x : Int) (n : Nat) : List Int := (List.range n).map fun i => x + (i : Nat)
theorem rg_rising (x : Int) (n : Nat) : (rg x n).Pairwise (· < ·) := by
  unfold rg
  rw [List.pairwise_map]
  exact List.pairwise_lt_range.imp fun h => by omega
theorem rg_mem {x k : Int} {n : Nat} : k ∈ rg x n ↔ x ≤ k ∧ k < x + n := by
  unfold rg
  rw [List.mem_map]
  constructor
  · rintro ⟨i, hi, rfl⟩
    have := List.mem_range.mp hi
    omega
  · rintro ⟨h1, h2⟩
    exact ⟨(k - x).toNat, List.mem_range.mpr (by omega), by omega⟩
end KXM

set_option Elab.async false
set_option linter.all false
set_option maxRecDepth 100000
set_option maxHeartbeats 4000000
namespace K34
open L2 PyProof.Rows PySem.Spec PySem G58
local macro_rules | `(tactic| walk_at "rd") => `(tactic| first
  | (with_reducible refine i_seq ?_)
  | ((with_reducible refine' i_var ?rdh ?_); (case rdh => exact rfl))
  | (with_reducible refine i_c ?_)
  | (with_reducible refine i_op ?_)
  | (with_reducible refine i_I0 ?_)
  | (with_reducible refine i_set ?_)
  | (with_reducible refine i_ret ?_)
  | (with_reducible refine i_cons ?_)
  | (with_reducible refine i_nil ?_)
  | (with_reducible refine i_cb ?_)
  | (with_reducible refine i_call ?_)
  | (with_reducible refine i_tup ?_)
  | (with_reducible refine i_lst ?_)
  | (with_reducible refine i_ifS ?_)
  | (with_reducible refine i_test ?_)
  | (with_reducible refine i_B ?_)
  | (with_reducible refine i_bl ?_)
  | (with_reducible refine i_isN ?_)
  | (with_reducible refine i_notN ?_)
  | (with_reducible refine i_andV ?_)
  | (with_reducible refine i_orV ?_)
  | (with_reducible refine i_notV ?_)
  | (with_reducible refine i_and ?_)
  | (with_reducible refine i_or ?_)
  | (with_reducible refine i_not ?_)
  | (with_reducible refine i_if ?_)
  | (with_reducible refine i_par ?_)
  | (with_reducible refine i_par2 ?_)
  | (with_reducible refine i_drop ?_)
  | (with_reducible refine i_next ?_)
  | (with_reducible refine i_retN ?_)
  | (with_reducible refine i_iteT ?_)
  | (with_reducible refine i_iteF ?_)
  | (with_reducible refine i_un ?_)
  | (with_reducible refine i_U ?_)
  | (with_reducible refine i_isiII ?_)
  | (with_reducible refine i_isiIB ?_)
  | (with_reducible refine i_nT ?_)
  | (with_reducible refine i_nF ?_)
  | (with_reducible refine i_p10_4 ?_)
  | (with_reducible refine i_p10_9 ?_)
  | (with_reducible refine i_p10_18 ?_)
  | (with_reducible refine i_p10_20 ?_)
  | (with_reducible refine i_p10_30 ?_)
  | (with_reducible refine i_p10_40 ?_)
  | (with_reducible refine i_p10_58 ?_)
  | (with_reducible refine i_p10_60 ?_)
  | (with_reducible refine i_p10_61 ?_)
  | (with_reducible refine i_p10_64 ?_)
  | (with_reducible refine i_ex1 ?_)
  | (with_reducible refine i_ex2 ?_)
  | (with_reducible refine i_toI ?_)
  | (with_reducible refine i_toB ?_)
  | ((with_reducible refine' i_ixL ?rdh ?rda ?_); (case rdh => exact SqL.of (by assumption)); (case rda => exact rfl))
  | ((with_reducible refine' i_ixT ?rdh ?rda ?_); (case rdh => exact SqT.of (by assumption)); (case rda => exact rfl))
  | (with_reducible refine i_mulR ⟨by decide, by decide⟩ ?_)
  | (with_reducible refine i_mulL ⟨by decide, by decide⟩ ?_)
  | (with_reducible refine i_mod (by decide) ?_)
  | (with_reducible refine i_div ⟨by decide, by decide⟩ ?_)
  | ((with_reducible refine' i_gtup ?rdh ?rdl ?_); (case rdh => exact SqT.of (by assumption)); (case rdl => exact rfl))
  | (with_reducible refine i_gcons ?_)
  | (with_reducible refine i_gnil ?_)
  | (with_reducible refine i_gname ?_)
  | (with_reducible refine i_gsub ?_)
  | (with_reducible refine i_bm ?_)
  | (with_reducible refine i_bm0 ?_)
  | ((with_reducible refine' i_tyL ?rdh ?_); (case rdh => assumption))
  | (with_reducible refine i_for ?_)
  | (with_reducible refine i_itup ?_)
  | (with_reducible refine i_ilist ?_)
  | (with_reducible refine i_irng1 ?_)
  | (with_reducible refine i_irng2 ?_)
  | (with_reducible refine i_lc ?_)
  | (with_reducible refine i_yes ?_)
  | (with_reducible refine i_asg ?_)
  | dsimp only)
def top (i : Nat) : Stmt := PySem.Challenge.pw_howmanyeach_k34_whole_totals_by_all_pair.main.body.getD i (.Pass ⟨0, 0, 0, 0⟩)
/-- the built-in names that no statement of the module binds -/
structure Blt (mg : Str → Option Value) : Prop where
  b_int : mg "int" = none
  b_bool : mg "bool" = none
  b_isinstance : mg "isinstance" = none
  b_len : mg "len" = none
  b_abs : mg "abs" = none
  b_max : mg "max" = none
  b_min : mg "min" = none
  b_all : mg "all" = none
  b_range : mg "range" = none
  b_divmod : mg "divmod" = none
  b_repr : mg "repr" = none
  b_str : mg "str" = none
  b_set : mg "set" = none
  b_sorted : mg "sorted" = none
  b_list : mg "list" = none
abbrev s_is_integer : Stmt := top 15
abbrev n_is_integer : List Str := ["value"]
theorem sc_is_integer : FnScope n_is_integer ["value"] (defScope s_is_integer) := ⟨rfl, rfl, rfl, by decide +kernel, rfl, by decide +kernel, by decide +kernel⟩
abbrev s_is_count : Stmt := top 16
abbrev n_is_count : List Str := ["value"]
theorem sc_is_count : FnScope n_is_count ["value"] (defScope s_is_count) := ⟨rfl, rfl, rfl, by decide +kernel, rfl, by decide +kernel, by decide +kernel⟩
abbrev s_want_count : Stmt := top 18
abbrev n_want_count : List Str := ["value"]
theorem sc_want_count : FnScope n_want_count ["value"] (defScope s_want_count) := ⟨rfl, rfl, rfl, by decide +kernel, rfl, by decide +kernel, by decide +kernel⟩
def spIsInt : Sp := fun vs H Q _ => ∃ i : Int, vs = [.int i] ∧ Q (.bl true) H
def spIsCount : Sp := fun vs H Q _ => ∃ i : Int, vs = [.int i] ∧ Q (.bl (decide (0 ≤ i))) H
def spWant : Sp := fun vs H Q _ => ∃ i : Int, vs = [.int i] ∧ 0 ≤ i ∧ Q .non H
section
variable {P : Program} {w : World} {K : PySem.W.Frag} {mg : Str → Option Value} {base : Heap} {f : Addr} {fd : FuncData}
theorem ok_is_integer (F : Fun K "is_integer" "is_integer" s_is_integer f fd) (T : Blt mg) : FnOk P w K mg base CX0 1 f fd ["value"] spIsInt := by
  refine F.ok sc_is_integer (fun vs H Q E h => ?_) (fun cdv A outer s H vs Q E hr h => ?_)
  · obtain ⟨i, rfl, _⟩ := h
    rfl
  · obtain ⟨i, rfl, k⟩ := h
    refine ⟨_, (pss_one (ps_ret (pe_and (pe_callB call_isi (by rfl) T.b_isinstance (by decide +kernel) (pa_cons (pv 0) (pa_cons (pe_bltn (v := .ty "int") (u := .type "int") (by rfl) T.b_int (by decide +kernel) rfl) pa_nil))) (pe_one (pe_not (pe_callB call_isi (by rfl) T.b_isinstance (by decide +kernel) (pa_cons (pv 0) (pa_cons (pe_bltn (v := .ty "bool") (u := .type "bool") (by rfl) T.b_bool (by decide +kernel) rfl) pa_nil)))))))), ?_⟩
    repeat walk_at "rd"
    exact k
theorem ok_is_count (F : Fun K "is_count" "is_count" s_is_count f fd) (T : Blt mg) (D_is_integer : Dn P w K mg base 1 "is_integer" spIsInt) : FnOk P w K mg base CX0 2 f fd ["value"] spIsCount := by
  refine F.ok sc_is_count (fun vs H Q E h => ?_) (fun cdv A outer s H vs Q E hr h => ?_)
  · obtain ⟨i, rfl, _⟩ := h
    rfl
  · obtain ⟨i, rfl, k⟩ := h
    refine ⟨_, (pss_one (ps_ret (pe_and (pe_cl D_is_integer (hr.mono (by decide)) (pa_cons (pv 0) pa_nil)) (pe_one (pe_cmpR op_ge (pv 0) pe_int (nomark _)))))), ?_⟩
    repeat walk_at "rd"
    refine ⟨i, rfl, ?_⟩
    repeat walk_at "rd"
    exact k
theorem ok_want_count (F : Fun K "want_count" "want_count" s_want_count f fd) (T : Blt mg) (D_is_count : Dn P w K mg base 2 "is_count" spIsCount) : FnOk P w K mg base CX0 3 f fd ["value"] spWant := by
  refine F.ok sc_want_count (fun vs H Q E h => ?_) (fun cdv A outer s H vs Q E hr h => ?_)
  · obtain ⟨i, rfl, _⟩ := h
    rfl
  · obtain ⟨i, rfl, hi, k⟩ := h
    refine ⟨_, (pss_one (ps_if (pt_not (pt_val (pe_cl D_is_count (hr.mono (by decide)) (pa_cons (pv 0) pa_nil))))
        (pss_one ps_never)
        pss_nil)), ?_⟩
    repeat walk_at "rd"
    refine ⟨i, rfl, ?_⟩
    rw [decide_eq_true hi]
    repeat walk_at "rd"
    exact k
end
end K34

set_option Elab.async false
set_option linter.all false
set_option maxRecDepth 100000
set_option maxHeartbeats 4000000
namespace K34
open L2 PyProof.Rows PySem.Spec PySem G58
local macro_rules | `(tactic| walk_at "rd") => `(tactic| first
  | (with_reducible refine i_seq ?_)
  | ((with_reducible refine' i_var ?rdh ?_); (case rdh => exact rfl))
  | (with_reducible refine i_c ?_)
  | (with_reducible refine i_op ?_)
  | (with_reducible refine i_I0 ?_)
  | (with_reducible refine i_set ?_)
  | (with_reducible refine i_ret ?_)
  | (with_reducible refine i_cons ?_)
  | (with_reducible refine i_nil ?_)
  | (with_reducible refine i_cb ?_)
  | (with_reducible refine i_call ?_)
  | (with_reducible refine i_tup ?_)
  | (with_reducible refine i_lst ?_)
  | (with_reducible refine i_ifS ?_)
  | (with_reducible refine i_test ?_)
  | (with_reducible refine i_B ?_)
  | (with_reducible refine i_bl ?_)
  | (with_reducible refine i_isN ?_)
  | (with_reducible refine i_notN ?_)
  | (with_reducible refine i_andV ?_)
  | (with_reducible refine i_orV ?_)
  | (with_reducible refine i_notV ?_)
  | (with_reducible refine i_and ?_)
  | (with_reducible refine i_or ?_)
  | (with_reducible refine i_not ?_)
  | (with_reducible refine i_if ?_)
  | (with_reducible refine i_par ?_)
  | (with_reducible refine i_par2 ?_)
  | (with_reducible refine i_drop ?_)
  | (with_reducible refine i_next ?_)
  | (with_reducible refine i_retN ?_)
  | (with_reducible refine i_iteT ?_)
  | (with_reducible refine i_iteF ?_)
  | (with_reducible refine i_un ?_)
  | (with_reducible refine i_U ?_)
  | (with_reducible refine i_isiII ?_)
  | (with_reducible refine i_isiIB ?_)
  | (with_reducible refine i_nT ?_)
  | (with_reducible refine i_nF ?_)
  | (with_reducible refine i_p10_4 ?_)
  | (with_reducible refine i_p10_9 ?_)
  | (with_reducible refine i_p10_18 ?_)
  | (with_reducible refine i_p10_20 ?_)
  | (with_reducible refine i_p10_30 ?_)
  | (with_reducible refine i_p10_40 ?_)
  | (with_reducible refine i_p10_58 ?_)
  | (with_reducible refine i_p10_60 ?_)
  | (with_reducible refine i_p10_61 ?_)
  | (with_reducible refine i_p10_64 ?_)
  | (with_reducible refine i_ex1 ?_)
  | (with_reducible refine i_ex2 ?_)
  | (with_reducible refine i_toI ?_)
  | (with_reducible refine i_toB ?_)
  | ((with_reducible refine' i_ixL ?rdh ?rda ?_); (case rdh => exact SqL.of (by assumption)); (case rda => exact rfl))
  | ((with_reducible refine' i_ixT ?rdh ?rda ?_); (case rdh => exact SqT.of (by assumption)); (case rda => exact rfl))
  | (with_reducible refine i_mulR ⟨by decide, by decide⟩ ?_)
  | (with_reducible refine i_mulL ⟨by decide, by decide⟩ ?_)
  | (with_reducible refine i_mod (by decide) ?_)
  | (with_reducible refine i_div ⟨by decide, by decide⟩ ?_)
  | ((with_reducible refine' i_gtup ?rdh ?rdl ?_); (case rdh => exact SqT.of (by assumption)); (case rdl => exact rfl))
  | (with_reducible refine i_gcons ?_)
  | (with_reducible refine i_gnil ?_)
  | (with_reducible refine i_gname ?_)
  | (with_reducible refine i_gsub ?_)
  | (with_reducible refine i_bm ?_)
  | (with_reducible refine i_bm0 ?_)
  | ((with_reducible refine' i_tyL ?rdh ?_); (case rdh => assumption))
  | (with_reducible refine i_for ?_)
  | (with_reducible refine i_itup ?_)
  | (with_reducible refine i_ilist ?_)
  | (with_reducible refine i_irng1 ?_)
  | (with_reducible refine i_irng2 ?_)
  | (with_reducible refine i_lc ?_)
  | (with_reducible refine i_yes ?_)
  | (with_reducible refine i_asg ?_)
  | dsimp only)
abbrev s_law_pot_of : Stmt := top 39
abbrev n_law_pot_of : List Str := ["_law_script", "_law_k", "_law_cell"]
theorem sc_law_pot_of : FnScope n_law_pot_of ["_law_script", "_law_k"] (defScope s_law_pot_of) := ⟨rfl, rfl, rfl, by decide +kernel, rfl, by decide +kernel, by decide +kernel⟩
abbrev s_law_draw : Stmt := top 40
abbrev n_law_draw : List Str := ["_law_pot", "_law_some", "_law_digit"]
theorem sc_law_draw : FnScope n_law_draw ["_law_pot", "_law_some"] (defScope s_law_draw) := ⟨rfl, rfl, rfl, by decide +kernel, rfl, by decide +kernel, by decide +kernel⟩
abbrev s_law_pick : Stmt := top 41
abbrev n_law_pick : List Str := ["_law_pot", "_law_some"]
theorem sc_law_pick : FnScope n_law_pick ["_law_pot", "_law_some"] (defScope s_law_pick) := ⟨rfl, rfl, rfl, by decide +kernel, rfl, by decide +kernel, by decide +kernel⟩
/-- the two numbers that draws are made of -/
def Pot (H : Hp) (p : Addr) : Prop := ∃ x y : Int, H p = some (.lst [.int x, .int y]) ∧ 0 ≤ x ∧ 0 ≤ y ∧ y < 2147483700
theorem Pot.same {H H' : Hp} {p : Addr} (h : Pot H p) (s : Same H H') : Pot H' p := let ⟨x, y, e, r⟩ := h; ⟨x, y, s _ _ e, r⟩
def spPotOf (K : PySem.W.Frag) : Sp := fun vs H Q _ => ∃ (a : Addr) (k : Int) (ns : List Int), vs = [.ref a, .int k] ∧ SqL K H a (ns.map V.int) ∧ 0 ≤ k ∧ k < 1000 ∧
  ∀ p H', H p = none → Same H H' → Pot H' p → Q (.ref p) H'
def spDraw : Sp := fun vs H Q _ => ∃ (p : Addr) (m : Int), vs = [.ref p, .int m] ∧ Pot H p ∧ 0 < m ∧ m.natAbs.log2 < 9000 ∧
  ∀ (d : Int) H', 0 ≤ d → d < m → Ext p H H' → Pot H' p → Q (.int d) H'
def spPick (K : PySem.W.Frag) : Sp := fun vs H Q _ => ∃ (p l : Addr) (xs : List V), vs = [.ref p, .ref l] ∧ Pot H p ∧ H l = some (.lst xs) ∧ l ≠ p ∧ 0 < xs.length ∧ xs.length ≤ 1000 ∧
  ∀ v H', v ∈ xs → Ext p H H' → Pot H' p → Q v H'
section
variable {P : Program} {w : World} {K : PySem.W.Frag} {mg : Str → Option Value} {base : Heap} {f : Addr} {fd : FuncData}
theorem ok_pot_of (F : Fun K "_law_pot_of" "_law_pot_of" s_law_pot_of f fd) (T : Blt mg) : FnOk P w K mg base CX0 1 f fd ["_law_script", "_law_k"] (spPotOf K) := by
  refine F.ok sc_law_pot_of (fun vs H Q E h => ?_) (fun cdv A outer s H vs Q E hr h => ?_)
  · obtain ⟨a, k, ns, rfl, _⟩ := h
    rfl
  · obtain ⟨a, k, ns, rfl, hS, h0, h1, kk⟩ := h
    refine ⟨_, (pss_cons (ps_set (i := 2) sc_law_pot_of.nd rfl (Or.inl rfl) (pe_ifExp (pt_cmpR op_lt (pv 1) (pe_callB call_len_seq (by rfl) T.b_len (by decide +kernel) (pa_cons (pv 0) pa_nil)) (nomark _)) (pe_ix ix_list (pv 0) (pv 1) (fun _ _ => rfl)) (pe_op op_add (pe_op op_mul pe_int (pv 1)) pe_int)))
      (pss_one (ps_ret (pe_lstN (pa_cons (pe_callB (call_max2 rfl) (by rfl) T.b_max (by decide +kernel) (pa_cons pe_int (pa_cons (pe_op op_sub (pe_callB call_abs (by rfl) T.b_abs (by decide +kernel) (pa_cons (pv 2) pa_nil)) (pe_op op_pow pe_int pe_int)) pa_nil))) (pa_cons (pe_op op_add (pe_op op_mod (pe_callTy call_int1 (by rfl) T.b_int (by decide +kernel) (pa_cons (pe_op op_add (pe_op op_add (pe_op op_mul (pe_op op_mod (pe_callTy call_int1 (by rfl) T.b_int (by decide +kernel) (pa_cons (pe_callB call_abs (by rfl) T.b_abs (by decide +kernel) (pa_cons (pv 2) pa_nil)) pa_nil)) pe_int) pe_int) (pe_op op_mul pe_int (pv 1))) pe_int) pa_nil)) pe_int) pe_int) pa_nil)))))), ?_⟩
    have fin : ∀ c : Int, New H (.lst [.int (if (if c < 0 then -c else c) - 1000000000000000000 > 0 then (if c < 0 then -c else c) - 1000000000000000000 else 0), .int ((((if c < 0 then -c else c) % 2147483563 * 40009 + 61297 * k + 23) % 2147483629) + 1)]) Q := by
      intro c q H1 nq s1 hq
      refine kk q _ nq s1 ⟨_, _, hq, ?_, ?_, ?_⟩
      · split <;> omega
      · omega
      · omega
    repeat walk_at "rd"
    refine i_lenL hS ?_
    repeat walk_at "rd"
    by_cases c : k < ((ns.map V.int).length : Int)
    · rw [decide_eq_true c]
      repeat walk_at "rd"
      have hl : k.toNat < ns.length := by rw [List.length_map] at c; omega
      refine i_ixL (v := .int ns[k.toNat]) hS ?_ ?_
      · rw [atI_in h0 (by rw [List.length_map]; exact hl), List.getElem_map]
      · repeat walk_at "rd"
        exact i_new rfl (fin ns[k.toNat])
    · rw [decide_eq_false c]
      repeat walk_at "rd"
      exact i_new rfl (fin (9 * k + 23))
theorem ok_draw (F : Fun K "_law_draw" "_law_draw" s_law_draw f fd) (T : Blt mg) : FnOk P w K mg base CX0 1 f fd ["_law_pot", "_law_some"] spDraw := by
  refine F.ok sc_law_draw (fun vs H Q E h => ?_) (fun cdv A outer s H vs Q E hr h => ?_)
  · obtain ⟨p, m, rfl, _⟩ := h
    rfl
  · obtain ⟨p, m, rfl, ⟨x, y, hp, hx, hy, hy2⟩, hm, hm2, k⟩ := h
    refine ⟨_, (pss_cons (ps_if (pt_cmpR op_gt (pe_ix ix_list (pv 0) pe_int (fun _ _ => rfl)) pe_int (nomark _))
        (pss_cons (ps_asg (pe_callB call_dm (by rfl) T.b_divmod (by decide +kernel) (pa_cons (pe_ix ix_list (pv 0) pe_int (fun _ _ => rfl)) (pa_cons (pv 1) pa_nil))) (pg_tup (by rfl) (pgs_cons (pg_sub (pv 0) pe_int set_list) (pgs_cons (pg_name (i := 2) sc_law_draw.nd rfl (by first | exact Or.inl rfl | exact Or.inr rfl)) pgs_nil))))
        (pss_one (ps_ret (pv 2))))
        pss_nil)
      (pss_cons (ps_asg (pe_op op_mod (pe_callTy call_int1 (by rfl) T.b_int (by decide +kernel) (pa_cons (pe_op op_add (pe_op op_mul (pe_ix ix_list (pv 0) pe_int (fun _ _ => rfl)) pe_int) pe_int) pa_nil)) pe_int) (pg_sub (pv 0) pe_int set_list))
      (pss_one (ps_ret (pe_op op_mod (pe_callTy call_int1 (by rfl) T.b_int (by decide +kernel) (pa_cons (pe_op op_fdiv (pe_op op_mod (pe_callTy call_int1 (by rfl) T.b_int (by decide +kernel) (pa_cons (pe_op op_mul (pe_ix ix_list (pv 0) pe_int (fun _ _ => rfl)) (pe_ix ix_list (pv 0) pe_int (fun _ _ => rfl))) pa_nil)) pe_int) pe_int) pa_nil)) (pv 1)))))), ?_⟩
    repeat walk_at "rd"
    by_cases c : 0 < x
    · rw [decide_eq_true c]
      repeat walk_at "rd"
      refine ⟨x, m, rfl, hm, hm2, fun q H1 nq s1 hq => ?_⟩
      have hp1 := s1 _ _ hp
      repeat walk_at "rd"
      refine i_setH (ys := [.int (x / m), .int y]) hp1 rfl rfl (fun H2 e2 hp2 => ?_)
      repeat walk_at "rd"
      exact k _ _ (Int.emod_nonneg _ (by omega)) (Int.emod_lt_of_pos _ hm) ((Ext.same s1).trans e2) ⟨_, _, hp2, Int.ediv_nonneg hx (by omega), hy, hy2⟩
    · rw [decide_eq_false c]
      repeat walk_at "rd"
      generalize hz : (y * 44203 + 15511) % 2147483587 = z
      have z0 : 0 ≤ z := by omega
      have z1 : z < 2147483587 := by omega
      refine i_setH (ys := [.int x, .int z]) hp rfl rfl (fun H1 e hp1 => ?_)
      repeat walk_at "rd"
      refine i_mulL ⟨by omega, by omega⟩ ?_
      repeat walk_at "rd"
      refine i_mod hm ?_
      exact k _ _ (Int.emod_nonneg _ (by omega)) (Int.emod_lt_of_pos _ hm) e ⟨_, _, hp1, hx, z0, by omega⟩
theorem ok_pick (F : Fun K "_law_pick" "_law_pick" s_law_pick f fd) (T : Blt mg) (D__law_draw : Dn P w K mg base 1 "_law_draw" spDraw) : FnOk P w K mg base CX0 2 f fd ["_law_pot", "_law_some"] (spPick K) := by
  refine F.ok sc_law_pick (fun vs H Q E h => ?_) (fun cdv A outer s H vs Q E hr h => ?_)
  · obtain ⟨p, l, xs, rfl, _⟩ := h
    rfl
  · obtain ⟨p, l, xs, rfl, hp, hl, ne, h0, h1, k⟩ := h
    refine ⟨_, (pss_one (ps_ret (pe_ix ix_list (pv 1) (pe_cl D__law_draw (hr.mono (by decide)) (pa_cons (pv 0) (pa_cons (pe_callB call_len_seq (by rfl) T.b_len (by decide +kernel) (pa_cons (pv 1) pa_nil)) pa_nil))) (fun _ _ => rfl)))), ?_⟩
    repeat walk_at "rd"
    refine i_lenL (SqL.of hl) ?_
    repeat walk_at "rd"
    refine ⟨p, (xs.length : Int), rfl, hp, by omega, ?_, fun d H1 d0 d1 e1 hp1 => ?_⟩
    · refine Nat.lt_of_le_of_lt (Nat.log2_le_self _) ?_
      omega
    · have hd : d.toNat < xs.length := by omega
      refine i_ixL (v := xs[d.toNat]) (SqL.of (e1 l _ ne hl)) ?_ ?_
      · exact atI_in d0 hd
      · exact k _ _ (List.getElem_mem _) e1 hp1
end
end K34

set_option Elab.async false
set_option linter.all false
set_option maxRecDepth 100000
set_option maxHeartbeats 4000000
namespace K34
open L2 PyProof.Rows PySem.Spec PySem G58 SlX KXM
local macro_rules | `(tactic| walk_at "rd") => `(tactic| first
  | (with_reducible refine i_seq ?_)
  | ((with_reducible refine' i_var ?rdh ?_); (case rdh => exact rfl))
  | (with_reducible refine i_c ?_)
  | (with_reducible refine i_op ?_)
  | (with_reducible refine i_I0 ?_)
  | (with_reducible refine i_set ?_)
  | (with_reducible refine i_ret ?_)
  | (with_reducible refine i_cons ?_)
  | (with_reducible refine i_nil ?_)
  | (with_reducible refine i_cb ?_)
  | (with_reducible refine i_call ?_)
  | (with_reducible refine i_tup ?_)
  | (with_reducible refine i_lst ?_)
  | (with_reducible refine i_ifS ?_)
  | (with_reducible refine i_test ?_)
  | (with_reducible refine i_B ?_)
  | (with_reducible refine i_bl ?_)
  | (with_reducible refine i_isN ?_)
  | (with_reducible refine i_notN ?_)
  | (with_reducible refine i_andV ?_)
  | (with_reducible refine i_orV ?_)
  | (with_reducible refine i_notV ?_)
  | (with_reducible refine i_and ?_)
  | (with_reducible refine i_or ?_)
  | (with_reducible refine i_not ?_)
  | (with_reducible refine i_if ?_)
  | (with_reducible refine i_par ?_)
  | (with_reducible refine i_par2 ?_)
  | (with_reducible refine i_drop ?_)
  | (with_reducible refine i_next ?_)
  | (with_reducible refine i_retN ?_)
  | (with_reducible refine i_iteT ?_)
  | (with_reducible refine i_iteF ?_)
  | (with_reducible refine i_un ?_)
  | (with_reducible refine i_U ?_)
  | (with_reducible refine i_isiII ?_)
  | (with_reducible refine i_isiIB ?_)
  | (with_reducible refine i_nT ?_)
  | (with_reducible refine i_nF ?_)
  | (with_reducible refine i_p10_4 ?_)
  | (with_reducible refine i_p10_9 ?_)
  | (with_reducible refine i_p10_18 ?_)
  | (with_reducible refine i_p10_20 ?_)
  | (with_reducible refine i_p10_30 ?_)
  | (with_reducible refine i_p10_40 ?_)
  | (with_reducible refine i_p10_58 ?_)
  | (with_reducible refine i_p10_60 ?_)
  | (with_reducible refine i_p10_61 ?_)
  | (with_reducible refine i_p10_64 ?_)
  | (with_reducible refine i_ex1 ?_)
  | (with_reducible refine i_ex2 ?_)
  | (with_reducible refine i_toI ?_)
  | (with_reducible refine i_toB ?_)
  | ((with_reducible refine' i_ixL ?rdh ?rda ?_); (case rdh => exact SqL.of (by assumption)); (case rda => exact rfl))
  | ((with_reducible refine' i_ixT ?rdh ?rda ?_); (case rdh => exact SqT.of (by assumption)); (case rda => exact rfl))
  | (with_reducible refine i_mulR ⟨by decide, by decide⟩ ?_)
  | (with_reducible refine i_mulL ⟨by decide, by decide⟩ ?_)
  | (with_reducible refine i_mod (by decide) ?_)
  | (with_reducible refine i_div ⟨by decide, by decide⟩ ?_)
  | ((with_reducible refine' i_gtup ?rdh ?rdl ?_); (case rdh => exact SqT.of (by assumption)); (case rdl => exact rfl))
  | (with_reducible refine i_gcons ?_)
  | (with_reducible refine i_gnil ?_)
  | (with_reducible refine i_gname ?_)
  | (with_reducible refine i_gsub ?_)
  | (with_reducible refine i_bm ?_)
  | (with_reducible refine i_bm0 ?_)
  | ((with_reducible refine' i_tyL ?rdh ?_); (case rdh => assumption))
  | (with_reducible refine i_for ?_)
  | (with_reducible refine i_itup ?_)
  | (with_reducible refine i_ilist ?_)
  | (with_reducible refine i_irng1 ?_)
  | (with_reducible refine i_irng2 ?_)
  | (with_reducible refine i_lc ?_)
  | (with_reducible refine i_yes ?_)
  | (with_reducible refine i_asg ?_)
  | dsimp only)
abbrev s_Many___init : Stmt := inClass (top 31) 2
abbrev n_Many___init : List Str := ["self", "least", "most"]
theorem sc_Many___init : FnScope n_Many___init ["self", "least", "most"] (defScope s_Many___init) := ⟨rfl, rfl, rfl, by decide +kernel, rfl, by decide +kernel, by decide +kernel⟩
abbrev s_Many_least : Stmt := inClass (top 31) 3
abbrev n_Many_least : List Str := ["self"]
theorem sc_Many_least : FnScope n_Many_least ["self"] (defScope s_Many_least) := ⟨rfl, rfl, rfl, by decide +kernel, rfl, by decide +kernel, by decide +kernel⟩
abbrev s_Many_most : Stmt := inClass (top 31) 4
abbrev n_Many_most : List Str := ["self"]
theorem sc_Many_most : FnScope n_Many_most ["self"] (defScope s_Many_most) := ⟨rfl, rfl, rfl, by decide +kernel, rfl, by decide +kernel, by decide +kernel⟩
def optV : Option Int → V
  | none => .non
  | some i => .int i
/-- a Many from p to q stands at a -/
def MA (C : Addr) (H : Hp) (a : Addr) (p : Int) (q : Option Int) : Prop := ∃ dx t vs, Slt H a C dx vs ∧ vs[0]? = some (some (.int p)) ∧ vs[1]? = some (some (optV q)) ∧
  vs[2]? = some (some (.ref t)) ∧ H t = some (.tup [.int p, .int (if q = none then 1 else 0), .int (q.getD 0)])
theorem MA.same {C : Addr} {H H' : Hp} {a : Addr} {p : Int} {q : Option Int} (h : MA C H a p q) (s : Same H H') : MA C H' a p q := by
  obtain ⟨dx, t, vs, h1, h2, h3, h4, h5⟩ := h
  refine ⟨dx, t, vs, ?_, h2, h3, h4, s _ _ h5⟩
  rcases h1 with ⟨z1, z2⟩ | ⟨z1, z2⟩
  · exact .inl ⟨s _ _ z1, z2⟩
  · exact .inr ⟨s _ _ z1, s _ _ z2⟩
/-- no list of the law's is a part of it -/
theorem MA.ext {C : Addr} {H H' : Hp} {a p0 : Addr} {p : Int} {q : Option Int} {xs : List V} (h : MA C H a p q) (hp : H p0 = some (.lst xs)) (e : Ext p0 H H') : MA C H' a p q := by
  obtain ⟨dx, t, vs, h1, h2, h3, h4, h5⟩ := h
  have no : ∀ {b o}, H b = some o → (∀ xs, o ≠ .lst xs) → H' b = some o := fun {b o} z n => e b o (fun w => by rw [w, hp] at z; exact n xs (Option.some.inj z).symm) z
  refine ⟨dx, t, vs, ?_, h2, h3, h4, no h5 (fun _ z => nomatch z)⟩
  rcases h1 with ⟨z1, z2⟩ | ⟨z1, z2⟩
  · exact .inl ⟨no z1 (fun _ z => nomatch z), z2⟩
  · exact .inr ⟨no z1 (fun _ z => by unfold SlO at z; cases z), no z2 (fun _ z => nomatch z)⟩
def Okq (p : Int) (q : Option Int) : Prop := 0 ≤ p ∧ ∀ z, q = some z → p ≤ z
/-- what the walk asks of the class -/
structure MTxt (K : PySem.W.Frag) (mg : Str → Option Value) (C p0 p1 p2 pl pm gl gm : Addr) : Prop where
  gC : mg "Many" = some (.ref C)
  sc : SCls K C
  isi : SIsi K C
  s0 : Slot1 K C "own_least" p0 0
  s1 : Slot1 K C "own_most" p1 1
  s2 : Slot1 K C "own_place" p2 2
  a_least : PySem.W.findIn K (.ref C) "least" = some (some (.ref pl))
  p_least : PySem.W.specialIn K (.ref pl) "__get__" = some (some (.builtin "property.__get__"))
  t_least : PySem.W.takesIn K (.ref pl) = some true
  r_least : ∃ rest, PySem.W.recIn K pl "property" = some (.ref gl :: rest)
  a_most : PySem.W.findIn K (.ref C) "most" = some (some (.ref pm))
  p_most : PySem.W.specialIn K (.ref pm) "__get__" = some (some (.builtin "property.__get__"))
  t_most : PySem.W.takesIn K (.ref pm) = some true
  r_most : ∃ rest, PySem.W.recIn K pm "property" = some (.ref gm :: rest)
/-- built-in names and the class -/
structure TM (K : PySem.W.Frag) (mg : Str → Option Value) (C p0 p1 p2 pl pm gl gm : Addr) : Prop extends Blt mg where
  many : MTxt K mg C p0 p1 p2 pl pm gl gm
def spInit (C : Addr) : Sp := fun vs H Q _ => ∃ (x dx : Addr) (p : Int) (q : Option Int), vs = [.ref x, .int p, optV q] ∧ dx ≠ x ∧ H x = some (.ins C dx []) ∧ Okq p q ∧
  ∀ H', (∀ b o, b ≠ x → b ≠ dx → H b = some o → H' b = some o) → MA C H' x p q → Q .non H'
def spLeast (C : Addr) : Sp := fun vs H Q _ => ∃ (a : Addr) (p : Int) (q : Option Int), vs = [.ref a] ∧ MA C H a p q ∧ Q (.int p) H
def spMost (C : Addr) : Sp := fun vs H Q _ => ∃ (a : Addr) (p : Int) (q : Option Int), vs = [.ref a] ∧ MA C H a p q ∧ Q (optV q) H
section
variable {A B : Prop} {i : Int}
theorem i_NT (h : B) : if (!decide (V.non = V.non)) = true then A else B := iteF (by simpa using h)
theorem i_NF (h : A) : if (!decide (V.int i = V.non)) = true then A else B := iteT (by simpa using h)
theorem i_YT (h : A) : if decide (V.non = V.non) = true then A else B := iteT (by simpa using h)
theorem i_YF (h : B) : if decide (V.int i = V.non) = true then A else B := iteF (by simpa using h)
end
/-- the store of a slot -/
theorem i_sl {K : PySem.W.Frag} {ta tv : TE} {f : Str} {nx bk ct : L2.St → Hp → Prop} {rt : VK} {σ : L2.St} {H : Hp} (h : tv σ H fun y H1 => ta σ H1 fun x H2 => ∃ a C dx p vs i, x = .ref a ∧ Slt H2 a C dx vs ∧ SCls K C ∧ Slot1 K C f p i ∧ nx σ (slH H2 a C dx (putS i y vs))) :
    sSl K ta tv f (Ends.mk nx rt bk ct) σ H := h
theorem i_slput {K : PySem.W.Frag} {f : Str} {a C dx p : Addr} {vs ws : List (Option V)} {i : Nat} {y : V} {H : Hp} {R : Hp → Prop} (h : Slt H a C dx vs) (c : SCls K C) (s : Slot1 K C f p i) (ne : dx ≠ a) (e : putS i y vs = ws)
    (q : ∀ H', (∀ b o, b ≠ a → b ≠ dx → H b = some o → H' b = some o) → Slt H' a C dx ws → R H') :
    ∃ a' C dx p vs i, V.ref a = .ref a' ∧ Slt H a' C dx vs ∧ SCls K C ∧ Slot1 K C f p i ∧ R (slH H a' C dx (putS i y vs)) :=
  ⟨a, C, dx, p, vs, i, rfl, h, c, s, q _ (fun b o n1 n2 z => by rw [slH_ne n1 n2]; exact z) (by rw [e]; exact slH_slt ne)⟩
theorem i_slget {K : PySem.W.Frag} {ta : TE} {f : Str} {σ : L2.St} {H : Hp} {Q : VK} (h : ta σ H fun x H1 => ∃ a C dx p vs i v, x = .ref a ∧ Slt H1 a C dx vs ∧ SCls K C ∧ Slot1 K C f p i ∧ vs[i]? = some (some v) ∧ Q v H1) : SlX.tSl K ta f σ H Q := h
section
variable {P : Program} {w : World} {K : PySem.W.Frag} {mg : Str → Option Value} {base : Heap} {f : Addr} {fd : FuncData} {C p0 p1 p2 pl pm gl gm : Addr}
theorem ok_init (F : FunD K "__init__" "Many.__init__" (defArgs s_Many___init) (defBody s_Many___init) (defScope s_Many___init) [.non] [] f fd) (T : TM K mg C p0 p1 p2 pl pm gl gm) (D_want_count : Dn P w K mg base 3 "want_count" spWant) :
    FnOk P w K mg base CX0 4 f fd ["self", "least", "most"] (spInit C) := by
  refine F.ok sc_Many___init (fun vs H Q E h => ?_) (fun cdv A outer s H vs Q E hr h => ?_)
  · obtain ⟨x, dx, p, q, rfl, _⟩ := h
    rfl
  · obtain ⟨x, dx, p, q, rfl, ne, hx, ⟨o1, o2⟩, k⟩ := h
    refine ⟨_, (PSs.nox (pss_cons (ps_expr (pe_cl D_want_count (hr.mono (by decide)) (pa_cons (pv 1) pa_nil)))
      (pss_cons (ps_if (pt_cmp (pc_notN (pv 2)))
        (pss_cons (ps_expr (pe_cl D_want_count (hr.mono (by decide)) (pa_cons (pv 2) pa_nil)))
        (pss_one (ps_if (pt_cmpR op_lt (pv 2) (pv 1) (nomark _))
          (pss_one ps_never)
          pss_nil)))
        pss_nil)
      (pss_cons (SlX.ps_sl (pv 0) (pv 1))
      (pss_cons (SlX.ps_sl (pv 0) (pv 2))
      (pss_one (SlX.ps_sl (pv 0) (pe_tupN (pa_cons (pv 1) (pa_cons (pe_callTy call_int1 (by rfl) T.b_int (by decide +kernel) (pa_cons (pe_cmp (pc_isN (pv 2))) pa_nil)) (pa_cons (pe_ifExp (pt_cmp (pc_isN (pv 2))) pe_int (pv 2)) pa_nil))))))))))), ?_⟩
    have fin : ∀ {H2 H3 : Hp} {t : Addr}, (∀ b o, b ≠ x → b ≠ dx → H b = some o → H2 b = some o) → Slt H2 x C dx [some (.int p), some (optV q)] → Same H2 H3 → H2 t = none →
        H3 t = some (.tup [.int p, .int (if q = none then 1 else 0), .int (q.getD 0)]) → Q .non (slH H3 x C dx (putS 2 (.ref t) [some (.int p), some (optV q)])) := by
      intro H2 H3 t e2 z2 s3 nt ht
      have fr : t ≠ x ∧ t ≠ dx := by
        rcases z2 with ⟨y1, y2⟩ | ⟨y1, y2⟩
        · cases y2
        · exact ⟨Ne.symm (ne_of_none y1 nt), Ne.symm (ne_of_none y2 nt)⟩
      refine k _ (fun b o n1 n2 e => by rw [slH_ne n1 n2]; exact s3 _ _ (e2 b o n1 n2 e)) ⟨dx, t, _, slH_slt ne, ?_, ?_, ?_, by rw [slH_ne fr.1 fr.2]; exact ht⟩
      · rfl
      · rfl
      · rfl
    cases q with
    | none =>
      dsimp only [optV]
      repeat walk_at "rd"
      refine ⟨p, rfl, o1, ?_⟩
      repeat walk_at "rd"
      refine i_NT ?_
      repeat walk_at "rd"
      refine i_sl ?_
      repeat walk_at "rd"
      refine i_slput (.inl ⟨hx, rfl⟩) T.many.sc T.many.s0 ne (ws := [some (.int p)]) rfl fun H1 e1 z1 => ?_
      refine i_seq (i_sl ?_)
      repeat walk_at "rd"
      refine i_slput z1 T.many.sc T.many.s1 ne (ws := [some (.int p), some .non]) rfl fun H2 e2 z2 => ?_
      refine i_sl ?_
      repeat walk_at "rd"
      refine i_YT ?_
      repeat walk_at "rd"
      refine i_new rfl fun t H3 nt s3 ht => ?_
      repeat walk_at "rd"
      refine ⟨x, C, dx, _, _, _, rfl, ?_, T.many.sc, T.many.s2, fin (fun b o n1 n2 e => e2 b o n1 n2 (e1 b o n1 n2 e)) z2 s3 nt ht⟩
      rcases z2 with ⟨y1, y2⟩ | ⟨y1, y2⟩
      · exact .inl ⟨s3 _ _ y1, y2⟩
      · exact .inr ⟨s3 _ _ y1, s3 _ _ y2⟩
    | some z =>
      have o3 := o2 z rfl
      dsimp only [optV]
      repeat walk_at "rd"
      refine ⟨p, rfl, o1, ?_⟩
      repeat walk_at "rd"
      refine i_NF ?_
      repeat walk_at "rd"
      refine ⟨z, rfl, by omega, ?_⟩
      repeat walk_at "rd"
      rw [decide_eq_false (show ¬ z < p by omega)]
      repeat walk_at "rd"
      refine i_sl ?_
      repeat walk_at "rd"
      refine i_slput (.inl ⟨hx, rfl⟩) T.many.sc T.many.s0 ne (ws := [some (.int p)]) rfl fun H1 e1 z1 => ?_
      refine i_seq (i_sl ?_)
      repeat walk_at "rd"
      refine i_slput z1 T.many.sc T.many.s1 ne (ws := [some (.int p), some (.int z)]) rfl fun H2 e2 z2 => ?_
      refine i_sl ?_
      repeat walk_at "rd"
      refine i_YF ?_
      repeat walk_at "rd"
      refine i_new rfl fun t H3 nt s3 ht => ?_
      repeat walk_at "rd"
      refine ⟨x, C, dx, _, _, _, rfl, ?_, T.many.sc, T.many.s2, fin (fun b o n1 n2 e => e2 b o n1 n2 (e1 b o n1 n2 e)) z2 s3 nt ht⟩
      rcases z2 with ⟨y1, y2⟩ | ⟨y1, y2⟩
      · exact .inl ⟨s3 _ _ y1, y2⟩
      · exact .inr ⟨s3 _ _ y1, s3 _ _ y2⟩
theorem ok_least (F : Fun K "least" "Many.least" s_Many_least f fd) (T : TM K mg C p0 p1 p2 pl pm gl gm) : FnOk P w K mg base CX0 1 f fd ["self"] (spLeast C) := by
  refine F.ok sc_Many_least (fun vs H Q E h => ?_) (fun cdv A outer s H vs Q E hr h => ?_)
  · obtain ⟨a, p, q, rfl, _⟩ := h
    rfl
  · obtain ⟨a, p, q, rfl, ⟨dx, t, vs, h1, h2, h3, h4⟩, k⟩ := h
    refine ⟨_, (pss_one (ps_ret (SlX.pe_sl (pv 0)))), ?_⟩
    repeat walk_at "rd"
    refine i_slget ?_
    repeat walk_at "rd"
    exact ⟨a, C, dx, _, vs, _, _, rfl, h1, T.many.sc, T.many.s0, h2, k⟩
theorem ok_most (F : Fun K "most" "Many.most" s_Many_most f fd) (T : TM K mg C p0 p1 p2 pl pm gl gm) : FnOk P w K mg base CX0 1 f fd ["self"] (spMost C) := by
  refine F.ok sc_Many_most (fun vs H Q E h => ?_) (fun cdv A outer s H vs Q E hr h => ?_)
  · obtain ⟨a, p, q, rfl, _⟩ := h
    rfl
  · obtain ⟨a, p, q, rfl, ⟨dx, t, vs, h1, h2, h3, h4⟩, k⟩ := h
    refine ⟨_, (pss_one (ps_ret (SlX.pe_sl (pv 0)))), ?_⟩
    repeat walk_at "rd"
    refine i_slget ?_
    repeat walk_at "rd"
    exact ⟨a, C, dx, _, vs, _, _, rfl, h1, T.many.sc, T.many.s1, h3, k⟩
end
end K34

set_option Elab.async false
set_option linter.all false
set_option maxRecDepth 100000
set_option maxHeartbeats 4000000
namespace K34
open L2 PyProof.Rows PySem.Spec PySem G58 SlX KXM
local macro_rules | `(tactic| walk_at "rd") => `(tactic| first
  | (with_reducible refine i_seq ?_)
  | ((with_reducible refine' i_var ?rdh ?_); (case rdh => exact rfl))
  | (with_reducible refine i_c ?_)
  | (with_reducible refine i_op ?_)
  | (with_reducible refine i_I0 ?_)
  | (with_reducible refine i_set ?_)
  | (with_reducible refine i_ret ?_)
  | (with_reducible refine i_cons ?_)
  | (with_reducible refine i_nil ?_)
  | (with_reducible refine i_cb ?_)
  | (with_reducible refine i_call ?_)
  | (with_reducible refine i_tup ?_)
  | (with_reducible refine i_lst ?_)
  | (with_reducible refine i_ifS ?_)
  | (with_reducible refine i_test ?_)
  | (with_reducible refine i_B ?_)
  | (with_reducible refine i_bl ?_)
  | (with_reducible refine i_isN ?_)
  | (with_reducible refine i_notN ?_)
  | (with_reducible refine i_andV ?_)
  | (with_reducible refine i_orV ?_)
  | (with_reducible refine i_notV ?_)
  | (with_reducible refine i_and ?_)
  | (with_reducible refine i_or ?_)
  | (with_reducible refine i_not ?_)
  | (with_reducible refine i_if ?_)
  | (with_reducible refine i_par ?_)
  | (with_reducible refine i_par2 ?_)
  | (with_reducible refine i_drop ?_)
  | (with_reducible refine i_next ?_)
  | (with_reducible refine i_retN ?_)
  | (with_reducible refine i_iteT ?_)
  | (with_reducible refine i_iteF ?_)
  | (with_reducible refine i_un ?_)
  | (with_reducible refine i_U ?_)
  | (with_reducible refine i_isiII ?_)
  | (with_reducible refine i_isiIB ?_)
  | (with_reducible refine i_nT ?_)
  | (with_reducible refine i_nF ?_)
  | (with_reducible refine i_p10_4 ?_)
  | (with_reducible refine i_p10_9 ?_)
  | (with_reducible refine i_p10_18 ?_)
  | (with_reducible refine i_p10_20 ?_)
  | (with_reducible refine i_p10_30 ?_)
  | (with_reducible refine i_p10_40 ?_)
  | (with_reducible refine i_p10_58 ?_)
  | (with_reducible refine i_p10_60 ?_)
  | (with_reducible refine i_p10_61 ?_)
  | (with_reducible refine i_p10_64 ?_)
  | (with_reducible refine i_ex1 ?_)
  | (with_reducible refine i_ex2 ?_)
  | (with_reducible refine i_toI ?_)
  | (with_reducible refine i_toB ?_)
  | ((with_reducible refine' i_ixL ?rdh ?rda ?_); (case rdh => exact SqL.of (by assumption)); (case rda => exact rfl))
  | ((with_reducible refine' i_ixT ?rdh ?rda ?_); (case rdh => exact SqT.of (by assumption)); (case rda => exact rfl))
  | (with_reducible refine i_mulR ⟨by decide, by decide⟩ ?_)
  | (with_reducible refine i_mulL ⟨by decide, by decide⟩ ?_)
  | (with_reducible refine i_mod (by decide) ?_)
  | (with_reducible refine i_div ⟨by decide, by decide⟩ ?_)
  | ((with_reducible refine' i_gtup ?rdh ?rdl ?_); (case rdh => exact SqT.of (by assumption)); (case rdl => exact rfl))
  | (with_reducible refine i_gcons ?_)
  | (with_reducible refine i_gnil ?_)
  | (with_reducible refine i_gname ?_)
  | (with_reducible refine i_gsub ?_)
  | (with_reducible refine i_bm ?_)
  | (with_reducible refine i_bm0 ?_)
  | ((with_reducible refine' i_tyL ?rdh ?_); (case rdh => assumption))
  | (with_reducible refine i_for ?_)
  | (with_reducible refine i_itup ?_)
  | (with_reducible refine i_ilist ?_)
  | (with_reducible refine i_irng1 ?_)
  | (with_reducible refine i_irng2 ?_)
  | (with_reducible refine i_lc ?_)
  | (with_reducible refine i_yes ?_)
  | (with_reducible refine i_asg ?_)
  | dsimp only)
structure MkM (P : Program) (w : World) (K : PySem.W.Frag) (mg : Str → Option Value) (base : Heap) (C : Addr) : Prop where
  ex : ∃ (fI : Addr) (fd : FuncData), Mk K C fI ∧ FnOk P w K mg base CX0 4 fI fd ["self", "least", "most"] (spInit C) ∧ Binds K fd ["self", "least", "most"] [] ∧ ∃ ds, Vals [.non] ds ∧ Binds K fd ["self", "least", "most"] ds
def ManyOk (C : Addr) (vs : List V) (H : Hp) (Q : VK) : Prop := ∃ (p : Int) (q : Option Int), vs = [.int p, optV q] ∧ Okq p q ∧ ∀ m H', H m = none → Same H H' → MA C H' m p q → Q (.ref m) H'
def tMkM (C : Addr) (dvs : List V) (t : TA) : TE := tMake C (spInit C) dvs E0 (moA t)
theorem i_mkM {C : Addr} {dvs : List V} {t : TA} {σ : L2.St} {H : Hp} {Q : VK} (h : t σ H fun vs H1 => ManyOk C (vs ++ dvs) H1 Q) : tMkM C dvs t σ H Q := by
  refine ⟨_, h, fun vs H1 z => ?_⟩
  obtain ⟨p, q, e, o, k⟩ := z
  intro x dx nx ndx ne
  refine ⟨x, dx, p, q, by rw [e], ne, upd_same, o, fun H' e' m => ⟨rfl, k x H' nx (fun b o hb => ?_) m⟩⟩
  have n1 := ne_of_none hb nx
  have n2 := ne_of_none hb ndx
  exact e' b o n1 n2 (by rw [upd_ne n1, upd_ne n2]; exact hb)
section
variable {X : Cx} {C : Addr} {e : Expr} {es : List Expr} {t : TA} {p pos : Pos}
theorem pe_mk1 (M : MkM X.prog X.w X.K X.mg X.base C) (hm : X.mg "Many" = some (.ref C)) (hr : Room 5 X.A) (ha : PA X (e :: es) t) (hg : Gl X "Many" := by rfl)
    (he : starEach (e :: es) X.env = (false, eval e X.env) :: starEach es X.env := by rfl) (hpl : (backTo pos (starEach es X.env)).any (·.1) = false := by rfl) :
    PE X (.Call (.Name "Many" p) (e :: es) [] pos) (tMkM C [.non] t) := by
  obtain ⟨fI, fd, mk, F, b0, ds, r, b1⟩ := M.ex
  exact pe_make mk F hr hg hm b1 r pass0 (pa_mo ha) (by decide) he hpl
theorem pe_mk2 (M : MkM X.prog X.w X.K X.mg X.base C) (hm : X.mg "Many" = some (.ref C)) (hr : Room 5 X.A) (ha : PA X (e :: es) t) (hg : Gl X "Many" := by rfl)
    (he : starEach (e :: es) X.env = (false, eval e X.env) :: starEach es X.env := by rfl) (hpl : (backTo pos (starEach es X.env)).any (·.1) = false := by rfl) :
    PE X (.Call (.Name "Many" p) (e :: es) [] pos) (tMkM C [] t) := by
  obtain ⟨fI, fd, mk, F, b0, ds, r, b1⟩ := M.ex
  exact pe_make mk F hr hg hm b0 .nil pass0 (pa_mo ha) (by decide) he hpl
end
section
variable {C : Addr} {ta : TE} {σ : L2.St} {H : Hp} {Q : VK} {sp : Sp} {E : XK} {a : Addr} {p : Int} {q : Option Int}
theorem i_prop (h : ta σ H fun x H1 => ∃ a dx vs, x = .ref a ∧ Slt H1 a C dx vs ∧ sp [.ref a] H1 Q E) : tPropSl C sp E ta σ H Q := h
theorem i_pl (h : MA C H a p q) (k : Q (.int p) H) : ∃ a' dx vs, V.ref a = .ref a' ∧ Slt H a' C dx vs ∧ spLeast C [.ref a'] H Q E :=
  let ⟨dx, _, vs, h1, _⟩ := id h; ⟨a, dx, vs, rfl, h1, a, p, q, rfl, h, k⟩
theorem i_pmS {y : Int} (h : MA C H a p (some y)) (k : Q (.int y) H) : ∃ a' dx vs, V.ref a = .ref a' ∧ Slt H a' C dx vs ∧ spMost C [.ref a'] H Q E :=
  let ⟨dx, _, vs, h1, _⟩ := id h; ⟨a, dx, vs, rfl, h1, a, p, _, rfl, h, k⟩
theorem i_pmN (h : MA C H a p none) (k : Q .non H) : ∃ a' dx vs, V.ref a = .ref a' ∧ Slt H a' C dx vs ∧ spMost C [.ref a'] H Q E :=
  let ⟨dx, _, vs, h1, _⟩ := id h; ⟨a, dx, vs, rfl, h1, a, p, _, rfl, h, k⟩
theorem i_pm (h : MA C H a p q) (k : Q (optV q) H) : ∃ a' dx vs, V.ref a = .ref a' ∧ Slt H a' C dx vs ∧ spMost C [.ref a'] H Q E :=
  let ⟨dx, _, vs, h1, _⟩ := id h; ⟨a, dx, vs, rfl, h1, a, p, q, rfl, h, k⟩
end
local macro_rules | `(tactic| walk_at "rm") => `(tactic| first
  | walk_at "rd"
  | (with_reducible refine i_prop ?_)
  | ((with_reducible refine' i_pl ?rdh ?_); (case rdh => assumption))
  | ((with_reducible refine' i_pmS ?rdh ?_); (case rdh => assumption))
  | ((with_reducible refine' i_pmN ?rdh ?_); (case rdh => assumption))
  | ((with_reducible refine' i_pm ?rdh ?_); (case rdh => assumption))
  | (with_reducible refine i_mkM ?_)
  | (with_reducible refine i_NT ?_)
  | (with_reducible refine i_NF ?_)
  | (with_reducible refine i_YT ?_)
  | (with_reducible refine i_YF ?_))
/-- bounded by so many bits, from 0 on -/
def Bd (n : Nat) (i : Int) : Prop := 0 ≤ i ∧ i < 2 ^ n
theorem Bd.abs {n : Nat} {i : Int} (h : Bd n i) : i.natAbs < 2 ^ n := by
  have h2 : i < ((2 ^ n : Nat) : Int) := by
    have := h.2
    rw [Int.natCast_pow]
    exact this
  have := h.1
  omega
theorem Bd.mono {n m : Nat} {i : Int} (h : Bd n i) (e : n ≤ m) : Bd m i := by
  refine ⟨h.1, Int.lt_of_lt_of_le h.2 ?_⟩
  exact_mod_cast Nat.pow_le_pow_right (by decide) e
theorem Bd.mul {n m : Nat} {i j : Int} (h : Bd n i) (h' : Bd m j) : Bd (n + m) (i * j) := by
  refine ⟨Int.mul_nonneg h.1 h'.1, ?_⟩
  have := wide_lt h.abs h'.abs
  have z := Int.mul_nonneg h.1 h'.1
  have e : ((i * j).natAbs : Int) = i * j := by omega
  rw [← e]
  exact_mod_cast this
theorem bmul {n m : Nat} {i j : Int} (h : Bd n i) (h' : Bd m j) (a : 0 < n) (b : 0 < m) (c : n + m ≤ 1000000) : CMulW i j := wide_mul h.abs h'.abs a b c
theorem i_mulW {n m : Nat} {g : Int → Int → V} {i j : Int} {H : Hp} {Q : VK} (h : Bd n i) (h' : Bd m j) (q : Q (g i j) H) (a : decide (0 < n ∧ 0 < m ∧ n + m ≤ 1000000) = true := by rfl) : rI CMulW g (.int i) (.int j) H Q :=
  let ⟨a1, a2, a3⟩ := of_decide_eq_true a; i_I (bmul h h' a1 a2 a3) q
/-- sizes and numbers of partners, as far as they come -/
abbrev Sz := Bd 300
abbrev Nm := Bd 100
structure Nq (p : Int) (q : Option Int) : Prop where
  ok : Okq p q
  bp : Nm p
  bq : ∀ z, q = some z → Nm z
abbrev s_wrong_line : Stmt := top 35
abbrev n_wrong_line : List Str := ["near", "near_many", "far", "far_many"]
theorem sc_wrong_line : FnScope n_wrong_line ["near", "near_many", "far", "far_many"] (defScope s_wrong_line) := ⟨rfl, rfl, rfl, by decide +kernel, rfl, by decide +kernel, by decide +kernel⟩
abbrev s_totals_between : Stmt := top 36
abbrev n_totals_between : List Str := ["near", "near_many", "far", "far_many", "tops"]
theorem sc_totals_between : FnScope n_totals_between ["near", "near_many", "far", "far_many"] (defScope s_totals_between) := ⟨rfl, rfl, rfl, by decide +kernel, rfl, by decide +kernel, by decide +kernel⟩
abbrev s_totals : Stmt := top 37
abbrev n_totals : List Str := ["near", "near_many", "far", "far_many", "size", "many"]
theorem sc_totals : FnScope n_totals ["near", "near_many", "far", "far_many"] (defScope s_totals) := ⟨rfl, rfl, rfl, by decide +kernel, rfl, by decide +kernel, by decide +kernel⟩
def spWrong (C : Addr) : Sp := fun vs H Q _ => ∃ (a b : Int) (m1 m2 : Addr) (p r : Int) (q s : Option Int), vs = [.int a, .ref m1, .int b, .ref m2] ∧ MA C H m1 p q ∧ MA C H m2 r s ∧ Nq p q ∧ Nq r s ∧ Sz a ∧ Sz b ∧
  ∀ v, (bad a p q b r s = true → v ≠ .non) → (bad a p q b r s = false → v = .non) → Q v H
section
variable {P : Program} {w : World} {K : PySem.W.Frag} {mg : Str → Option Value} {base : Heap} {f : Addr} {fd : FuncData} {C p0 p1 p2 pl pm gl gm : Addr}
theorem ok_wrong (F : Fun K "wrong_line" "wrong_line" s_wrong_line f fd) (T : TM K mg C p0 p1 p2 pl pm gl gm) (D_least : FnR P w K mg base CX0 1 gl (spLeast C)) (D_most : FnR P w K mg base CX0 1 gm (spMost C)) :
    FnOk P w K mg base CX0 3 f fd ["near", "near_many", "far", "far_many"] (spWrong C) := by
  refine F.ok sc_wrong_line (fun vs H Q E h => ?_) (fun cdv A outer s H vs Q E hr h => ?_)
  · obtain ⟨a, b, m1, m2, p, r, q, z, rfl, _⟩ := h
    rfl
  · obtain ⟨a, b, m1, m2, p, r, q, z, rfl, M1, M2, N1, N2, ha, hb, k⟩ := h
    refine ⟨_, (pss_cons (ps_if (PW.pt (pw_and (pt_cmp (pc_notN (pe_propSl (E := E0) (pv 3) T.many.sc T.many.a_most T.many.p_most T.many.t_most T.many.r_most D_most (hr.mono (by decide)) (fun _ _ _ _ z => z)))) (pw_and1 (pt_cmpR op_lt (pe_op op_mulW (pv 2) (pe_propSl (E := E0) (pv 3) T.many.sc T.many.a_most T.many.p_most T.many.t_most T.many.r_most D_most (hr.mono (by decide)) (fun _ _ _ _ z => z))) (pe_op op_mulW (pv 0) (pe_propSl (E := E0) (pv 1) T.many.sc T.many.a_least T.many.p_least T.many.t_least T.many.r_least D_least (hr.mono (by decide)) (fun _ _ _ _ z => z))) (nomark _)))))
        (pss_one (ps_ret pe_int))
        pss_nil)
      (pss_cons (ps_if (PW.pt (pw_and (pt_cmp (pc_notN (pe_propSl (E := E0) (pv 1) T.many.sc T.many.a_most T.many.p_most T.many.t_most T.many.r_most D_most (hr.mono (by decide)) (fun _ _ _ _ z => z)))) (pw_and1 (pt_cmpR op_lt (pe_op op_mulW (pv 0) (pe_propSl (E := E0) (pv 1) T.many.sc T.many.a_most T.many.p_most T.many.t_most T.many.r_most D_most (hr.mono (by decide)) (fun _ _ _ _ z => z))) (pe_op op_mulW (pv 2) (pe_propSl (E := E0) (pv 3) T.many.sc T.many.a_least T.many.p_least T.many.t_least T.many.r_least D_least (hr.mono (by decide)) (fun _ _ _ _ z => z))) (nomark _)))))
        (pss_one (ps_ret pe_int))
        pss_nil)
      (pss_cons (ps_if (PW.pt (pw_and (pt_cmpR op_gt (pv 0) pe_int (nomark _)) (pw_and1 (pt_cmpR op_lt (pv 2) (pe_propSl (E := E0) (pv 1) T.many.sc T.many.a_least T.many.p_least T.many.t_least T.many.r_least D_least (hr.mono (by decide)) (fun _ _ _ _ z => z)) (nomark _)))))
        (pss_one (ps_ret pe_int))
        pss_nil)
      (pss_one (ps_ret (pe_ifExp (PW.pt (pw_and (pt_cmpR op_gt (pv 2) pe_int (nomark _)) (pw_and1 (pt_cmpR op_lt (pv 0) (pe_propSl (E := E0) (pv 3) T.many.sc T.many.a_least T.many.p_least T.many.t_least T.many.r_least D_least (hr.mono (by decide)) (fun _ _ _ _ z => z)) (nomark _))))) pe_int pe_non)))))), ?_⟩
    have two : Nm p := N1.bp
    have two' : Nm r := N2.bp
    refine i_seq (i_ifT (ltO z b (a * p)) (fun QT g => ?_) (fun e1 => ?_) (fun e1 => ?_))
    · cases z with
      | none =>
        repeat walk_at "rm"
        exact g
      | some y =>
        have by_ := N2.bq y rfl
        repeat walk_at "rm"
        refine i_mulW hb by_ ?_
        repeat walk_at "rm"
        refine i_mulW ha two ?_
        repeat walk_at "rm"
        exact g
    · repeat walk_at "rm"
      exact k _ (fun _ => nofun) (fun h2 => by unfold bad at h2; rw [e1] at h2; simp at h2)
    refine i_next (i_seq (i_ifT (ltO q a (b * r)) (fun QT g => ?_) (fun e2 => ?_) (fun e2 => ?_)))
    · cases q with
      | none =>
        repeat walk_at "rm"
        exact g
      | some y =>
        have by_ := N1.bq y rfl
        repeat walk_at "rm"
        refine i_mulW ha by_ ?_
        repeat walk_at "rm"
        refine i_mulW hb two' ?_
        repeat walk_at "rm"
        exact g
    · repeat walk_at "rm"
      exact k _ (fun _ => nofun) (fun h2 => by unfold bad at h2; rw [e2] at h2; simp at h2)
    refine i_next (i_seq (i_ifT (decide (0 < a) && decide (b < p)) (fun QT g => ?_) (fun e3 => ?_) (fun e3 => ?_)))
    · repeat walk_at "rm"
      cases c : decide (0 < a) with
      | true =>
        rw [c] at g
        repeat walk_at "rm"
        exact g
      | false =>
        rw [c] at g
        repeat walk_at "rm"
        exact g
    · repeat walk_at "rm"
      exact k _ (fun _ => nofun) (fun h2 => by unfold bad at h2; rw [e3] at h2; simp at h2)
    refine i_next (i_ret (i_ifE (decide (0 < b) && decide (a < r)) (fun QT g => ?_) (fun e4 => ?_) (fun e4 => ?_)))
    · repeat walk_at "rm"
      cases c : decide (0 < b) with
      | true =>
        rw [c] at g
        repeat walk_at "rm"
        exact g
      | false =>
        rw [c] at g
        repeat walk_at "rm"
        exact g
    · repeat walk_at "rm"
      exact k _ (fun _ => nofun) (fun h2 => by unfold bad at h2; rw [e4] at h2; simp at h2)
    · repeat walk_at "rm"
      exact k _ (fun h2 => by unfold bad at h2; rw [e1, e2, e3, e4] at h2; simp at h2) (fun _ => rfl)
def part (a : Int) (q : Option Int) : List Int := match q with | none => [] | some z => [a * z]
/-- a result: no totals, or a tuple of two -/
def ResT (H : Hp) (v : V) : Option (Int × Int) → Prop
  | none => v = .non
  | some (x, y) => ∃ t, v = .ref t ∧ H t = some (.tup [.int x, .int y])
theorem ResT.same {H H' : Hp} {v : V} {o : Option (Int × Int)} (h : ResT H v o) (s : Same H H') : ResT H' v o := by
  match o, h with
  | none, h => exact h
  | some (x, y), ⟨t, e, h⟩ => exact ⟨t, e, s _ _ h⟩
def spBetween (C : Addr) : Sp := fun vs H Q _ => ∃ (a b : Int) (m1 m2 : Addr) (p r : Int) (q s : Option Int), vs = [.int a, .ref m1, .int b, .ref m2] ∧ MA C H m1 p q ∧ MA C H m2 r s ∧ Nq p q ∧ Nq r s ∧ Sz a ∧ Sz b ∧
  ∀ t H', Same H H' → H' t = some (.tup [.int (if b * r > a * p then b * r else a * p), .int (mnl (tops a q b s))]) → Q (.ref t) H'
def spTotals (C : Addr) : Sp := fun vs H Q _ => ∃ (a b : Int) (m1 m2 : Addr) (p r : Int) (q s : Option Int), vs = [.int a, .ref m1, .int b, .ref m2] ∧ MA C H m1 p q ∧ MA C H m2 r s ∧ Nq p q ∧ Nq r s ∧ Sz a ∧ Sz b ∧
  ∀ v H', Same H H' → ResT H' v (tot a p q b r s) → Q v H'
theorem ok_between (F : Fun K "totals_between" "totals_between" s_totals_between f fd) (T : TM K mg C p0 p1 p2 pl pm gl gm) (D_least : FnR P w K mg base CX0 1 gl (spLeast C)) (D_most : FnR P w K mg base CX0 1 gm (spMost C)) :
    FnOk P w K mg base CX0 3 f fd ["near", "near_many", "far", "far_many"] (spBetween C) := by
  refine F.ok sc_totals_between (fun vs H Q E h => ?_) (fun cdv A outer s H vs Q E hr h => ?_)
  · obtain ⟨a, b, m1, m2, p, r, q, z, rfl, _⟩ := h
    rfl
  · obtain ⟨a, b, m1, m2, p, r, q, z, rfl, M1, M2, N1, N2, ha, hb, k⟩ := h
    refine ⟨_, (pss_cons (ps_set (i := 4) sc_totals_between.nd rfl (Or.inl rfl) (pe_lstN (pa_cons (pe_op op_mulW (pv 0) (pv 2)) pa_nil)))
      (pss_cons (ps_if (pt_cmp (pc_notN (pe_propSl (E := E0) (pv 1) T.many.sc T.many.a_most T.many.p_most T.many.t_most T.many.r_most D_most (hr.mono (by decide)) (fun _ _ _ _ z => z))))
        (pss_one (ps_expr (pe_bm PySem.F.plainAttrs_list PySem.F.slot_list_append PySem.F.type_list_append mt_append (pv 4) (pa_cons (pe_op op_mulW (pv 0) (pe_propSl (E := E0) (pv 1) T.many.sc T.many.a_most T.many.p_most T.many.t_most T.many.r_most D_most (hr.mono (by decide)) (fun _ _ _ _ z => z))) pa_nil))))
        pss_nil)
      (pss_cons (ps_if (pt_cmp (pc_notN (pe_propSl (E := E0) (pv 3) T.many.sc T.many.a_most T.many.p_most T.many.t_most T.many.r_most D_most (hr.mono (by decide)) (fun _ _ _ _ z => z))))
        (pss_one (ps_expr (pe_bm PySem.F.plainAttrs_list PySem.F.slot_list_append PySem.F.type_list_append mt_append (pv 4) (pa_cons (pe_op op_mulW (pv 2) (pe_propSl (E := E0) (pv 3) T.many.sc T.many.a_most T.many.p_most T.many.t_most T.many.r_most D_most (hr.mono (by decide)) (fun _ _ _ _ z => z))) pa_nil))))
        pss_nil)
      (pss_one (ps_ret (pe_tupN (pa_cons (pe_callB (call_max2 rfl) (by rfl) T.b_max (by decide +kernel) (pa_cons (pe_op op_mulW (pv 0) (pe_propSl (E := E0) (pv 1) T.many.sc T.many.a_least T.many.p_least T.many.t_least T.many.r_least D_least (hr.mono (by decide)) (fun _ _ _ _ z => z))) (pa_cons (pe_op op_mulW (pv 2) (pe_propSl (E := E0) (pv 3) T.many.sc T.many.a_least T.many.p_least T.many.t_least T.many.r_least D_least (hr.mono (by decide)) (fun _ _ _ _ z => z))) pa_nil))) (pa_cons (pe_callB (cr_min rfl) (by rfl) T.b_min (by decide +kernel) (pa_cons (pv 4) pa_nil)) pa_nil)))))))), ?_⟩
    have bp : Nm p := N1.bp
    have br : Nm r := N2.bp
    repeat walk_at "rm"
    refine i_mulW ha hb ?_
    repeat walk_at "rm"
    refine i_new rfl fun l H1 nl s1 hl => ?_
    replace M1 := M1.same s1
    replace M2 := M2.same s1
    refine i_seq (i_ifJ (decide (q ≠ none)) (fun H' => Ext l H1 H' ∧ H' l = some (.lst (((a * b) :: part a q).map V.int))) (fun QT g => ?_) (fun e nx' g => ?_) (fun e nx' g => ?_) ?_)
    · cases q <;> (repeat walk_at "rm") <;> exact g
    · cases q with
      | none => simp at e
      | some y =>
        have by_ := N1.bq y rfl
        repeat walk_at "rm"
        refine i_mulW ha by_ ?_
        repeat walk_at "rm"
        refine i_append hl (by simp) fun H2 e2 h2 => ?_
        exact g H2 ⟨e2, h2⟩
    · cases q with
      | none =>
        repeat walk_at "rm"
        exact g H1 ⟨Ext.refl _ _, hl⟩
      | some y => simp at e
    rintro H2 ⟨e2, hl2⟩
    replace M1 := M1.ext hl e2
    replace M2 := M2.ext hl e2
    have s2 : Same H H2 := same_ext s1 nl e2
    refine i_seq (i_ifJ (decide (z ≠ none)) (fun H' => Ext l H2 H' ∧ H' l = some (.lst ((tops a q b z).map V.int))) (fun QT g => ?_) (fun e nx' g => ?_) (fun e nx' g => ?_) ?_)
    · cases z <;> (repeat walk_at "rm") <;> exact g
    · cases z with
      | none => simp at e
      | some y =>
        have by_ := N2.bq y rfl
        repeat walk_at "rm"
        refine i_mulW hb by_ ?_
        repeat walk_at "rm"
        refine i_append hl2 (by cases q <;> simp [part]) fun H3 e3 h3 => ?_
        refine g H3 ⟨e3, ?_⟩
        rw [h3]
        cases q <;> rfl
    · cases z with
      | none =>
        repeat walk_at "rm"
        refine g H2 ⟨Ext.refl _ _, ?_⟩
        rw [hl2]
        cases q <;> rfl
      | some y => simp at e
    rintro H3 ⟨e3, hl3⟩
    replace M1 := M1.ext hl2 e3
    replace M2 := M2.ext hl2 e3
    have s3 : Same H H3 := same_ext s2 nl e3
    repeat walk_at "rm"
    refine i_mulW ha bp ?_
    repeat walk_at "rm"
    refine i_mulW hb br ?_
    repeat walk_at "rm"
    refine ⟨l, tops a q b z, rfl, SqL.of hl3, by simp [tops], fun m hm1 hm2 => ?_⟩
    have em := mnl_is (by simp [tops]) hm1 hm2
    subst em
    repeat walk_at "rm"
    refine i_new rfl fun t H4 nt s4 ht => ?_
    exact k t H4 (s3.trans s4) ht
theorem kit_self (K : PySem.W.Frag) (C : Addr) : PySem.W.kitOne K (.ref C) (.ref C) = some true := by
  unfold PySem.W.kitOne
  rw [if_pos (by simp)]
theorem i_isiM {H : Hp} {Q : VK} {a : Addr} {p : Int} {q : Option Int} (T : MTxt K mg C p0 p1 p2 pl pm gl gm) (h : MA C H a p q) (k : Q (.bl true) H) : rIsiSl K (.ref C) [.ref a, .ref C] H Q :=
  let ⟨dx, _, vs, h1, _⟩ := h; ⟨a, C, dx, vs, .ref C, true, rfl, rfl, fun _ r => r, h1, T.sc, T.isi, kit_self K C, k⟩
theorem ok_totals (F : Fun K "totals" "totals" s_totals f fd) (T : TM K mg C p0 p1 p2 pl pm gl gm) (D_want_count : Dn P w K mg base 3 "want_count" spWant) (D_wrong_line : Dn P w K mg base 3 "wrong_line" (spWrong C)) (D_totals_between : Dn P w K mg base 3 "totals_between" (spBetween C)) :
    FnOk P w K mg base CX0 5 f fd ["near", "near_many", "far", "far_many"] (spTotals C) := by
  refine F.ok sc_totals (fun vs H Q E h => ?_) (fun cdv A outer s H vs Q E hr h => ?_)
  · obtain ⟨a, b, m1, m2, p, r, q, z, rfl, _⟩ := h
    rfl
  · obtain ⟨a, b, m1, m2, p, r, q, z, rfl, M1, M2, N1, N2, ha, hb, k⟩ := h
    refine ⟨_, (pss_cons (ps_for PassesOwn.never (by rfl) (pi_tup (pe_tupN (pa_cons (pe_tupN (pa_cons (pv 0) (pa_cons (pv 1) pa_nil))) (pa_cons (pe_tupN (pa_cons (pv 2) (pa_cons (pv 3) pa_nil))) pa_nil)))) (pg_tup (by rfl) (pgs_cons (pg_name (i := 4) sc_totals.nd rfl (by first | exact Or.inl rfl | exact Or.inr rfl)) (pgs_cons (pg_name (i := 5) sc_totals.nd rfl (by first | exact Or.inl rfl | exact Or.inr rfl)) pgs_nil)))
        (pss_cons (ps_expr (pe_cl D_want_count (hr.mono (by decide)) (pa_cons (pv 4) pa_nil)))
        (pss_one (ps_if (pt_not (pt_val (pe_callB (call_isiSl (.ref C)) (by rfl) T.b_isinstance (by decide +kernel) (pa_cons (pv 5) (pa_cons (pe_glob (v := .ref C) (by rfl) T.many.gC rfl) pa_nil)))))
          (pss_one ps_never)
          pss_nil))))
      (pss_cons (ps_if (pt_cmp (pc_notN (pe_cl D_wrong_line (hr.mono (by decide)) (pa_cons (pv 0) (pa_cons (pv 1) (pa_cons (pv 2) (pa_cons (pv 3) pa_nil)))))))
        (pss_one (ps_ret pe_non))
        pss_nil)
      (pss_one (ps_ret (pe_cl D_totals_between (hr.mono (by decide)) (pa_cons (pv 0) (pa_cons (pv 1) (pa_cons (pv 2) (pa_cons (pv 3) pa_nil))))))))), ?_⟩
    repeat walk_at "rm"
    refine i_new rfl fun t1 H1 n1 s1 h1 => ?_
    repeat walk_at "rm"
    refine i_new rfl fun t2 H2 n2 s2 h2 => ?_
    repeat walk_at "rm"
    refine i_new rfl fun t3 H3 n3 s3 h3 => ?_
    have s13 : Same H1 H3 := s2.trans s3
    replace h1 := s13 _ _ h1
    replace h2 := s3 _ _ h2
    have S : Same H H3 := s1.trans s13
    replace M1 := M1.same S
    replace M2 := M2.same S
    refine ⟨t3, rfl, ⟨_, SqT.of h3⟩, fTup (K := K) (a := t3) (xs := [.ref t1, .ref t2]) (fun i σ H' => H' = H3 ∧ ∃ u v, σ = [some (.int a), some (.ref m1), some (.int b), some (.ref m2), u, v]) ⟨rfl, _, _, rfl⟩ (fun i σ H' _ z => by rw [z.1]; exact SqT.of h3) ?_ ?_⟩
    · rintro i x σ H' hi ⟨rfl, u, v, rfl⟩
      obtain ⟨n, m, p', q', t, rfl, ht, hn, hm⟩ : ∃ n m p' q' t, x = .ref t ∧ H' t = some (.tup [.int n, .ref m]) ∧ 0 ≤ n ∧ MA C H' m p' q' := by
        match i, hi with
        | 0, hi => cases hi; exact ⟨a, m1, p, q, t1, rfl, h1, ha.1, M1⟩
        | 1, hi => cases hi; exact ⟨b, m2, r, z, t2, rfl, h2, hb.1, M2⟩
        | i + 2, hi => simp at hi
      repeat walk_at "rm"
      refine ⟨n, rfl, hn, ?_⟩
      repeat walk_at "rm"
      refine i_isiM T.many hm ?_
      repeat walk_at "rm"
      exact ⟨rfl, _, _, rfl⟩
    · rintro σ H' ⟨rfl, u, v, rfl⟩
      repeat walk_at "rm"
      refine ⟨a, b, m1, m2, p, r, q, z, rfl, M1, M2, N1, N2, ha, hb, fun v b1 b0 => ?_⟩
      cases c : bad a p q b r z with
      | true =>
        have nv := b1 c
        repeat walk_at "rm"
        rw [decide_eq_false nv]
        repeat walk_at "rm"
        refine k _ _ S ?_
        unfold tot
        rw [c]
        rfl
      | false =>
        have nv := b0 c
        subst nv
        repeat walk_at "rm"
        refine ⟨a, b, m1, m2, p, r, q, z, rfl, M1, M2, N1, N2, ha, hb, fun t H4 s4 ht => ?_⟩
        refine k _ _ (S.trans s4) ?_
        unfold tot
        rw [c]
        exact ⟨t, rfl, ht⟩
end
end K34

set_option Elab.async false
set_option linter.all false
set_option maxRecDepth 100000
set_option maxHeartbeats 4000000
namespace K34
open L2 PyProof.Rows PySem.Spec PySem G58 SlX KXM
local macro_rules | `(tactic| walk_at "rd") => `(tactic| first
  | (with_reducible refine i_seq ?_)
  | ((with_reducible refine' i_var ?rdh ?_); (case rdh => exact rfl))
  | (with_reducible refine i_c ?_)
  | (with_reducible refine i_op ?_)
  | (with_reducible refine i_I0 ?_)
  | (with_reducible refine i_set ?_)
  | (with_reducible refine i_ret ?_)
  | (with_reducible refine i_cons ?_)
  | (with_reducible refine i_nil ?_)
  | (with_reducible refine i_cb ?_)
  | (with_reducible refine i_call ?_)
  | (with_reducible refine i_tup ?_)
  | (with_reducible refine i_lst ?_)
  | (with_reducible refine i_ifS ?_)
  | (with_reducible refine i_test ?_)
  | (with_reducible refine i_B ?_)
  | (with_reducible refine i_bl ?_)
  | (with_reducible refine i_isN ?_)
  | (with_reducible refine i_notN ?_)
  | (with_reducible refine i_andV ?_)
  | (with_reducible refine i_orV ?_)
  | (with_reducible refine i_notV ?_)
  | (with_reducible refine i_and ?_)
  | (with_reducible refine i_or ?_)
  | (with_reducible refine i_not ?_)
  | (with_reducible refine i_if ?_)
  | (with_reducible refine i_par ?_)
  | (with_reducible refine i_par2 ?_)
  | (with_reducible refine i_drop ?_)
  | (with_reducible refine i_next ?_)
  | (with_reducible refine i_retN ?_)
  | (with_reducible refine i_iteT ?_)
  | (with_reducible refine i_iteF ?_)
  | (with_reducible refine i_un ?_)
  | (with_reducible refine i_U ?_)
  | (with_reducible refine i_isiII ?_)
  | (with_reducible refine i_isiIB ?_)
  | (with_reducible refine i_nT ?_)
  | (with_reducible refine i_nF ?_)
  | (with_reducible refine i_p10_4 ?_)
  | (with_reducible refine i_p10_9 ?_)
  | (with_reducible refine i_p10_18 ?_)
  | (with_reducible refine i_p10_20 ?_)
  | (with_reducible refine i_p10_30 ?_)
  | (with_reducible refine i_p10_40 ?_)
  | (with_reducible refine i_p10_58 ?_)
  | (with_reducible refine i_p10_60 ?_)
  | (with_reducible refine i_p10_61 ?_)
  | (with_reducible refine i_p10_64 ?_)
  | (with_reducible refine i_ex1 ?_)
  | (with_reducible refine i_ex2 ?_)
  | (with_reducible refine i_toI ?_)
  | (with_reducible refine i_toB ?_)
  | ((with_reducible refine' i_ixL ?rdh ?rda ?_); (case rdh => exact SqL.of (by assumption)); (case rda => exact rfl))
  | ((with_reducible refine' i_ixT ?rdh ?rda ?_); (case rdh => exact SqT.of (by assumption)); (case rda => exact rfl))
  | (with_reducible refine i_mulR ⟨by decide, by decide⟩ ?_)
  | (with_reducible refine i_mulL ⟨by decide, by decide⟩ ?_)
  | (with_reducible refine i_mod (by decide) ?_)
  | (with_reducible refine i_div ⟨by decide, by decide⟩ ?_)
  | ((with_reducible refine' i_gtup ?rdh ?rdl ?_); (case rdh => exact SqT.of (by assumption)); (case rdl => exact rfl))
  | (with_reducible refine i_gcons ?_)
  | (with_reducible refine i_gnil ?_)
  | (with_reducible refine i_gname ?_)
  | (with_reducible refine i_gsub ?_)
  | (with_reducible refine i_bm ?_)
  | (with_reducible refine i_bm0 ?_)
  | ((with_reducible refine' i_tyL ?rdh ?_); (case rdh => assumption))
  | (with_reducible refine i_for ?_)
  | (with_reducible refine i_itup ?_)
  | (with_reducible refine i_ilist ?_)
  | (with_reducible refine i_irng1 ?_)
  | (with_reducible refine i_irng2 ?_)
  | (with_reducible refine i_lc ?_)
  | (with_reducible refine i_yes ?_)
  | (with_reducible refine i_asg ?_)
  | dsimp only)
local macro_rules | `(tactic| walk_at "rm") => `(tactic| first
  | walk_at "rd"
  | (with_reducible refine i_prop ?_)
  | ((with_reducible refine' i_pl ?rdh ?_); (case rdh => assumption))
  | ((with_reducible refine' i_pmS ?rdh ?_); (case rdh => assumption))
  | ((with_reducible refine' i_pmN ?rdh ?_); (case rdh => assumption))
  | ((with_reducible refine' i_pm ?rdh ?_); (case rdh => assumption))
  | (with_reducible refine i_mkM ?_)
  | (with_reducible refine i_NT ?_)
  | (with_reducible refine i_NF ?_)
  | (with_reducible refine i_YT ?_)
  | (with_reducible refine i_YF ?_))
local macro_rules | `(tactic| walk_at "rt") => `(tactic| first
  | walk_at "rm"
  | (with_reducible refine i_fld ?_)
  | ((with_reducible refine' i_fldA ?rdh ?rdc ?rdn ?rdl ?_); (case rdh => assumption); (case rdc => assumption); (case rdn => assumption); (case rdl => exact rfl))
  | (with_reducible refine i_methR ?_)
  | ((with_reducible refine' i_mAt ?rdh ?rdl ?_); (case rdh => assumption); (case rdl => exact rfl))
  | (with_reducible refine i_sfld ?_)
  | (with_reducible refine i_gfld ?_)
  | (with_reducible refine i_eqS ?_)
  | (with_reducible refine i_isiSS ?_))
abbrev s_is_end : Stmt := top 17
abbrev n_is_end : List Str := ["value"]
theorem sc_is_end : FnScope n_is_end ["value"] (defScope s_is_end) := ⟨rfl, rfl, rfl, by decide +kernel, rfl, by decide +kernel, by decide +kernel⟩
abbrev s_is_count_under : Stmt := top 33
abbrev n_is_count_under : List Str := ["value", "limit"]
theorem sc_is_count_under : FnScope n_is_count_under ["value", "limit"] (defScope s_is_count_under) := ⟨rfl, rfl, rfl, by decide +kernel, rfl, by decide +kernel, by decide +kernel⟩
abbrev s_Table___init : Stmt := inClass (top 34) 0
abbrev n_Table___init : List Str := ["self", "near", "far", "total"]
theorem sc_Table___init : FnScope n_Table___init ["self", "near", "far", "total"] (defScope s_Table___init) := ⟨rfl, rfl, rfl, by decide +kernel, rfl, by decide +kernel, by decide +kernel⟩
abbrev s_Table_size_at : Stmt := inClass (top 34) 4
abbrev n_Table_size_at : List Str := ["self", "end"]
theorem sc_Table_size_at : FnScope n_Table_size_at ["self", "end"] (defScope s_Table_size_at) := ⟨rfl, rfl, rfl, by decide +kernel, rfl, by decide +kernel, by decide +kernel⟩
abbrev s_Table_want_row : Stmt := inClass (top 34) 5
abbrev n_Table_want_row : List Str := ["self", "end", "row"]
theorem sc_Table_want_row : FnScope n_Table_want_row ["self", "end", "row"] (defScope s_Table_want_row) := ⟨rfl, rfl, rfl, by decide +kernel, rfl, by decide +kernel, by decide +kernel⟩
abbrev s_Table_degree_at : Stmt := inClass (top 34) 8
abbrev n_Table_degree_at : List Str := ["self", "end", "row"]
theorem sc_Table_degree_at : FnScope n_Table_degree_at ["self", "end", "row"] (defScope s_Table_degree_at) := ⟨rfl, rfl, rfl, by decide +kernel, rfl, by decide +kernel, by decide +kernel⟩
abbrev s_Table_degree : Stmt := inClass (top 34) 12
abbrev n_Table_degree : List Str := ["self", "end", "row"]
theorem sc_Table_degree : FnScope n_Table_degree ["self", "end", "row"] (defScope s_Table_degree) := ⟨rfl, rfl, rfl, by decide +kernel, rfl, by decide +kernel, by decide +kernel⟩
/-- the two ends -/
def endS : Bool → Str
  | true => "near"
  | false => "far"
def many (n t : Int) : Int := if 0 < n then t / n else 0
def TBf (n f t m r : Int) : List (Str × V) := [("own_near", .int n), ("own_far", .int f), ("own_total", .int t), ("own_many", .int m), ("own_more", .int r)]
/-- a Table stands at a -/
def TB (CT : Addr) (H : Hp) (a : Addr) (n f t : Int) : Prop := ∃ dx, H a = some (.ins CT dx [("own_near", .int n), ("own_far", .int f), ("own_total", .int t), ("own_many", .int (many n t)), ("own_more", .int (t - many n t * n))])
theorem TB.same {CT : Addr} {H H' : Hp} {a : Addr} {n f t : Int} (h : TB CT H a n f t) (s : Same H H') : TB CT H' a n f t := let ⟨dx, z⟩ := h; ⟨dx, s _ _ z⟩
def deg (e : Bool) (n f t i : Int) : Int := match e with
  | true => many n t + (if i < t - many n t * n then 1 else 0)
  | false => t / f + (if i < t % f then 1 else 0)
def size (e : Bool) (n f : Int) : Int := match e with
  | true => n
  | false => f
structure TTxt (K : PySem.W.Frag) (mg : Str → Option Value) (CT gs gw ga gd : Addr) (un uf : Value) : Prop where
  gN : mg "NEAR" = some un
  rN : RelV (.str "near") un
  gF : mg "FAR" = some uf
  rF : RelV (.str "far") uf
  gT : mg "Table" = some (.ref CT)
  cls : Cls K CT
  n0 : NoAttr K CT "own_near"
  n1 : NoAttr K CT "own_far"
  n2 : NoAttr K CT "own_total"
  n3 : NoAttr K CT "own_many"
  n4 : NoAttr K CT "own_more"
  m_size_at : Meth K CT "size_at" gs
  m_want_row : Meth K CT "want_row" gw
  m_degree_at : Meth K CT "degree_at" ga
  m_degree : Meth K CT "degree" gd
structure TT (K : PySem.W.Frag) (mg : Str → Option Value) (C p0 p1 p2 pl pm gl gm CT gs gw ga gd : Addr) (un uf : Value) : Prop extends TM K mg C p0 p1 p2 pl pm gl gm where
  tab : TTxt K mg CT gs gw ga gd un uf
def spIsEnd : Sp := fun vs H Q _ => ∃ e : Bool, vs = [.str (endS e)] ∧ ∀ H', Same H H' → Q (.bl true) H'
def spUnder : Sp := fun vs H Q _ => ∃ i j : Int, vs = [.int i, .int j] ∧ 0 ≤ i ∧ Q (.bl (decide (i < j))) H
def spTInit (CT : Addr) : Sp := fun vs H Q _ => ∃ (x dx : Addr) (n f t : Int), vs = [.ref x, .int n, .int f, .int t] ∧ H x = some (.ins CT dx []) ∧ 0 ≤ n ∧ 0 ≤ f ∧ 0 ≤ t ∧ t ≤ n * f ∧ Sz n ∧ Sz f ∧
  ∀ H', Ext x H H' → TB CT H' x n f t → Q .non H'
def spSizeAt (CT : Addr) : Sp := fun vs H Q _ => ∃ (a : Addr) (n f t : Int) (e : Bool), vs = [.ref a, .str (endS e)] ∧ TB CT H a n f t ∧ ∀ H', Same H H' → Q (.int (size e n f)) H'
def spWantRow (CT : Addr) : Sp := fun vs H Q _ => ∃ (a : Addr) (n f t i : Int) (e : Bool), vs = [.ref a, .str (endS e), .int i] ∧ TB CT H a n f t ∧ 0 ≤ i ∧ i < size e n f ∧ ∀ H', Same H H' → Q .non H'
def spDegAt (CT : Addr) : Sp := fun vs H Q _ => ∃ (a : Addr) (n f t i : Int) (e : Bool), vs = [.ref a, .str (endS e), .int i] ∧ TB CT H a n f t ∧ (e = false → 0 < f) ∧ Sz f ∧ Q (.int (deg e n f t i)) H
def spDeg (CT : Addr) : Sp := fun vs H Q _ => ∃ (a : Addr) (n f t i : Int) (e : Bool), vs = [.ref a, .str (endS e), .int i] ∧ TB CT H a n f t ∧ 0 ≤ i ∧ i < size e n f ∧ Sz f ∧ ∀ H', Same H H' → Q (.int (deg e n f t i)) H'
section
variable {P : Program} {w : World} {K : PySem.W.Frag} {mg : Str → Option Value} {base : Heap} {f : Addr} {fd : FuncData} {C p0 p1 p2 pl pm gl gm CT gs gw ga gd : Addr} {un uf : Value}
theorem ok_is_end (F : Fun K "is_end" "is_end" s_is_end f fd) (T : TT K mg C p0 p1 p2 pl pm gl gm CT gs gw ga gd un uf) : FnOk P w K mg base CX0 1 f fd ["value"] spIsEnd := by
  refine F.ok sc_is_end (fun vs H Q E h => ?_) (fun cdv A outer s H vs Q E hr h => ?_)
  · obtain ⟨i, rfl, _⟩ := h
    rfl
  · obtain ⟨e, rfl, k⟩ := h
    refine ⟨_, (pss_one (ps_ret (pe_and (pe_callB call_isi (by rfl) T.b_isinstance (by decide +kernel) (pa_cons (pv 0) (pa_cons (pe_bltn (v := .ty "str") (u := .type "str") (by rfl) T.b_str (by decide +kernel) rfl) pa_nil))) (pe_one (pe_cmpR op_in_seq (pv 0) (pe_tupN (pa_cons (pe_glob (v := .str "near") (by rfl) T.tab.gN T.tab.rN) (pa_cons (pe_glob (v := .str "far") (by rfl) T.tab.gF T.tab.rF) pa_nil))) (by rfl)))))), ?_⟩
    repeat walk_at "rt"
    refine i_new rfl fun t H1 n1 s1 h1 => ?_
    refine i_inT (SqT.of h1) rfl rfl ?_
    cases e <;> exact k H1 s1
theorem ok_under (F : Fun K "is_count_under" "is_count_under" s_is_count_under f fd) (T : TT K mg C p0 p1 p2 pl pm gl gm CT gs gw ga gd un uf) (D_is_count : Dn P w K mg base 2 "is_count" spIsCount) : FnOk P w K mg base CX0 3 f fd ["value", "limit"] spUnder := by
  refine F.ok sc_is_count_under (fun vs H Q E h => ?_) (fun cdv A outer s H vs Q E hr h => ?_)
  · obtain ⟨i, j, rfl, _⟩ := h
    rfl
  · obtain ⟨i, j, rfl, h0, k⟩ := h
    refine ⟨_, (pss_one (ps_ret (pe_and (pe_cl D_is_count (hr.mono (by decide)) (pa_cons (pv 0) pa_nil)) (pe_one (pe_cmpR op_lt (pv 0) (pv 1) (nomark _)))))), ?_⟩
    repeat walk_at "rt"
    refine ⟨i, rfl, ?_⟩
    rw [decide_eq_true h0]
    repeat walk_at "rt"
    exact k
theorem ok_tinit (F : Fun K "__init__" "Table.__init__" s_Table___init f fd) (T : TT K mg C p0 p1 p2 pl pm gl gm CT gs gw ga gd un uf) (D_is_count : Dn P w K mg base 2 "is_count" spIsCount) (D_want_count : Dn P w K mg base 3 "want_count" spWant) :
    FnOk P w K mg base CX0 4 f fd ["self", "near", "far", "total"] (spTInit CT) := by
  refine F.ok sc_Table___init (fun vs H Q E h => ?_) (fun cdv A outer s H vs Q E hr h => ?_)
  · obtain ⟨x, dx, n, f, t, rfl, _⟩ := h
    rfl
  · obtain ⟨x, dx, n, f, t, rfl, hx, hn, hf, ht, htn, sn, sf, k⟩ := h
    refine ⟨_, (pss_cons (ps_expr (pe_cl D_want_count (hr.mono (by decide)) (pa_cons (pv 1) pa_nil)))
      (pss_cons (ps_expr (pe_cl D_want_count (hr.mono (by decide)) (pa_cons (pv 2) pa_nil)))
      (pss_cons (ps_if (PW.pt (pw_or (pt_not (pt_val (pe_cl D_is_count (hr.mono (by decide)) (pa_cons (pv 3) pa_nil)))) (pw_or1 (pt_cmpR op_gt (pv 3) (pe_op op_mulW (pv 1) (pv 2)) (nomark _)))))
        (pss_one ps_never)
        pss_nil)
      (pss_cons (ps_asg (pe_tupN (pa_cons (pv 1) (pa_cons (pv 2) (pa_cons (pv 3) pa_nil)))) (pg_tup (by rfl) (pgs_cons (pg_fld (pv 0)) (pgs_cons (pg_fld (pv 0)) (pgs_cons (pg_fld (pv 0)) pgs_nil)))))
      (pss_cons (ps_fld (pv 0) (pe_ifExp (pt_cmpR op_gt (pv 1) pe_int (nomark _)) (pe_op op_fdivW (pv 3) (pv 1)) pe_int) (by rfl))
      (pss_one (ps_fld (pv 0) (pe_op op_sub (pv 3) (pe_op op_mulW (pe_fld (pv 0) (by rfl)) (pv 1))) (by rfl)))))))), ?_⟩
    obtain ⟨_, _, _, _, _, cT, a0, a1, a2, a3, a4, _⟩ := T.tab
    repeat walk_at "rt"
    refine ⟨n, rfl, hn, ?_⟩
    repeat walk_at "rt"
    refine ⟨f, rfl, hf, ?_⟩
    repeat walk_at "rt"
    refine ⟨t, rfl, ?_⟩
    rw [decide_eq_true ht]
    repeat walk_at "rt"
    refine i_mulW sn sf ?_
    repeat walk_at "rt"
    rw [decide_eq_false (Int.not_lt.mpr htn)]
    repeat walk_at "rt"
    refine i_new rfl fun u H1 n1 s1 h1 => ?_
    replace hx := s1 _ _ hx
    repeat walk_at "rt"
    refine i_put hx T.tab.cls T.tab.n0 rfl rfl fun H2 e2 h2 => ?_
    repeat walk_at "rt"
    refine i_put h2 T.tab.cls T.tab.n1 rfl rfl fun H3 e3 h3 => ?_
    repeat walk_at "rt"
    refine i_put h3 T.tab.cls T.tab.n2 rfl rfl fun H4 e4 h4 => ?_
    repeat walk_at "rt"
    refine i_itB _ (fun e => ?_) (fun e => ?_)
    · have p0 : 0 < n := of_decide_eq_true e
      repeat walk_at "rt"
      refine i_fdivW (n := 300) p0 sn.abs ?_
      repeat walk_at "rt"
      refine i_put h4 T.tab.cls T.tab.n3 rfl rfl fun H5 e5 h5 => ?_
      repeat walk_at "rt"
      have bm : Bd 600 (t / n) := by
        refine ⟨Int.ediv_nonneg ht hn, Int.lt_of_le_of_lt (Int.ediv_le_self _ ht) ?_⟩
        exact Int.lt_of_le_of_lt htn (sn.mul sf).2
      refine i_mulW bm sn ?_
      repeat walk_at "rt"
      refine i_put h5 T.tab.cls T.tab.n4 rfl rfl fun H6 e6 h6 => ?_
      refine k H6 ((Ext.same s1).trans (e2.trans (e3.trans (e4.trans (e5.trans e6))))) ⟨dx, ?_⟩
      unfold many
      rw [if_pos p0]
      exact h6
    · have p0 : ¬ 0 < n := of_decide_eq_false e
      repeat walk_at "rt"
      refine i_put h4 T.tab.cls T.tab.n3 rfl rfl fun H5 e5 h5 => ?_
      repeat walk_at "rt"
      refine i_mulW (n := 1) ⟨by decide, by decide⟩ sn ?_
      repeat walk_at "rt"
      refine i_put h5 T.tab.cls T.tab.n4 rfl rfl fun H6 e6 h6 => ?_
      refine k H6 ((Ext.same s1).trans (e2.trans (e3.trans (e4.trans (e5.trans e6))))) ⟨dx, ?_⟩
      unfold many
      rw [if_neg p0]
      exact h6
theorem ok_size_at (F : Fun K "size_at" "Table.size_at" s_Table_size_at f fd) (T : TT K mg C p0 p1 p2 pl pm gl gm CT gs gw ga gd un uf) (D_is_end : Dn P w K mg base 1 "is_end" spIsEnd) : FnOk P w K mg base CX0 2 f fd ["self", "end"] (spSizeAt CT) := by
  refine F.ok sc_Table_size_at (fun vs H Q E h => ?_) (fun cdv A outer s H vs Q E hr h => ?_)
  · obtain ⟨a, n, f, t, e, rfl, _⟩ := h
    rfl
  · obtain ⟨a, n, f, t, e, rfl, hT, k⟩ := h
    refine ⟨_, (pss_cons (ps_if (pt_not (pt_val (pe_cl D_is_end (hr.mono (by decide)) (pa_cons (pv 1) pa_nil))))
        (pss_one ps_never)
        pss_nil)
      (pss_one (ps_ret (pe_ifExp (pt_cmpR op_eq (pv 1) pe_str (nomark _)) (pe_fld (pv 0) (by rfl)) (pe_fld (pv 0) (by rfl)))))), ?_⟩
    obtain ⟨_, _, _, _, _, cT, a0, a1, a2, a3, a4, _⟩ := T.tab
    repeat walk_at "rt"
    refine ⟨e, rfl, fun H1 s1 => ?_⟩
    obtain ⟨dx, h1⟩ := hT.same s1
    cases e
    · dsimp only [endS]
      repeat walk_at "rt"
      refine i_iteF ?_
      repeat walk_at "rt"
      exact k H1 s1
    · dsimp only [endS]
      repeat walk_at "rt"
      refine i_iteT ?_
      repeat walk_at "rt"
      exact k H1 s1
theorem ok_want_row (F : Fun K "want_row" "Table.want_row" s_Table_want_row f fd) (T : TT K mg C p0 p1 p2 pl pm gl gm CT gs gw ga gd un uf) (D_is_count_under : Dn P w K mg base 3 "is_count_under" spUnder) (D_size_at : FnR P w K mg base CX0 2 gs (spSizeAt CT)) :
    FnOk P w K mg base CX0 4 f fd ["self", "end", "row"] (spWantRow CT) := by
  refine F.ok sc_Table_want_row (fun vs H Q E h => ?_) (fun cdv A outer s H vs Q E hr h => ?_)
  · obtain ⟨a, n, f, t, i, e, rfl, _⟩ := h
    rfl
  · obtain ⟨a, n, f, t, i, e, rfl, hT, i0, i1, k⟩ := h
    refine ⟨_, (pss_one (ps_if (pt_not (pt_val (pe_cl D_is_count_under (hr.mono (by decide)) (pa_cons (pv 2) (pa_cons (pe_methR (E := E0) (pv 0) T.tab.cls T.tab.m_size_at D_size_at (hr.mono (by decide)) pass0 (pa_cons (pv 1) pa_nil)) pa_nil)))))
        (pss_one ps_never)
        pss_nil)), ?_⟩
    obtain ⟨_, _, _, _, _, cT, a0, a1, a2, a3, a4, _⟩ := T.tab
    obtain ⟨dx, h0⟩ := id hT
    repeat walk_at "rt"
    refine ⟨a, n, f, t, e, rfl, hT, fun H1 s1 => ?_⟩
    repeat walk_at "rt"
    refine ⟨i, _, rfl, i0, ?_⟩
    rw [decide_eq_true i1]
    repeat walk_at "rt"
    exact k H1 s1
theorem ok_degree_at (F : Fun K "degree_at" "Table.degree_at" s_Table_degree_at f fd) (T : TT K mg C p0 p1 p2 pl pm gl gm CT gs gw ga gd un uf) : FnOk P w K mg base CX0 1 f fd ["self", "end", "row"] (spDegAt CT) := by
  refine F.ok sc_Table_degree_at (fun vs H Q E h => ?_) (fun cdv A outer s H vs Q E hr h => ?_)
  · obtain ⟨a, n, f, t, i, e, rfl, _⟩ := h
    rfl
  · obtain ⟨a, n, f, t, i, e, rfl, hT, f0, sf, k⟩ := h
    refine ⟨_, (pss_cons (ps_if (pt_cmpR op_eq (pv 1) pe_str (nomark _))
        (pss_one (ps_ret (pe_op op_add (pe_fld (pv 0) (by rfl)) (pe_callTy call_int1 (by rfl) T.b_int (by decide +kernel) (pa_cons (pe_cmpR op_lt (pv 2) (pe_fld (pv 0) (by rfl)) (nomark _)) pa_nil)))))
        pss_nil)
      (pss_one (ps_ret (pe_op op_add (pe_op op_fdivW (pe_fld (pv 0) (by rfl)) (pe_fld (pv 0) (by rfl))) (pe_callTy call_int1 (by rfl) T.b_int (by decide +kernel) (pa_cons (pe_cmpR op_lt (pv 2) (pe_op op_mod (pe_fld (pv 0) (by rfl)) (pe_fld (pv 0) (by rfl))) (nomark _)) pa_nil)))))), ?_⟩
    obtain ⟨_, _, _, _, _, cT, a0, a1, a2, a3, a4, _⟩ := T.tab
    obtain ⟨dx, h0⟩ := id hT
    cases e
    · dsimp only [endS]
      have f0 := f0 rfl
      repeat walk_at "rt"
      refine i_iteF ?_
      repeat walk_at "rt"
      refine i_fdivW (n := 300) f0 sf.abs ?_
      repeat walk_at "rt"
      refine i_mod f0 ?_
      repeat walk_at "rt"
      simpa [deg] using k
    · dsimp only [endS]
      repeat walk_at "rt"
      refine i_iteT ?_
      repeat walk_at "rt"
      simpa [deg] using k
theorem ok_degree (F : Fun K "degree" "Table.degree" s_Table_degree f fd) (T : TT K mg C p0 p1 p2 pl pm gl gm CT gs gw ga gd un uf) (D_want_row : FnR P w K mg base CX0 4 gw (spWantRow CT)) (D_degree_at : FnR P w K mg base CX0 1 ga (spDegAt CT)) :
    FnOk P w K mg base CX0 5 f fd ["self", "end", "row"] (spDeg CT) := by
  refine F.ok sc_Table_degree (fun vs H Q E h => ?_) (fun cdv A outer s H vs Q E hr h => ?_)
  · obtain ⟨a, n, f, t, i, e, rfl, _⟩ := h
    rfl
  · obtain ⟨a, n, f, t, i, e, rfl, hT, i0, i1, sf, k⟩ := h
    refine ⟨_, (pss_cons (ps_expr (pe_methR (E := E0) (pv 0) T.tab.cls T.tab.m_want_row D_want_row (hr.mono (by decide)) pass0 (pa_cons (pv 1) (pa_cons (pv 2) pa_nil))))
      (pss_one (ps_ret (pe_methR (E := E0) (pv 0) T.tab.cls T.tab.m_degree_at D_degree_at (hr.mono (by decide)) pass0 (pa_cons (pv 1) (pa_cons (pv 2) pa_nil)))))), ?_⟩
    obtain ⟨_, _, _, _, _, cT, a0, a1, a2, a3, a4, _⟩ := T.tab
    obtain ⟨dx, h0⟩ := id hT
    repeat walk_at "rt"
    refine ⟨a, n, f, t, i, e, rfl, hT, i0, i1, fun H1 s1 => ?_⟩
    have h1 := s1 _ _ h0
    repeat walk_at "rt"
    refine ⟨a, n, f, t, i, e, rfl, hT.same s1, fun z => ?_, sf, k H1 s1⟩
    subst z
    have : i < f := i1
    omega
end
end K34

set_option Elab.async false
set_option linter.all false
set_option maxRecDepth 100000
set_option maxHeartbeats 4000000
namespace K34
open L2 PyProof.Rows PySem.Spec PySem G58 SlX KXM
local macro_rules | `(tactic| walk_at "rd") => `(tactic| first
  | (with_reducible refine i_seq ?_)
  | ((with_reducible refine' i_var ?rdh ?_); (case rdh => exact rfl))
  | (with_reducible refine i_c ?_)
  | (with_reducible refine i_op ?_)
  | (with_reducible refine i_I0 ?_)
  | (with_reducible refine i_set ?_)
  | (with_reducible refine i_ret ?_)
  | (with_reducible refine i_cons ?_)
  | (with_reducible refine i_nil ?_)
  | (with_reducible refine i_cb ?_)
  | (with_reducible refine i_call ?_)
  | (with_reducible refine i_tup ?_)
  | (with_reducible refine i_lst ?_)
  | (with_reducible refine i_ifS ?_)
  | (with_reducible refine i_test ?_)
  | (with_reducible refine i_B ?_)
  | (with_reducible refine i_bl ?_)
  | (with_reducible refine i_isN ?_)
  | (with_reducible refine i_notN ?_)
  | (with_reducible refine i_andV ?_)
  | (with_reducible refine i_orV ?_)
  | (with_reducible refine i_notV ?_)
  | (with_reducible refine i_and ?_)
  | (with_reducible refine i_or ?_)
  | (with_reducible refine i_not ?_)
  | (with_reducible refine i_if ?_)
  | (with_reducible refine i_par ?_)
  | (with_reducible refine i_par2 ?_)
  | (with_reducible refine i_drop ?_)
  | (with_reducible refine i_next ?_)
  | (with_reducible refine i_retN ?_)
  | (with_reducible refine i_iteT ?_)
  | (with_reducible refine i_iteF ?_)
  | (with_reducible refine i_un ?_)
  | (with_reducible refine i_U ?_)
  | (with_reducible refine i_isiII ?_)
  | (with_reducible refine i_isiIB ?_)
  | (with_reducible refine i_nT ?_)
  | (with_reducible refine i_nF ?_)
  | (with_reducible refine i_p10_4 ?_)
  | (with_reducible refine i_p10_9 ?_)
  | (with_reducible refine i_p10_18 ?_)
  | (with_reducible refine i_p10_20 ?_)
  | (with_reducible refine i_p10_30 ?_)
  | (with_reducible refine i_p10_40 ?_)
  | (with_reducible refine i_p10_58 ?_)
  | (with_reducible refine i_p10_60 ?_)
  | (with_reducible refine i_p10_61 ?_)
  | (with_reducible refine i_p10_64 ?_)
  | (with_reducible refine i_ex1 ?_)
  | (with_reducible refine i_ex2 ?_)
  | (with_reducible refine i_toI ?_)
  | (with_reducible refine i_toB ?_)
  | ((with_reducible refine' i_ixL ?rdh ?rda ?_); (case rdh => exact SqL.of (by assumption)); (case rda => exact rfl))
  | ((with_reducible refine' i_ixT ?rdh ?rda ?_); (case rdh => exact SqT.of (by assumption)); (case rda => exact rfl))
  | (with_reducible refine i_mulR ⟨by decide, by decide⟩ ?_)
  | (with_reducible refine i_mulL ⟨by decide, by decide⟩ ?_)
  | (with_reducible refine i_mod (by decide) ?_)
  | (with_reducible refine i_div ⟨by decide, by decide⟩ ?_)
  | ((with_reducible refine' i_gtup ?rdh ?rdl ?_); (case rdh => exact SqT.of (by assumption)); (case rdl => exact rfl))
  | (with_reducible refine i_gcons ?_)
  | (with_reducible refine i_gnil ?_)
  | (with_reducible refine i_gname ?_)
  | (with_reducible refine i_gsub ?_)
  | (with_reducible refine i_bm ?_)
  | (with_reducible refine i_bm0 ?_)
  | ((with_reducible refine' i_tyL ?rdh ?_); (case rdh => assumption))
  | (with_reducible refine i_for ?_)
  | (with_reducible refine i_itup ?_)
  | (with_reducible refine i_ilist ?_)
  | (with_reducible refine i_irng1 ?_)
  | (with_reducible refine i_irng2 ?_)
  | (with_reducible refine i_lc ?_)
  | (with_reducible refine i_yes ?_)
  | (with_reducible refine i_asg ?_)
  | dsimp only)
local macro_rules | `(tactic| walk_at "rm") => `(tactic| first
  | walk_at "rd"
  | (with_reducible refine i_prop ?_)
  | ((with_reducible refine' i_pl ?rdh ?_); (case rdh => assumption))
  | ((with_reducible refine' i_pmS ?rdh ?_); (case rdh => assumption))
  | ((with_reducible refine' i_pmN ?rdh ?_); (case rdh => assumption))
  | ((with_reducible refine' i_pm ?rdh ?_); (case rdh => assumption))
  | (with_reducible refine i_mkM ?_)
  | (with_reducible refine i_NT ?_)
  | (with_reducible refine i_NF ?_)
  | (with_reducible refine i_YT ?_)
  | (with_reducible refine i_YF ?_))
local macro_rules | `(tactic| walk_at "rt") => `(tactic| first
  | walk_at "rm"
  | (with_reducible refine i_fld ?_)
  | ((with_reducible refine' i_fldA ?rdh ?rdc ?rdn ?rdl ?_); (case rdh => assumption); (case rdc => assumption); (case rdn => assumption); (case rdl => exact rfl))
  | (with_reducible refine i_methR ?_)
  | ((with_reducible refine' i_mAt ?rdh ?rdl ?_); (case rdh => assumption); (case rdl => exact rfl))
  | (with_reducible refine i_sfld ?_)
  | (with_reducible refine i_gfld ?_)
  | (with_reducible refine i_eqS ?_)
  | (with_reducible refine i_isiSS ?_))
abbrev s_law_numbers_in : Stmt := top 42
abbrev n_law_numbers_in : List Str := ["_law_pot", "_law_top", "_law_low", "_law_high"]
theorem sc_law_numbers_in : FnScope n_law_numbers_in ["_law_pot", "_law_top"] (defScope s_law_numbers_in) := ⟨rfl, rfl, rfl, by decide +kernel, rfl, by decide +kernel, by decide +kernel⟩
abbrev s_law_made_many : Stmt := top 43
abbrev n_law_made_many : List Str := ["_law_pair"]
theorem sc_law_made_many : FnScope n_law_made_many ["_law_pair"] (defScope s_law_made_many) := ⟨rfl, rfl, rfl, by decide +kernel, rfl, by decide +kernel, by decide +kernel⟩
abbrev s_law_lets : Stmt := top 44
abbrev n_law_lets : List Str := ["_law_pair", "_law_d"]
theorem sc_law_lets : FnScope n_law_lets ["_law_pair", "_law_d"] (defScope s_law_lets) := ⟨rfl, rfl, rfl, by decide +kernel, rfl, by decide +kernel, by decide +kernel⟩



/-- a pair of numbers of partners as the law keeps it -/
def PairAt (H : Hp) (t : Addr) (p : Int) (q : Option Int) : Prop := H t = some (.tup [.int p, optV q])
/-- numbers of partners as the law draws them -/
structure Sm (p : Int) (q : Option Int) : Prop where
  h0 : 0 ≤ p
  h1 : p ≤ 100
  h2 : ∀ z, q = some z → p ≤ z
  h3 : ∀ z, q = some z → z ≤ 100
theorem Sm.nq {p : Int} {q : Option Int} (h : Sm p q) : Nq p q := by
  have := h.h0
  have := h.h1
  refine ⟨⟨h.h0, h.h2⟩, ⟨h.h0, Int.lt_of_le_of_lt h.h1 (by decide)⟩, fun z hz => ⟨?_, Int.lt_of_le_of_lt (h.h3 z hz) (by decide)⟩⟩
  have := h.h2 z hz
  omega
def spMadeMany (C : Addr) : Sp := fun vs H Q _ => ∃ (t : Addr) (p : Int) (q : Option Int), vs = [.ref t] ∧ PairAt H t p q ∧ Okq p q ∧ ∀ m H', Same H H' → MA C H' m p q → Q (.ref m) H'
def spNumbers : Sp := fun vs H Q _ => ∃ (p : Addr) (top : Int), vs = [.ref p, .int top] ∧ Pot H p ∧ 0 ≤ top ∧ top ≤ 90 ∧ ∀ t a b H', Ext p H H' → Pot H' p → PairAt H' t a b → Sm a b → (∀ z, b = some z → z ≤ 90) → a ≤ 90 → Q (.ref t) H'
def spLets : Sp := fun vs H Q _ => ∃ (t : Addr) (p d : Int) (q : Option Int), vs = [.ref t, .int d] ∧ PairAt H t p q ∧ Q (.bl (lets p q d)) H
section
variable {P : Program} {w : World} {K : PySem.W.Frag} {mg : Str → Option Value} {base : Heap} {f : Addr} {fd : FuncData} {C p0 p1 p2 pl pm gl gm CT gs gw ga gd : Addr} {un uf : Value}
theorem ok_made_many (F : Fun K "_law_made_many" "_law_made_many" s_law_made_many f fd) (T : TT K mg C p0 p1 p2 pl pm gl gm CT gs gw ga gd un uf) (MK : MkM P w K mg base C) : FnOk P w K mg base CX0 6 f fd ["_law_pair"] (spMadeMany C) := by
  refine F.ok sc_law_made_many (fun vs H Q E h => ?_) (fun cdv A outer s H vs Q E hr h => ?_)
  · obtain ⟨t, p, q, rfl, _⟩ := h
    rfl
  · obtain ⟨t, p, q, rfl, hp, ok, k⟩ := h
    refine ⟨_, (pss_one (ps_ret (pe_ifExp (pt_cmp (pc_isN (pe_ix ix_tup (pv 0) pe_int (fun _ _ => rfl)))) (pe_mk1 MK T.many.gC (hr.mono (by decide)) (pa_cons (pe_ix ix_tup (pv 0) pe_int (fun _ _ => rfl)) pa_nil)) (pe_mk2 MK T.many.gC (hr.mono (by decide)) (pa_cons (pe_ix ix_tup (pv 0) pe_int (fun _ _ => rfl)) (pa_cons (pe_ix ix_tup (pv 0) pe_int (fun _ _ => rfl)) pa_nil)))))), ?_⟩
    cases q with
    | none =>
      have hp' : H t = some (.tup [.int p, .non]) := hp
      repeat walk_at "rm"
      exact ⟨p, none, rfl, ok, fun m H1 _ s1 M => k m H1 s1 M⟩
    | some z =>
      have hp' : H t = some (.tup [.int p, .int z]) := hp
      repeat walk_at "rm"
      exact ⟨p, some z, rfl, ok, fun m H1 _ s1 M => k m H1 s1 M⟩
theorem log_small {m : Int} (h : m.natAbs < 2 ^ 9000) : m.natAbs.log2 < 9000 := PySem.Flt.log2_lt_of (by decide) h
theorem log_le {m : Int} (h0 : 0 ≤ m) (h : m ≤ 10 ^ 70) : m.natAbs.log2 < 9000 := by
  refine log_small (Nat.lt_of_le_of_lt (m := 10 ^ 70) ?_ (by decide +kernel))
  omega
theorem ok_numbers (F : Fun K "_law_numbers_in" "_law_numbers_in" s_law_numbers_in f fd) (T : TT K mg C p0 p1 p2 pl pm gl gm CT gs gw ga gd un uf) (D__law_draw : Dn P w K mg base 1 "_law_draw" spDraw) (D__law_pick : Dn P w K mg base 2 "_law_pick" (spPick K)) :
    FnOk P w K mg base CX0 3 f fd ["_law_pot", "_law_top"] spNumbers := by
  refine F.ok sc_law_numbers_in (fun vs H Q E h => ?_) (fun cdv A outer s H vs Q E hr h => ?_)
  · obtain ⟨p, top, rfl, _⟩ := h
    rfl
  · obtain ⟨p, top, rfl, hp, t0, t1, k⟩ := h
    refine ⟨_, (pss_cons (ps_set (i := 2) sc_law_numbers_in.nd rfl (Or.inl rfl) (pe_cl D__law_draw (hr.mono (by decide)) (pa_cons (pv 0) (pa_cons (pe_op op_add (pv 1) pe_int) pa_nil))))
      (pss_cons (ps_set (i := 3) sc_law_numbers_in.nd rfl (Or.inl rfl) (pe_op op_add (pv 2) (pe_cl D__law_draw (hr.mono (by decide)) (pa_cons (pv 0) (pa_cons (pe_op op_add (pe_op op_sub (pv 1) (pv 2)) pe_int) pa_nil)))))
      (pss_one (ps_ret (pe_cl D__law_pick (hr.mono (by decide)) (pa_cons (pv 0) (pa_cons (pe_lstN (pa_cons (pe_tupN (pa_cons (pv 2) (pa_cons (pv 3) pa_nil))) (pa_cons (pe_tupN (pa_cons (pv 2) (pa_cons (pv 3) pa_nil))) (pa_cons (pe_tupN (pa_cons (pv 2) (pa_cons (pv 2) pa_nil))) (pa_cons (pe_tupN (pa_cons (pv 2) (pa_cons pe_non pa_nil))) (pa_cons (pe_tupN (pa_cons pe_int (pa_cons (pv 3) pa_nil))) (pa_cons (pe_tupN (pa_cons pe_int (pa_cons pe_non pa_nil))) pa_nil))))))) pa_nil))))))), ?_⟩
    repeat walk_at "rm"
    refine ⟨p, _, rfl, hp, by omega, log_le (by omega) (by omega), fun low H3 l0 l1 e3 hp3 => ?_⟩
    repeat walk_at "rm"
    refine ⟨p, _, rfl, hp3, by omega, log_le (by omega) (by omega), fun d H4 d0 d1 e4 hp4 => ?_⟩
    repeat walk_at "rm"
    refine i_new rfl fun a1 H5 n5 s5 h5 => ?_
    repeat walk_at "rm"
    refine i_new rfl fun a2 H6 n6 s6 h6 => ?_
    repeat walk_at "rm"
    refine i_new rfl fun a3 H7 n7 s7 h7 => ?_
    repeat walk_at "rm"
    refine i_new rfl fun a4 H8 n8 s8 h8 => ?_
    repeat walk_at "rm"
    refine i_new rfl fun a5 H9 n9 s9 h9 => ?_
    repeat walk_at "rm"
    refine i_new rfl fun a6 H10 n10 s10 h10 => ?_
    repeat walk_at "rm"
    refine i_new rfl fun l H11 n11 s11 h11 => ?_
    repeat walk_at "rm"
    have S10 : Same H4 H10 := ((((s5.trans s6).trans s7).trans s8).trans s9).trans s10
    have S : Same H4 H11 := S10.trans s11
    have hp11 := hp4.same S
    have nlp : l ≠ p := by
      obtain ⟨x, y, e, _⟩ := hp4.same S10
      exact Ne.symm (ne_of_none e n11)
    refine ⟨p, l, _, rfl, hp11, h11, nlp, by simp, by simp, fun v H12 hv e12 hp12 => ?_⟩
    obtain ⟨x, y, ep, _⟩ := hp11
    have E : Ext p H H12 := e3.trans (e4.trans ((Ext.same S).trans e12))
    simp only [List.mem_cons, List.not_mem_nil, or_false] at hv
    rcases hv with rfl | rfl | rfl | rfl | rfl | rfl
    · exact k a1 low (some (low + d)) H12 E hp12 (e12.tup ep ((((((s6.trans s7).trans s8).trans s9).trans s10).trans s11) _ _ h5)) ⟨l0, by omega, fun z hz => by cases hz; omega, fun z hz => by cases hz; omega⟩ (fun z hz => by cases hz; omega) (by omega)
    · exact k a2 low (some (low + d)) H12 E hp12 (e12.tup ep (((((s7.trans s8).trans s9).trans s10).trans s11) _ _ h6)) ⟨l0, by omega, fun z hz => by cases hz; omega, fun z hz => by cases hz; omega⟩ (fun z hz => by cases hz; omega) (by omega)
    · exact k a3 low (some low) H12 E hp12 (e12.tup ep ((((s8.trans s9).trans s10).trans s11) _ _ h7)) ⟨l0, by omega, fun z hz => by cases hz; omega, fun z hz => by cases hz; omega⟩ (fun z hz => by cases hz; omega) (by omega)
    · exact k a4 low none H12 E hp12 (e12.tup ep (((s9.trans s10).trans s11) _ _ h8)) ⟨l0, by omega, fun z hz => (nomatch hz), fun z hz => (nomatch hz)⟩ (fun z hz => (nomatch hz)) (by omega)
    · exact k a5 0 (some (low + d)) H12 E hp12 (e12.tup ep ((s10.trans s11) _ _ h9)) ⟨by decide, by decide, fun z hz => by cases hz; omega, fun z hz => by cases hz; omega⟩ (fun z hz => by cases hz; omega) (by decide)
    · exact k a6 0 none H12 E hp12 (e12.tup ep (s11 _ _ h10)) ⟨by decide, by decide, fun z hz => (nomatch hz), fun z hz => (nomatch hz)⟩ (fun z hz => (nomatch hz)) (by decide)
theorem ok_lets (F : Fun K "_law_lets" "_law_lets" s_law_lets f fd) (T : TT K mg C p0 p1 p2 pl pm gl gm CT gs gw ga gd un uf) : FnOk P w K mg base CX0 1 f fd ["_law_pair", "_law_d"] spLets := by
  refine F.ok sc_law_lets (fun vs H Q E h => ?_) (fun cdv A outer s H vs Q E hr h => ?_)
  · obtain ⟨t, p, d, q, rfl, _⟩ := h
    rfl
  · obtain ⟨t, p, d, q, rfl, hp, k⟩ := h
    refine ⟨_, (pss_one (ps_ret (pe_and (pe_cmpR op_le (pe_ix ix_tup (pv 0) pe_int (fun _ _ => rfl)) (pv 1) (nomark _)) (pe_one (pe_or (pe_cmp (pc_isN (pe_ix ix_tup (pv 0) pe_int (fun _ _ => rfl)))) (pe_one (pe_cmpR op_le (pv 1) (pe_ix ix_tup (pv 0) pe_int (fun _ _ => rfl)) (nomark _)))))))), ?_⟩
    unfold lets at k
    cases q with
    | none =>
      have hp' : H t = some (.tup [.int p, .non]) := hp
      repeat walk_at "rm"
      refine i_itB _ (fun e => ?_) (fun e => ?_)
      · rw [e] at k
        repeat walk_at "rm"
        exact k
      · rw [e] at k
        repeat walk_at "rm"
        exact k
    | some z =>
      have hp' : H t = some (.tup [.int p, .int z]) := hp
      repeat walk_at "rm"
      refine i_itB _ (fun e => ?_) (fun e => ?_)
      · rw [e] at k
        repeat walk_at "rm"
        simpa using k
      · rw [e] at k
        repeat walk_at "rm"
        exact k
end
end K34

set_option Elab.async false
set_option linter.all false
set_option maxRecDepth 100000
set_option maxHeartbeats 4000000
namespace K34
open L2 PyProof.Rows PySem.Spec PySem G58 SlX KXM
local macro_rules | `(tactic| walk_at "rd") => `(tactic| first
  | (with_reducible refine i_seq ?_)
  | ((with_reducible refine' i_var ?rdh ?_); (case rdh => exact rfl))
  | (with_reducible refine i_c ?_)
  | (with_reducible refine i_op ?_)
  | (with_reducible refine i_I0 ?_)
  | (with_reducible refine i_set ?_)
  | (with_reducible refine i_ret ?_)
  | (with_reducible refine i_cons ?_)
  | (with_reducible refine i_nil ?_)
  | (with_reducible refine i_cb ?_)
  | (with_reducible refine i_call ?_)
  | (with_reducible refine i_tup ?_)
  | (with_reducible refine i_lst ?_)
  | (with_reducible refine i_ifS ?_)
  | (with_reducible refine i_test ?_)
  | (with_reducible refine i_B ?_)
  | (with_reducible refine i_bl ?_)
  | (with_reducible refine i_isN ?_)
  | (with_reducible refine i_notN ?_)
  | (with_reducible refine i_andV ?_)
  | (with_reducible refine i_orV ?_)
  | (with_reducible refine i_notV ?_)
  | (with_reducible refine i_and ?_)
  | (with_reducible refine i_or ?_)
  | (with_reducible refine i_not ?_)
  | (with_reducible refine i_if ?_)
  | (with_reducible refine i_par ?_)
  | (with_reducible refine i_par2 ?_)
  | (with_reducible refine i_drop ?_)
  | (with_reducible refine i_next ?_)
  | (with_reducible refine i_retN ?_)
  | (with_reducible refine i_iteT ?_)
  | (with_reducible refine i_iteF ?_)
  | (with_reducible refine i_un ?_)
  | (with_reducible refine i_U ?_)
  | (with_reducible refine i_isiII ?_)
  | (with_reducible refine i_isiIB ?_)
  | (with_reducible refine i_nT ?_)
  | (with_reducible refine i_nF ?_)
  | (with_reducible refine i_p10_4 ?_)
  | (with_reducible refine i_p10_9 ?_)
  | (with_reducible refine i_p10_18 ?_)
  | (with_reducible refine i_p10_20 ?_)
  | (with_reducible refine i_p10_30 ?_)
  | (with_reducible refine i_p10_40 ?_)
  | (with_reducible refine i_p10_58 ?_)
  | (with_reducible refine i_p10_60 ?_)
  | (with_reducible refine i_p10_61 ?_)
  | (with_reducible refine i_p10_64 ?_)
  | (with_reducible refine i_ex1 ?_)
  | (with_reducible refine i_ex2 ?_)
  | (with_reducible refine i_toI ?_)
  | (with_reducible refine i_toB ?_)
  | ((with_reducible refine' i_ixL ?rdh ?rda ?_); (case rdh => exact SqL.of (by assumption)); (case rda => exact rfl))
  | ((with_reducible refine' i_ixT ?rdh ?rda ?_); (case rdh => exact SqT.of (by assumption)); (case rda => exact rfl))
  | (with_reducible refine i_mulR ⟨by decide, by decide⟩ ?_)
  | (with_reducible refine i_mulL ⟨by decide, by decide⟩ ?_)
  | (with_reducible refine i_mod (by decide) ?_)
  | (with_reducible refine i_div ⟨by decide, by decide⟩ ?_)
  | ((with_reducible refine' i_gtup ?rdh ?rdl ?_); (case rdh => exact SqT.of (by assumption)); (case rdl => exact rfl))
  | (with_reducible refine i_gcons ?_)
  | (with_reducible refine i_gnil ?_)
  | (with_reducible refine i_gname ?_)
  | (with_reducible refine i_gsub ?_)
  | (with_reducible refine i_bm ?_)
  | (with_reducible refine i_bm0 ?_)
  | ((with_reducible refine' i_tyL ?rdh ?_); (case rdh => assumption))
  | (with_reducible refine i_for ?_)
  | (with_reducible refine i_itup ?_)
  | (with_reducible refine i_ilist ?_)
  | (with_reducible refine i_irng1 ?_)
  | (with_reducible refine i_irng2 ?_)
  | (with_reducible refine i_lc ?_)
  | (with_reducible refine i_yes ?_)
  | (with_reducible refine i_asg ?_)
  | dsimp only)
local macro_rules | `(tactic| walk_at "rm") => `(tactic| first
  | walk_at "rd"
  | (with_reducible refine i_prop ?_)
  | ((with_reducible refine' i_pl ?rdh ?_); (case rdh => assumption))
  | ((with_reducible refine' i_pmS ?rdh ?_); (case rdh => assumption))
  | ((with_reducible refine' i_pmN ?rdh ?_); (case rdh => assumption))
  | ((with_reducible refine' i_pm ?rdh ?_); (case rdh => assumption))
  | (with_reducible refine i_mkM ?_)
  | (with_reducible refine i_NT ?_)
  | (with_reducible refine i_NF ?_)
  | (with_reducible refine i_YT ?_)
  | (with_reducible refine i_YF ?_))
local macro_rules | `(tactic| walk_at "rt") => `(tactic| first
  | walk_at "rm"
  | (with_reducible refine i_fld ?_)
  | ((with_reducible refine' i_fldA ?rdh ?rdc ?rdn ?rdl ?_); (case rdh => assumption); (case rdc => assumption); (case rdn => assumption); (case rdl => exact rfl))
  | (with_reducible refine i_methR ?_)
  | ((with_reducible refine' i_mAt ?rdh ?rdl ?_); (case rdh => assumption); (case rdl => exact rfl))
  | (with_reducible refine i_sfld ?_)
  | (with_reducible refine i_gfld ?_)
  | (with_reducible refine i_eqS ?_)
  | (with_reducible refine i_isiSS ?_))
abbrev s_law_nets_in : Stmt := top 45
abbrev n_law_nets_in : List Str := ["_law_a", "_law_b", "_law_spots", "_law_i", "_law_j", "_law_at", "_law_code"]
theorem sc_law_nets_in : FnScope n_law_nets_in ["_law_a", "_law_b"] (defScope s_law_nets_in) := ⟨rfl, rfl, rfl, by decide +kernel, rfl, by decide +kernel, by decide +kernel⟩
abbrev s_law_is_let : Stmt := top 46
abbrev n_law_is_let : List Str := ["_law_net", "_law_a", "_law_b", "_law_one", "_law_two", "_law_pair", "_law_i", "_law_j"]
theorem sc_law_is_let : FnScope n_law_is_let ["_law_net", "_law_a", "_law_b", "_law_one", "_law_two"] (defScope s_law_is_let) := ⟨rfl, rfl, rfl, by decide +kernel, rfl, by decide +kernel, by decide +kernel⟩
/-- a tuple of two numbers -/
def Sp2 (H : Hp) (t : Addr) (x : Nat × Nat) : Prop := H t = some (.tup [.int (x.1 : Nat), .int (x.2 : Nat)])
def Tps (H : Hp) (ts : List Addr) (ps : List (Nat × Nat)) : Prop := Paired (Sp2 H) ts ps
theorem Tps.same {H H' : Hp} {ts : List Addr} {ps : List (Nat × Nat)} (h : Tps H ts ps) (s : Same H H') : Tps H' ts ps := Paired.mapP h fun _ _ z => s _ _ z
theorem Tps.ext {H H' : Hp} {D : Addr} {ys : List V} {ts : List Addr} {ps : List (Nat × Nat)} (h : Tps H ts ps) (hD : H D = some (.lst ys)) (s : Ext D H H') : Tps H' ts ps := Paired.mapP h fun _ _ z => s.tup hD z
theorem pair_app {α β : Type} {F : α → β → Prop} : ∀ {a : List α} {b : List β} {c : List α} {d : List β}, Paired F a b → Paired F c d → Paired F (a ++ c) (b ++ d)
  | _, _, _, _, .nil, h => h
  | _, _, _, _, .cons x t, h => .cons x (pair_app t h)
theorem pair_at {α β : Type} {F : α → β → Prop} : ∀ {a : List α} {b : List β} (n : Nat), Paired F a b → n < b.length → ∃ x y, a[n]? = some x ∧ b[n]? = some y ∧ F x y
  | _, _, n, .nil, h => absurd h (by simp)
  | _, _, 0, .cons x t, _ => ⟨_, _, rfl, rfl, x⟩
  | _, _, n + 1, .cons x t, h => by
    obtain ⟨u, v, h1, h2, h3⟩ := pair_at n t (by simpa using h)
    exact ⟨u, v, by simpa using h1, by simpa using h2, h3⟩
theorem pair_len {α β : Type} {F : α → β → Prop} : ∀ {a : List α} {b : List β}, Paired F a b → a.length = b.length
  | _, _, .nil => rfl
  | _, _, .cons _ t => by simp [pair_len t]
theorem pair_map {α β : Type} {F G : α → β → Prop} : ∀ {a : List α} {b : List β}, Paired F a b → (∀ x y, x ∈ a → F x y → G x y) → Paired G a b
  | _, _, .nil, _ => .nil
  | _, _, .cons x t, h => .cons (h _ _ List.mem_cons_self x) (pair_map t fun u v hu z => h u v (List.mem_cons_of_mem _ hu) z)
/-- a list of such tuples -/
def Net (H : Hp) (r : Addr) (ps : List (Nat × Nat)) : Prop := ∃ ts : List Addr, H r = some (.lst (ts.map V.ref)) ∧ Tps H ts ps
theorem Net.same {H H' : Hp} {r : Addr} {ps : List (Nat × Nat)} (h : Net H r ps) (s : Same H H') : Net H' r ps := let ⟨ts, h1, h2⟩ := h; ⟨ts, s _ _ h1, h2.same s⟩
theorem Net.ext {H H' : Hp} {D r : Addr} {ys : List V} {ps : List (Nat × Nat)} (h : Net H r ps) (ne : r ≠ D) (hD : H D = some (.lst ys)) (s : Ext D H H') : Net H' r ps := let ⟨ts, h1, h2⟩ := h; ⟨ts, s _ _ ne h1, h2.ext hD s⟩
def Nets (H : Hp) (l : Addr) (a b n : Nat) : Prop := ∃ rs : List Addr, H l = some (.lst (rs.map V.ref)) ∧ Paired (fun r code => Net H r (sel (spots a b) code)) rs (List.range n)
def spNets : Sp := fun vs H Q _ => ∃ a b : Nat, vs = [.int (a : Nat), .int (b : Nat)] ∧ a < 4 ∧ b < 4 ∧ ∀ l H', Same H H' → Nets H' l a b (2 ^ (a * b)) → Q (.ref l) H'
section
variable {P : Program} {w : World} {K : PySem.W.Frag} {mg : Str → Option Value} {base : Heap} {f : Addr} {fd : FuncData} {C p0 p1 p2 pl pm gl gm CT gs gw ga gd : Addr} {un uf : Value}
theorem small9 {a b : Nat} (ha : a < 4) (hb : b < 4) : a * b ≤ 9 := Nat.le_trans (Nat.mul_le_mul (show a ≤ 3 by omega) (show b ≤ 3 by omega)) (by decide)
theorem ok_nets (F : Fun K "_law_nets_in" "_law_nets_in" s_law_nets_in f fd) (T : TT K mg C p0 p1 p2 pl pm gl gm CT gs gw ga gd un uf) : FnOk P w K mg base CX0 1 f fd ["_law_a", "_law_b"] spNets := by
  refine F.ok sc_law_nets_in (fun vs H Q E h => ?_) (fun cdv A outer s H vs Q E hr h => ?_)
  · obtain ⟨a, b, rfl, _⟩ := h
    rfl
  · obtain ⟨a, b, rfl, ha, hb, k⟩ := h
    refine ⟨_, (pss_cons (ps_set (i := 2) sc_law_nets_in.nd rfl (Or.inr rfl) (pe_lstN pa_nil))
      (pss_cons (ps_for PassesOwn.never (by rfl) (pi_range1 (by rfl) T.b_range (pa_cons (pv 0) pa_nil)) (pg_name (i := 3) sc_law_nets_in.nd rfl (by first | exact Or.inl rfl | exact Or.inr rfl))
        (pss_one (ps_expr (pe_bm PySem.F.plainAttrs_list PySem.F.slot_list_extend PySem.F.type_list_extend mt_extend (pv 2) (pa_cons (pe_lc (own := [("_law_j", 4)]) (g := gName 4) (by rfl) sc_law_nets_in.nd (pi_range1 (by rfl) T.b_range (pa_cons (pv 1) pa_nil)) (blkOk_by (own := [("_law_j", 4)]) (N := n_law_nets_in) (sc := defScope s_law_nets_in) (by decide +kernel)) (fun _ _ _ _ _ => (pg_name (i := 4) sc_law_nets_in.nd rfl (by first | exact Or.inl rfl | exact Or.inr rfl))) (fun _ _ _ _ _ => pts_nil) (fun _ _ _ _ _ => (pe_tupN (pa_cons (pv 3) (pa_cons (pv 4) pa_nil))))) pa_nil)))))
      (pss_one (ps_ret (pe_lc (own := [("_law_code", 6)]) (g := gName 6) (by rfl) sc_law_nets_in.nd (pi_range1 (by rfl) T.b_range (pa_cons (pe_op op_shl pe_int (pe_callB call_len_seq (by rfl) T.b_len (by decide +kernel) (pa_cons (pv 2) pa_nil))) pa_nil)) (blkOk_by (own := [("_law_code", 6)]) (N := n_law_nets_in) (sc := defScope s_law_nets_in) (by decide +kernel)) (fun _ _ _ _ _ => (pg_name (i := 6) sc_law_nets_in.nd rfl (by first | exact Or.inl rfl | exact Or.inr rfl))) (fun _ _ _ _ _ => pts_nil) (fun _ _ _ _ _ => (pe_lc (own := [("_law_at", 5)]) (g := gName 5) (by rfl) sc_law_nets_in.nd (pi_range1 (by rfl) T.b_range (pa_cons (pe_callB (id := "len") (r := fun xs H Q => ∃ p ys, xs = [V.ref p] ∧ (SqL K H p ys ∨ SqT K H p ys) ∧ Q (.int ys.length) H) call_len_seq (by rfl) T.b_len (by decide +kernel) (pa_cons (pv 2) pa_nil)) pa_nil)) (blkOk_in (own := [("_law_at", 5)]) (N := n_law_nets_in) (sc0 := defScope s_law_nets_in) rfl (by decide +kernel)) (fun _ _ _ _ _ => (pg_name (i := 5) sc_law_nets_in.nd rfl (by first | exact Or.inl rfl | exact Or.inr rfl))) (fun _ _ _ _ _ => (pts_one (pt_cmpR op_eq (pe_op op_odd (pe_op op_shr (pv 6) (pv 5)) pe_int) pe_int (nomark _)))) (fun _ _ _ _ _ => (pe_ix (r := rIxL K) ix_list (pv 2) (pv 5) (fun _ _ => rfl)))))))))), ?_⟩
    have m9 := small9 ha hb
    repeat walk_at "rt"
    refine i_new rfl fun l H1 nl s1 hl => ?_
    repeat walk_at "rt"
    refine ⟨by omega, by omega, ?_⟩
    rw [Int.toNat_natCast]
    refine fRng (fun i σ H' => Same H H' ∧ (∃ ts : List Addr, H' l = some (.lst (ts.map V.ref)) ∧ Tps H' ts (spots i b)) ∧ ∃ u v w' z, σ = [some (.int (a : Nat)), some (.int (b : Nat)), some (.ref l), u, v, w', z])
      ⟨s1, ⟨[], hl, .nil⟩, _, _, _, _, rfl⟩ ?_ ?_
    · rintro i σ H2 hi ⟨s2, ⟨ts, hl2, ht⟩, u, v, w', z, rfl⟩
      simp only [Int.zero_add]
      repeat walk_at "rt"
      refine ⟨by omega, by omega, ?_⟩
      rw [Int.toNat_natCast]
      refine lcR (n := b) (fun D j H ys => ∃ us : List Addr, ys = us.map V.ref ∧ Tps H us ((List.range j).map fun j => (i, j))) (by omega) ?_ (fun D H => ⟨[], rfl, .nil⟩) ?_ ?_
      · rintro D j H H' ys zs hD e ⟨us, rfl, h⟩
        exact ⟨us, rfl, h.ext hD e⟩
      · rintro D j H3 ys N nD hj hlen s3 hD ⟨us, rfl, hu⟩ kT kF
        simp only [Int.zero_add]
        refine i_gname ⟨rfl, ?_⟩
        repeat walk_at "rt"
        refine i_new rfl fun t H4 nt s4 h4 => kT _ H4 s4 ⟨us ++ [t], by simp, ?_⟩
        rw [List.range_succ, List.map_append]
        exact pair_app (hu.same s4) (.cons h4 .nil)
      · rintro D H3 ys nD s3 hD hlen ⟨us, rfl, hu⟩
        have hl3 := s3 _ _ hl2
        have tl := pair_len ht
        rw [spots_len] at tl
        have l1 : i * b ≤ 9 := small9 (by omega) hb
        refine i_nil ?_
        refine i_extend hl3 hD (by rw [List.length_map] at hlen; rw [List.length_map, List.length_map]; omega) fun H4 e4 h4 => ?_
        refine ⟨same_ext (s2.trans s3) nl e4, ⟨ts ++ us, by rw [h4, List.map_append], ?_⟩, _, _, _, _, rfl⟩
        rw [spots_succ]
        exact pair_app ((ht.same s3).ext hl3 e4) (hu.ext hl3 e4)
    · rintro σ H2 ⟨s2, ⟨ts, hl2, ht⟩, u, v, w', z, rfl⟩
      have tl := pair_len ht
      rw [spots_len] at tl
      have tl' : (ts.map V.ref).length = a * b := by rw [List.length_map, tl]
      repeat walk_at "rt"
      refine i_lenL (SqL.of hl2) ?_
      rw [tl']
      refine i_I ⟨by omega, by omega, by decide⟩ ?_
      rw [show ((1 : Int) * 2 ^ ((a * b : Nat) : Int).toNat) = ((2 ^ (a * b) : Nat) : Int) from by rw [Int.one_mul, Int.toNat_natCast]; exact_mod_cast rfl]
      have b512 : 2 ^ (a * b) ≤ 512 := Nat.le_trans (Nat.pow_le_pow_right (n := 2) (by decide) m9) (by decide)
      replace k : ∀ l H', Same H H' → Nets H' l a b (2 ^ (a * b)) → Q (.ref l) H' := k
      generalize 2 ^ (a * b) = M at *
      repeat walk_at "rt"
      refine ⟨by omega, by omega, ?_⟩
      rw [Int.toNat_natCast]
      refine lcR (n := M) (fun D j H ys => ∃ rs : List Addr, ys = rs.map V.ref ∧ (∀ r ∈ rs, r ≠ D) ∧ Paired (fun r code => Net H r (sel (spots a b) code)) rs (List.range j)) (by omega) ?_ (fun D H => ⟨[], rfl, by simp, .nil⟩) ?_ ?_
      · rintro D j H H' ys zs hD e ⟨rs, rfl, hne, h⟩
        refine ⟨rs, rfl, hne, ?_⟩
        exact pair_map h fun r code hr z => z.ext (hne r hr) hD e
      · rintro D c H3 ys N nD hc hlen s3 hD ⟨rs, rfl, hne, hu⟩ kT kF
        have hl3 := s3 _ _ hl2
        have ht3 := ht.same s3
        simp only [Int.zero_add]
        refine i_gname ⟨rfl, ?_⟩
        repeat walk_at "rt"
        refine i_lenL (SqL.of hl3) ?_
        rw [tl']
        repeat walk_at "rt"
        refine ⟨by omega, by omega, ?_⟩
        rw [Int.toNat_natCast]
        refine lcR (n := a * b) (fun D j H ys => ∃ us : List Addr, ys = us.map V.ref ∧ Tps H us (selN (spots a b) c j)) (by omega) ?_ (fun D H => ⟨[], rfl, .nil⟩) ?_ ?_
        · rintro D j H H' ys zs hD e ⟨us, rfl, h⟩
          exact ⟨us, rfl, h.ext hD e⟩
        · rintro D2 j H4 ys2 N2 nD2 hj hlen2 s4 hD2 ⟨us, rfl, hu2⟩ kT2 kF2
          simp only [Int.zero_add]
          obtain ⟨t, x, e1, e2, e3⟩ := pair_at j ht3 (by rw [spots_len]; exact hj)
          refine i_gname ⟨rfl, ?_⟩
          repeat walk_at "rt"
          refine i_I (by omega) ?_
          rw [Int.toNat_natCast]
          refine ⟨c / 2 ^ j, by exact_mod_cast rfl, rfl, ?_⟩
          repeat walk_at "rt"
          refine i_eq rfl ?_
          repeat walk_at "rt"
          have sx := selN_succ (spots a b) c j x e2
          by_cases cc : c / 2 ^ j % 2 = 1
          · rw [cc]
            refine iteT ?_
            rw [if_pos cc] at sx
            repeat walk_at "rt"
            refine i_ixL (v := .ref t) (SqL.of (s4 _ _ hl3)) ?_ ?_
            · exact atI_nat (by rw [List.getElem?_map, e1]; rfl)
            · refine kT2 _ H4 (Same.refl _) ⟨us ++ [t], by simp, ?_⟩
              rw [sx]
              exact pair_app hu2 (.cons (s4 _ _ e3) .nil)
          · have cd : decide (V.int ((c / 2 ^ j % 2 : Nat) : Int) = V.int 1) = false := decide_eq_false (fun z => cc (by injection z with z; exact_mod_cast z))
            rw [cd]
            rw [if_neg cc, List.append_nil] at sx
            refine iteF (kF2 H4 (Same.refl _) ⟨us, rfl, ?_⟩)
            rw [sx]
            exact hu2
        · rintro D2 H4 ys2 nD2 s4 hD2 hlen2 ⟨us, rfl, hu2⟩
          have nDD : D2 ≠ D := Ne.symm (ne_of_none hD nD2)
          refine kT _ H4 s4 ⟨rs ++ [D2], by simp, fun r hr => ?_, ?_⟩
          · rcases List.mem_append.mp hr with z | z
            · exact hne r z
            · rw [List.mem_singleton.mp z]
              exact nDD
          · rw [List.range_succ]
            refine pair_app (pair_map hu fun r code _ z => z.same s4) (.cons ⟨us, hD2, ?_⟩ .nil)
            unfold sel
            rw [spots_len]
            exact hu2
      · rintro D H3 ys nD s3 hD hlen ⟨rs, rfl, hne, hu⟩
        exact k D H3 (s2.trans s3) ⟨rs, hD, hu⟩
def spIsLet : Sp := fun vs H Q _ => ∃ (x t1 t2 : Addr) (a b : Nat) (p r : Int) (q s : Option Int) (ps : List (Nat × Nat)), vs = [.ref x, .int (a : Nat), .int (b : Nat), .ref t1, .ref t2] ∧ a < 4 ∧ b < 4 ∧ ps.length ≤ 9 ∧ Net H x ps ∧ PairAt H t1 p q ∧ PairAt H t2 r s ∧
  ∀ H', Same H H' → Q (.bl (isLet ps a b p q r s)) H'
theorem filt_succ (ps : List (Nat × Nat)) (g : Nat × Nat → Bool) (n : Nat) (x : Nat × Nat) (h : ps[n]? = some x) : ((ps.take (n + 1)).filter g).length = ((ps.take n).filter g).length + (if g x = true then 1 else 0) := by
  rw [List.take_succ, h]
  simp only [Option.toList_some, List.filter_append, List.length_append]
  congr 1
  by_cases c : g x = true
  · simp [c]
  · simp [c]
theorem all_id {α : Type} (l : List α) (f : α → Bool) : (l.map f).all id = l.all f := by
  rw [List.all_map]
  rfl
theorem ok_is_let (F : Fun K "_law_is_let" "_law_is_let" s_law_is_let f fd) (T : TT K mg C p0 p1 p2 pl pm gl gm CT gs gw ga gd un uf) (D__law_lets : Dn P w K mg base 1 "_law_lets" spLets) : FnOk P w K mg base CX0 2 f fd ["_law_net", "_law_a", "_law_b", "_law_one", "_law_two"] spIsLet := by
  refine F.ok sc_law_is_let (fun vs H Q E h => ?_) (fun cdv A outer s H vs Q E hr h => ?_)
  · obtain ⟨x, t1, t2, a, b, p, r, q, z, ps, rfl, _⟩ := h
    rfl
  · obtain ⟨x, t1, t2, a, b, p, r, q, z, ps, rfl, ha, hb, h9, hN, g1, g2, k⟩ := h
    refine ⟨_, (pss_cons (ps_if (pt_not (pt_val (pe_callB (cr_all rfl) (by rfl) T.b_all (by decide +kernel) (pa_cons (pe_lc (own := [("_law_i", 6)]) (g := gName 6) (by rfl) sc_law_is_let.nd (pi_range1 (by rfl) T.b_range (pa_cons (pv 1) pa_nil)) (blkOk_by (own := [("_law_i", 6)]) (N := n_law_is_let) (sc := defScope s_law_is_let) (by decide +kernel)) (fun _ _ _ _ _ => (pg_name (i := 6) sc_law_is_let.nd rfl (by first | exact Or.inl rfl | exact Or.inr rfl))) (fun _ _ _ _ _ => pts_nil) (fun _ _ _ _ _ => (pe_cl D__law_lets (hr.mono (by decide)) (pa_cons (pv 3) (pa_cons (pe_callB (id := "len") (r := fun xs H Q => ∃ p ys, xs = [V.ref p] ∧ (SqL K H p ys ∨ SqT K H p ys) ∧ Q (.int ys.length) H) call_len_seq (by rfl) T.b_len (by decide +kernel) (pa_cons (pe_lc (own := [("_law_pair", 5)]) (g := gName 5) (wi := iList K (tVar 0)) (by rfl) sc_law_is_let.nd (pi_list (pv 0)) (blkOk_in (own := [("_law_pair", 5)]) (N := n_law_is_let) (sc0 := defScope s_law_is_let) rfl (by decide +kernel)) (fun _ _ _ _ _ => (pg_name (i := 5) sc_law_is_let.nd rfl (by first | exact Or.inl rfl | exact Or.inr rfl))) (fun _ _ _ _ _ => (pts_one (pt_cmpR op_eq (pe_ix (r := rIxT K) ix_tup (pv 5) pe_int (fun _ _ => rfl)) (pv 6) (nomark _)))) (fun _ _ _ _ _ => (pv 5))) pa_nil)) pa_nil))))) pa_nil))))
        (pss_one (ps_ret pe_bl))
        pss_nil)
      (pss_one (ps_ret (pe_callB (cr_all rfl) (by rfl) T.b_all (by decide +kernel) (pa_cons (pe_lc (own := [("_law_j", 7)]) (g := gName 7) (by rfl) sc_law_is_let.nd (pi_range1 (by rfl) T.b_range (pa_cons (pv 2) pa_nil)) (blkOk_by (own := [("_law_j", 7)]) (N := n_law_is_let) (sc := defScope s_law_is_let) (by decide +kernel)) (fun _ _ _ _ _ => (pg_name (i := 7) sc_law_is_let.nd rfl (by first | exact Or.inl rfl | exact Or.inr rfl))) (fun _ _ _ _ _ => pts_nil) (fun _ _ _ _ _ => (pe_cl D__law_lets (hr.mono (by decide)) (pa_cons (pv 4) (pa_cons (pe_callB (id := "len") (r := fun xs H Q => ∃ p ys, xs = [V.ref p] ∧ (SqL K H p ys ∨ SqT K H p ys) ∧ Q (.int ys.length) H) call_len_seq (by rfl) T.b_len (by decide +kernel) (pa_cons (pe_lc (own := [("_law_pair", 5)]) (g := gName 5) (wi := iList K (tVar 0)) (by rfl) sc_law_is_let.nd (pi_list (pv 0)) (blkOk_in (own := [("_law_pair", 5)]) (N := n_law_is_let) (sc0 := defScope s_law_is_let) rfl (by decide +kernel)) (fun _ _ _ _ _ => (pg_name (i := 5) sc_law_is_let.nd rfl (by first | exact Or.inl rfl | exact Or.inr rfl))) (fun _ _ _ _ _ => (pts_one (pt_cmpR op_eq (pe_ix (r := rIxT K) ix_tup (pv 5) pe_int (fun _ _ => rfl)) (pv 7) (nomark _)))) (fun _ _ _ _ _ => (pv 5))) pa_nil)) pa_nil))))) pa_nil))))), ?_⟩
    refine i_seqA fun n e => ?_
    repeat walk_at "rt"
    refine ⟨by omega, by omega, ?_⟩
    rw [Int.toNat_natCast]
    refine lcR (n := a) (fun D j H ys => ys = ((List.range j).map fun i => lets p q (cnt0 ps i)).map V.bl) (by omega) (fun _ _ _ _ _ _ _ _ z => z) (fun D H => rfl) ?_ ?_
    · rintro D i H3 ys N nD hi hlen s3 hD rfl kT kF
      simp only [Int.zero_add]
      obtain ⟨ts, hx, ht⟩ := hN.same s3
      have tl := pair_len ht
      refine i_gname ⟨rfl, ?_⟩
      repeat walk_at "rt"
      refine ⟨x, rfl, ⟨_, SqL.of hx⟩, ?_⟩
      refine lcL (xs := ts.map V.ref) (fun D j H ys => ys.length = ((ps.take j).filter fun y => y.1 == i).length) (by rw [List.length_map]; omega) (SqL.of hx) (fun _ _ _ _ _ _ _ _ z => z) (fun D H => rfl) ?_ ?_
      · rintro D2 j v H4 ys2 N2 nD2 hj hlen2 s4 hD2 hy kT2 kF2
        have hj' : j < ps.length := by
          have := (List.getElem?_eq_some_iff.mp hj).1
          rw [List.length_map] at this
          omega
        obtain ⟨t, y, e1, e2, e3⟩ := pair_at j ht hj'
        have ev : v = .ref t := by
          rw [List.getElem?_map, e1] at hj
          exact (Option.some.inj hj).symm
        subst ev
        have e4 : H4 t = some (.tup [.int (y.1 : Nat), .int (y.2 : Nat)]) := s4 _ _ e3
        have sx := filt_succ ps (fun y => y.1 == i) j y e2
        refine i_gname ⟨rfl, ?_⟩
        repeat walk_at "rt"
        refine i_eq rfl ?_
        repeat walk_at "rt"
        by_cases cc : y.1 = i
        · have cd : decide (V.int ((y.1 : Nat) : Int) = V.int (i : Nat)) = true := by rw [cc]; exact decide_eq_true rfl
          rw [cd]
          refine iteT ?_
          repeat walk_at "rt"
          refine kT2 _ H4 (Same.refl _) ?_
          rw [sx, List.length_append, hy, if_pos (by simpa using cc)]
          rfl
        · have cd : decide (V.int ((y.1 : Nat) : Int) = V.int (i : Nat)) = false := decide_eq_false (fun z => cc (by injection z with z; exact_mod_cast z))
          rw [cd]
          refine iteF (kF2 H4 (Same.refl _) ?_)
          rw [sx, if_neg (by simpa using cc), Nat.add_zero]
          exact hy
      · rintro D2 H4 ys2 nD2 s4 hD2 hlen2 hy
        repeat walk_at "rt"
        refine i_lenL (SqL.of hD2) ?_
        repeat walk_at "rt"
        refine ⟨t1, p, _, q, rfl, (s3.trans s4) _ _ g1, ?_⟩
        refine kT _ H4 s4 ?_
        rw [List.length_map] at hy
        rw [List.take_of_length_le (Nat.le_of_eq tl.symm)] at hy
        rw [List.range_succ, List.map_append, List.map_append, hy]
        rfl
    · rintro D H3 ys nD s3 hD hlen rfl
      repeat walk_at "rt"
      refine ⟨D, _, rfl, SqL.of hD, ?_⟩
      rw [all_id]
      have g1 := s3 _ _ g1
      have g2 := s3 _ _ g2
      have hN := hN.same s3
      cases c0 : (List.range a).all (fun i => lets p q (cnt0 ps i)) with
      | false =>
        repeat walk_at "rt"
        have : isLet ps a b p q r z = false := by unfold isLet; rw [c0]; rfl
        rw [this] at k
        exact k H3 s3
      | true =>
        repeat walk_at "rt"
        subst e
        repeat walk_at "rt"
        refine ⟨by omega, by omega, ?_⟩
        rw [Int.toNat_natCast]
        replace k : ∀ H', Same H3 H' → Q (.bl (isLet ps a b p q r z)) H' := fun H' s' => k H' (s3.trans s')
        clear s3 hD hlen nD
        refine lcR (n := b) (fun D j H ys => ys = ((List.range j).map fun i => lets r z (cnt1 ps i)).map V.bl) (by omega) (fun _ _ _ _ _ _ _ _ z => z) (fun D H => rfl) ?_ ?_
        · rintro D i H3 ys N nD hi hlen s3 hD rfl kT kF
          simp only [Int.zero_add]
          obtain ⟨ts, hx, ht⟩ := hN.same s3
          have tl := pair_len ht
          refine i_gname ⟨rfl, ?_⟩
          repeat walk_at "rt"
          refine ⟨x, rfl, ⟨_, SqL.of hx⟩, ?_⟩
          refine lcL (xs := ts.map V.ref) (fun D j H ys => ys.length = ((ps.take j).filter fun y => y.2 == i).length) (by rw [List.length_map]; omega) (SqL.of hx) (fun _ _ _ _ _ _ _ _ z => z) (fun D H => rfl) ?_ ?_
          · rintro D2 j v H4 ys2 N2 nD2 hj hlen2 s4 hD2 hy kT2 kF2
            have hj' : j < ps.length := by
              have := (List.getElem?_eq_some_iff.mp hj).1
              rw [List.length_map] at this
              omega
            obtain ⟨t, y, e1, e2, e3⟩ := pair_at j ht hj'
            have ev : v = .ref t := by
              rw [List.getElem?_map, e1] at hj
              exact (Option.some.inj hj).symm
            subst ev
            have e4 : H4 t = some (.tup [.int (y.1 : Nat), .int (y.2 : Nat)]) := s4 _ _ e3
            have sx := filt_succ ps (fun y => y.2 == i) j y e2
            refine i_gname ⟨rfl, ?_⟩
            repeat walk_at "rt"
            refine i_eq rfl ?_
            repeat walk_at "rt"
            by_cases cc : y.2 = i
            · have cd : decide (V.int ((y.2 : Nat) : Int) = V.int (i : Nat)) = true := by rw [cc]; exact decide_eq_true rfl
              rw [cd]
              refine iteT ?_
              repeat walk_at "rt"
              refine kT2 _ H4 (Same.refl _) ?_
              rw [sx, List.length_append, hy, if_pos (by simpa using cc)]
              rfl
            · have cd : decide (V.int ((y.2 : Nat) : Int) = V.int (i : Nat)) = false := decide_eq_false (fun z => cc (by injection z with z; exact_mod_cast z))
              rw [cd]
              refine iteF (kF2 H4 (Same.refl _) ?_)
              rw [sx, if_neg (by simpa using cc), Nat.add_zero]
              exact hy
          · rintro D2 H4 ys2 nD2 s4 hD2 hlen2 hy
            repeat walk_at "rt"
            refine i_lenL (SqL.of hD2) ?_
            repeat walk_at "rt"
            refine ⟨t2, r, _, z, rfl, (s3.trans s4) _ _ g2, ?_⟩
            refine kT _ H4 s4 ?_
            rw [List.length_map] at hy
            rw [List.take_of_length_le (Nat.le_of_eq tl.symm)] at hy
            rw [List.range_succ, List.map_append, List.map_append, hy]
            rfl
        · rintro D H4 ys nD s4 hD hlen rfl
          repeat walk_at "rt"
          refine ⟨D, _, rfl, SqL.of hD, ?_⟩
          rw [all_id]
          have : isLet ps a b p q r z = (List.range b).all (fun i => lets r z (cnt1 ps i)) := by unfold isLet; rw [c0]; rfl
          rw [← this]
          exact k H4 s4
end
end K34

set_option Elab.async false
set_option linter.all false
set_option maxRecDepth 100000
set_option maxHeartbeats 4000000
namespace K34
open L2 PyProof.Rows PySem.Spec PySem G58 SlX KXM
local macro_rules | `(tactic| walk_at "rd") => `(tactic| first
  | (with_reducible refine i_seq ?_)
  | ((with_reducible refine' i_var ?rdh ?_); (case rdh => exact rfl))
  | (with_reducible refine i_c ?_)
  | (with_reducible refine i_op ?_)
  | (with_reducible refine i_I0 ?_)
  | (with_reducible refine i_set ?_)
  | (with_reducible refine i_ret ?_)
  | (with_reducible refine i_cons ?_)
  | (with_reducible refine i_nil ?_)
  | (with_reducible refine i_cb ?_)
  | (with_reducible refine i_call ?_)
  | (with_reducible refine i_tup ?_)
  | (with_reducible refine i_lst ?_)
  | (with_reducible refine i_ifS ?_)
  | (with_reducible refine i_test ?_)
  | (with_reducible refine i_B ?_)
  | (with_reducible refine i_bl ?_)
  | (with_reducible refine i_isN ?_)
  | (with_reducible refine i_notN ?_)
  | (with_reducible refine i_andV ?_)
  | (with_reducible refine i_orV ?_)
  | (with_reducible refine i_notV ?_)
  | (with_reducible refine i_and ?_)
  | (with_reducible refine i_or ?_)
  | (with_reducible refine i_not ?_)
  | (with_reducible refine i_if ?_)
  | (with_reducible refine i_par ?_)
  | (with_reducible refine i_par2 ?_)
  | (with_reducible refine i_drop ?_)
  | (with_reducible refine i_next ?_)
  | (with_reducible refine i_retN ?_)
  | (with_reducible refine i_iteT ?_)
  | (with_reducible refine i_iteF ?_)
  | (with_reducible refine i_un ?_)
  | (with_reducible refine i_U ?_)
  | (with_reducible refine i_isiII ?_)
  | (with_reducible refine i_isiIB ?_)
  | (with_reducible refine i_nT ?_)
  | (with_reducible refine i_nF ?_)
  | (with_reducible refine i_p10_4 ?_)
  | (with_reducible refine i_p10_9 ?_)
  | (with_reducible refine i_p10_18 ?_)
  | (with_reducible refine i_p10_20 ?_)
  | (with_reducible refine i_p10_30 ?_)
  | (with_reducible refine i_p10_40 ?_)
  | (with_reducible refine i_p10_58 ?_)
  | (with_reducible refine i_p10_60 ?_)
  | (with_reducible refine i_p10_61 ?_)
  | (with_reducible refine i_p10_64 ?_)
  | (with_reducible refine i_ex1 ?_)
  | (with_reducible refine i_ex2 ?_)
  | (with_reducible refine i_toI ?_)
  | (with_reducible refine i_toB ?_)
  | ((with_reducible refine' i_ixL ?rdh ?rda ?_); (case rdh => exact SqL.of (by assumption)); (case rda => exact rfl))
  | ((with_reducible refine' i_ixT ?rdh ?rda ?_); (case rdh => exact SqT.of (by assumption)); (case rda => exact rfl))
  | (with_reducible refine i_mulR ⟨by decide, by decide⟩ ?_)
  | (with_reducible refine i_mulL ⟨by decide, by decide⟩ ?_)
  | (with_reducible refine i_mod (by decide) ?_)
  | (with_reducible refine i_div ⟨by decide, by decide⟩ ?_)
  | ((with_reducible refine' i_gtup ?rdh ?rdl ?_); (case rdh => exact SqT.of (by assumption)); (case rdl => exact rfl))
  | (with_reducible refine i_gcons ?_)
  | (with_reducible refine i_gnil ?_)
  | (with_reducible refine i_gname ?_)
  | (with_reducible refine i_gsub ?_)
  | (with_reducible refine i_bm ?_)
  | (with_reducible refine i_bm0 ?_)
  | ((with_reducible refine' i_tyL ?rdh ?_); (case rdh => assumption))
  | (with_reducible refine i_for ?_)
  | (with_reducible refine i_itup ?_)
  | (with_reducible refine i_ilist ?_)
  | (with_reducible refine i_irng1 ?_)
  | (with_reducible refine i_irng2 ?_)
  | (with_reducible refine i_lc ?_)
  | (with_reducible refine i_yes ?_)
  | (with_reducible refine i_asg ?_)
  | dsimp only)
local macro_rules | `(tactic| walk_at "rm") => `(tactic| first
  | walk_at "rd"
  | (with_reducible refine i_prop ?_)
  | ((with_reducible refine' i_pl ?rdh ?_); (case rdh => assumption))
  | ((with_reducible refine' i_pmS ?rdh ?_); (case rdh => assumption))
  | ((with_reducible refine' i_pmN ?rdh ?_); (case rdh => assumption))
  | ((with_reducible refine' i_pm ?rdh ?_); (case rdh => assumption))
  | (with_reducible refine i_mkM ?_)
  | (with_reducible refine i_NT ?_)
  | (with_reducible refine i_NF ?_)
  | (with_reducible refine i_YT ?_)
  | (with_reducible refine i_YF ?_))
local macro_rules | `(tactic| walk_at "rt") => `(tactic| first
  | walk_at "rm"
  | (with_reducible refine i_fld ?_)
  | ((with_reducible refine' i_fldA ?rdh ?rdc ?rdn ?rdl ?_); (case rdh => assumption); (case rdc => assumption); (case rdn => assumption); (case rdl => exact rfl))
  | (with_reducible refine i_methR ?_)
  | ((with_reducible refine' i_mAt ?rdh ?rdl ?_); (case rdh => assumption); (case rdl => exact rfl))
  | (with_reducible refine i_sfld ?_)
  | (with_reducible refine i_gfld ?_)
  | (with_reducible refine i_eqS ?_)
  | (with_reducible refine i_isiSS ?_))
abbrev s_law_wider : Stmt := top 48
abbrev n_law_wider : List Str := ["_law_pot", "_law_pair", "_law_low"]
theorem sc_law_wider : FnScope n_law_wider ["_law_pot", "_law_pair"] (defScope s_law_wider) := ⟨rfl, rfl, rfl, by decide +kernel, rfl, by decide +kernel, by decide +kernel⟩
abbrev s_law_tables_right : Stmt := top 47
abbrev n_law_tables_right : List Str := ["_law_a", "_law_b", "_law_one", "_law_two", "_law_found", "_law_e", "_law_board", "_law_near_let", "_law_i", "_law_far_let", "_law_j"]
theorem sc_law_tables_right : FnScope n_law_tables_right ["_law_a", "_law_b", "_law_one", "_law_two", "_law_found"] (defScope s_law_tables_right) := ⟨rfl, rfl, rfl, by decide +kernel, rfl, by decide +kernel, by decide +kernel⟩
structure MkT (P : Program) (w : World) (K : PySem.W.Frag) (mg : Str → Option Value) (base : Heap) (CT : Addr) : Prop where
  ex : ∃ (fI : Addr) (fd : FuncData), Mk K CT fI ∧ FnOk P w K mg base CX0 4 fI fd ["self", "near", "far", "total"] (spTInit CT) ∧ Binds K fd ["self", "near", "far", "total"] []
def TabOk (CT : Addr) (vs : List V) (H : Hp) (Q : VK) : Prop := ∃ n f t : Int, vs = [.int n, .int f, .int t] ∧ 0 ≤ t ∧ t ≤ n * f ∧ Sz n ∧ Sz f ∧ ∀ m H', H m = none → Same H H' → TB CT H' m n f t → Q (.ref m) H'
def tMkT (CT : Addr) (t : TA) : TE := tMake CT (spTInit CT) [] E0 (moA t)
theorem i_mkT {CT : Addr} {t : TA} {σ : L2.St} {H : Hp} {Q : VK} (h : t σ H fun vs H1 => TabOk CT vs H1 Q) : tMkT CT t σ H Q := by
  refine ⟨_, h, fun vs H1 z => ?_⟩
  obtain ⟨n, f, t, rfl, h0, h1, sn, sf, k⟩ := z
  intro x dx nx ndx ne
  refine ⟨x, dx, n, f, t, rfl, upd_same, sn.1, sf.1, h0, h1, sn, sf, fun H' e' m => ⟨rfl, k x H' nx (fun b o hb => ?_) m⟩⟩
  have n1 := ne_of_none hb nx
  have n2 := ne_of_none hb ndx
  exact e' b o n1 (by rw [upd_ne n1, upd_ne n2]; exact hb)
section
variable {X : Cx} {CT : Addr} {e : Expr} {es : List Expr} {t : TA} {p pos : Pos}
theorem pe_mkT (M : MkT X.prog X.w X.K X.mg X.base CT) (hm : X.mg "Table" = some (.ref CT)) (hr : Room 5 X.A) (ha : PA X (e :: es) t) (hg : Gl X "Table" := by rfl)
    (he : starEach (e :: es) X.env = (false, eval e X.env) :: starEach es X.env := by rfl) (hpl : (backTo pos (starEach es X.env)).any (·.1) = false := by rfl) :
    PE X (.Call (.Name "Table" p) (e :: es) [] pos) (tMkT CT t) := by
  obtain ⟨fI, fd, mk, F, b0⟩ := M.ex
  exact pe_make mk F hr hg hm b0 .nil pass0 (pa_mo ha) (by decide) he hpl
end
theorem inV_int (e : Int) : ∀ ns : List Int, inV (.int e) (ns.map V.int) = decide (e ∈ ns)
  | [] => rfl
  | n :: ns => by
    have ih := inV_int e ns
    unfold inV at ih ⊢
    rw [List.map_cons, List.any_cons, ih]
    have h1 : eqV (.int n) (.int e) = decide (n = e) := by by_cases c : n = e <;> simp [eqV, c]
    rw [h1]
    by_cases c : n = e
    · subst c
      simp
    · have c' : ¬ e = n := fun z => c z.symm
      simp [c, c']
theorem all_congr {n : Nat} {f g : Nat → Bool} (h : ∀ i < n, f i = g i) : (List.range n).all f = (List.range n).all g := by
  rw [Bool.eq_iff_iff, List.all_eq_true, List.all_eq_true]
  exact ⟨fun z i hi => by rw [← h i (List.mem_range.mp hi)]; exact z i hi, fun z i hi => by rw [h i (List.mem_range.mp hi)]; exact z i hi⟩
theorem deg_near {a b e i : Nat} (ha : 0 < a) : deg true a b e i = ((e / a : Nat) : Int) + (if i < e % a then 1 else 0) := by
  unfold deg many
  have dm := Nat.div_add_mod e a
  have dm' : ((e / a : Nat) : Int) * (a : Int) + ((e % a : Nat) : Int) = e := by rw [Int.mul_comm]; exact_mod_cast dm
  rw [if_pos (by omega), ← Int.natCast_ediv]
  by_cases c : i < e % a
  · rw [if_pos c, if_pos (by omega)]
  · rw [if_neg c, if_neg (by omega)]
theorem deg_far {a b e i : Nat} : deg false a b e i = ((e / b : Nat) : Int) + (if i < e % b then 1 else 0) := by
  show (e : Int) / (b : Int) + (if (i : Int) < (e : Int) % (b : Int) then 1 else 0) = _
  rw [← Int.natCast_ediv, ← Int.natCast_emod]
  by_cases c : i < e % b
  · rw [if_pos c, if_pos (by omega)]
  · rw [if_neg c, if_neg (by omega)]
theorem tab_iff {a b e : Nat} {p r : Int} {q s : Option Int} (he : e ≤ a * b) : (((List.range a).all fun i => lets p q (deg true a b e i)) && ((List.range b).all fun j => lets r s (deg false a b e j))) = true ↔ Inn a p q b r s e := by
  rw [all_congr (fun i hi => by rw [deg_near (by omega)]), all_congr (n := b) (fun i hi => by rw [deg_far]), Bool.and_eq_true, near_iff (fun z => by subst z; simpa using he), near_iff (fun z => by subst z; simpa using he)]
  constructor
  · rintro ⟨⟨h1, h2⟩, h3, h4⟩
    exact ⟨by omega, h1, h3, by exact_mod_cast he, h2, h4⟩
  · rintro ⟨h0, h1, h2, h3, h4, h5⟩
    exact ⟨⟨h1, h4⟩, h2, h5⟩
def spWider : Sp := fun vs H Q _ => ∃ (pt t : Addr) (p : Int) (q : Option Int), vs = [.ref pt, .ref t] ∧ Pot H pt ∧ PairAt H t p q ∧ Sm p q ∧ (∀ z, q = some z → z ≤ 90) ∧ p ≤ 90 ∧
  ∀ t' p' q' H', Ext pt H H' → Pot H' pt → PairAt H' t' p' q' → Sm p' q' → p' ≤ p → (∀ z', q' = some z' → ∃ z, q = some z ∧ z ≤ z') → Q (.ref t') H'
def spTR : Sp := fun vs H Q _ => ∃ (t1 t2 lf : Addr) (a b : Nat) (p r : Int) (q s : Option Int) (ns : List Int), vs = [.int (a : Nat), .int (b : Nat), .ref t1, .ref t2, .ref lf] ∧ a < 4 ∧ b < 4 ∧ PairAt H t1 p q ∧ PairAt H t2 r s ∧ H lf = some (.lst (ns.map V.int)) ∧
  (∀ e : Nat, e ≤ a * b → ((e : Int) ∈ ns ↔ Inn a p q b r s e)) ∧ ∀ H', Same H H' → Q (.bl true) H'
section
variable {P : Program} {w : World} {K : PySem.W.Frag} {mg : Str → Option Value} {base : Heap} {f : Addr} {fd : FuncData} {C p0 p1 p2 pl pm gl gm CT gs gw ga gd : Addr} {un uf : Value}
theorem ok_wider (F : Fun K "_law_wider" "_law_wider" s_law_wider f fd) (T : TT K mg C p0 p1 p2 pl pm gl gm CT gs gw ga gd un uf) (D__law_draw : Dn P w K mg base 1 "_law_draw" spDraw) (D__law_pick : Dn P w K mg base 2 "_law_pick" (spPick K)) :
    FnOk P w K mg base CX0 3 f fd ["_law_pot", "_law_pair"] spWider := by
  refine F.ok sc_law_wider (fun vs H Q E h => ?_) (fun cdv A outer s H vs Q E hr h => ?_)
  · obtain ⟨pt, t, p, q, rfl, _⟩ := h
    rfl
  · obtain ⟨pt, t, p, q, rfl, hp, g1, sm, z9, p9, k⟩ := h
    refine ⟨_, (pss_cons (ps_set (i := 2) sc_law_wider.nd rfl (Or.inl rfl) (pe_cl D__law_draw (hr.mono (by decide)) (pa_cons (pv 0) (pa_cons (pe_op op_add (pe_ix ix_tup (pv 1) pe_int (fun _ _ => rfl)) pe_int) pa_nil))))
      (pss_one (ps_ret (pe_tupN (pa_cons (pv 2) (pa_cons (pe_ifExp (pt_cmp (pc_isN (pe_ix ix_tup (pv 1) pe_int (fun _ _ => rfl)))) pe_non (pe_cl D__law_pick (hr.mono (by decide)) (pa_cons (pv 0) (pa_cons (pe_lstN (pa_cons (pe_ix ix_tup (pv 1) pe_int (fun _ _ => rfl)) (pa_cons (pe_op op_add (pe_ix ix_tup (pv 1) pe_int (fun _ _ => rfl)) pe_int) (pa_cons pe_non pa_nil)))) pa_nil)))) pa_nil)))))), ?_⟩
    have g1' : H t = some (.tup [.int p, optV q]) := g1
    have := sm.h0
    repeat walk_at "rm"
    refine ⟨pt, _, rfl, hp, by omega, log_le (by omega) (by omega), fun low H3 l0 l1 e3 hp3 => ?_⟩
    obtain ⟨x1, y1, ep1, _⟩ := hp
    replace g1 : H3 t = some (.tup [.int p, optV q]) := e3.tup ep1 g1
    clear g1'
    cases q with
    | none =>
      dsimp only [optV] at g1
      repeat walk_at "rm"
      refine i_new rfl fun u H4 n4 s4 h4 => ?_
      exact k u low none H4 (e3.trans (Ext.same s4)) (hp3.same s4) h4 ⟨l0, by omega, fun z hz => (nomatch hz), fun z hz => (nomatch hz)⟩ (by omega) (fun z hz => (nomatch hz))
    | some z =>
      dsimp only [optV] at g1
      have z1 := sm.h2 z rfl
      have z2 := z9 z rfl
      repeat walk_at "rm"
      refine i_new rfl fun l H4 n4 s4 h4 => ?_
      have nlp : l ≠ pt := by
        obtain ⟨x, y, e, _⟩ := hp3
        exact Ne.symm (ne_of_none e n4)
      repeat walk_at "rm"
      refine ⟨pt, l, _, rfl, hp3.same s4, h4, nlp, by simp, by simp, fun v H5 hv e5 hp5 => ?_⟩
      repeat walk_at "rm"
      refine i_new rfl fun u H6 n6 s6 h6 => ?_
      have E : Ext pt H H6 := e3.trans ((Ext.same s4).trans (e5.trans (Ext.same s6)))
      simp only [List.mem_cons, List.not_mem_nil, or_false] at hv
      rcases hv with rfl | rfl | rfl
      · exact k u low (some z) H6 E (hp5.same s6) h6 ⟨l0, by omega, fun y hy => by cases hy; omega, fun y hy => by cases hy; omega⟩ (by omega) (fun y hy => by cases hy; exact ⟨z, rfl, by omega⟩)
      · exact k u low (some (z + 1)) H6 E (hp5.same s6) h6 ⟨l0, by omega, fun y hy => by cases hy; omega, fun y hy => by cases hy; omega⟩ (by omega) (fun y hy => by cases hy; exact ⟨z, rfl, by omega⟩)
      · exact k u low none H6 E (hp5.same s6) h6 ⟨l0, by omega, fun z hz => (nomatch hz), fun z hz => (nomatch hz)⟩ (by omega) (fun z hz => (nomatch hz))
theorem ok_tr (F : Fun K "_law_tables_right" "_law_tables_right" s_law_tables_right f fd) (T : TT K mg C p0 p1 p2 pl pm gl gm CT gs gw ga gd un uf) (MT : MkT P w K mg base CT) (D__law_lets : Dn P w K mg base 1 "_law_lets" spLets) (D_degree : FnR P w K mg base CX0 5 gd (spDeg CT)) :
    FnOk P w K mg base CX0 6 f fd ["_law_a", "_law_b", "_law_one", "_law_two", "_law_found"] spTR := by
  refine F.ok sc_law_tables_right (fun vs H Q E h => ?_) (fun cdv A outer s H vs Q E hr h => ?_)
  · obtain ⟨t1, t2, lf, a, b, p, r, q, z, ns, rfl, _⟩ := h
    rfl
  · obtain ⟨t1, t2, lf, a, b, p, r, q, z, ns, rfl, ha, hb, g1, g2, hf, hI, k⟩ := h
    refine ⟨_, (pss_cons (ps_for PassesOwn.never (by rfl) (pi_range1 (by rfl) T.b_range (pa_cons (pe_op op_add (pe_op op_mulW (pv 0) (pv 1)) pe_int) pa_nil)) (pg_name (i := 5) sc_law_tables_right.nd rfl (by first | exact Or.inl rfl | exact Or.inr rfl))
        (pss_cons (ps_set (i := 6) sc_law_tables_right.nd rfl (Or.inr rfl) (pe_mkT MT T.tab.gT (hr.mono (by decide)) (pa_cons (pv 0) (pa_cons (pv 1) (pa_cons (pv 5) pa_nil)))))
        (pss_cons (ps_set (i := 7) sc_law_tables_right.nd rfl (Or.inl rfl) (pe_callB (cr_all rfl) (by rfl) T.b_all (by decide +kernel) (pa_cons (pe_lc (own := [("_law_i", 8)]) (g := gName 8) (by rfl) sc_law_tables_right.nd (pi_range1 (by rfl) T.b_range (pa_cons (pv 0) pa_nil)) (blkOk_by (own := [("_law_i", 8)]) (N := n_law_tables_right) (sc := defScope s_law_tables_right) (by decide +kernel)) (fun _ _ _ _ _ => (pg_name (i := 8) sc_law_tables_right.nd rfl (by first | exact Or.inl rfl | exact Or.inr rfl))) (fun _ _ _ _ _ => pts_nil) (fun _ _ _ _ _ => (pe_cl D__law_lets (hr.mono (by decide)) (pa_cons (pv 2) (pa_cons (pe_methR (E := E0) (pv 6) T.tab.cls T.tab.m_degree D_degree (hr.mono (by decide)) pass0 (pa_cons pe_str (pa_cons (pv 8) pa_nil))) pa_nil))))) pa_nil)))
        (pss_cons (ps_set (i := 9) sc_law_tables_right.nd rfl (Or.inl rfl) (pe_callB (cr_all rfl) (by rfl) T.b_all (by decide +kernel) (pa_cons (pe_lc (own := [("_law_j", 10)]) (g := gName 10) (by rfl) sc_law_tables_right.nd (pi_range1 (by rfl) T.b_range (pa_cons (pv 1) pa_nil)) (blkOk_by (own := [("_law_j", 10)]) (N := n_law_tables_right) (sc := defScope s_law_tables_right) (by decide +kernel)) (fun _ _ _ _ _ => (pg_name (i := 10) sc_law_tables_right.nd rfl (by first | exact Or.inl rfl | exact Or.inr rfl))) (fun _ _ _ _ _ => pts_nil) (fun _ _ _ _ _ => (pe_cl D__law_lets (hr.mono (by decide)) (pa_cons (pv 3) (pa_cons (pe_methR (E := E0) (pv 6) T.tab.cls T.tab.m_degree D_degree (hr.mono (by decide)) pass0 (pa_cons pe_str (pa_cons (pv 10) pa_nil))) pa_nil))))) pa_nil)))
        (pss_one (ps_if (pt_cmpR op_ne (pe_and (pv 7) (pe_one (pv 9))) (pe_cmpR op_in_seq (pv 5) (pv 4) (by rfl)) (nomark _))
          (pss_one (ps_ret pe_bl))
          pss_nil))))))
      (pss_one (ps_ret pe_bl))), ?_⟩
    have m9 := small9 ha hb
    have sa : Sz (a : Int) := ⟨by omega, Int.lt_of_lt_of_le (b := 4) (by omega) (by decide)⟩
    have sb : Sz (b : Int) := ⟨by omega, Int.lt_of_lt_of_le (b := 4) (by omega) (by decide)⟩
    repeat walk_at "rt"
    refine i_mulW sa sb ?_
    repeat walk_at "rt"
    rw [show (a : Int) * (b : Int) + 1 = ((a * b + 1 : Nat) : Int) from by rw [Int.natCast_add, Int.natCast_mul]; rfl]
    refine ⟨by omega, by omega, ?_⟩
    rw [Int.toNat_natCast]
    refine fRng (fun i σ H' => Same H H' ∧ ∃ u1 u2 u3 u4 u5 u6, σ = [some (.int (a : Nat)), some (.int (b : Nat)), some (.ref t1), some (.ref t2), some (.ref lf), u1, u2, u3, u4, u5, u6]) ⟨Same.refl _, _, _, _, _, _, _, rfl⟩ ?_ ?_
    · rintro e σ H1 he ⟨s1, u1, u2, u3, u4, u5, u6, rfl⟩
      simp only [Int.zero_add]
      refine i_gname ?_
      refine i_seqA fun n1 e1 => ?_
      repeat walk_at "rt"
      refine i_mkT ?_
      repeat walk_at "rt"
      refine ⟨_, _, _, rfl, by omega, ?_, sa, sb, fun m H2 nm s2 hT => ?_⟩
      · have : ((e : Nat) : Int) ≤ ((a * b : Nat) : Int) := by omega
        rw [Int.natCast_mul] at this
        exact this
      subst e1
      obtain ⟨dx, hm⟩ := id hT
      refine i_seqA fun n1 e1 => ?_
      repeat walk_at "rt"
      refine ⟨by omega, by omega, ?_⟩
      rw [Int.toNat_natCast]
      refine lcR (n := a) (fun D j H ys => ys = ((List.range j).map fun i => lets p q (deg true a b e (i : Nat))).map V.bl) (by omega) (fun _ _ _ _ _ _ _ _ z => z) (fun D H => rfl) ?_ ?_
      · rintro D i H3 ys N nD hi hlen s3 hD rfl kT kF
        simp only [Int.zero_add]
        refine i_gname ⟨rfl, ?_⟩
        have hm3 := s3 _ _ hm
        repeat walk_at "rt"
        refine ⟨m, _, _, _, _, true, rfl, hT.same s3, by omega, show ((i : Nat) : Int) < (a : Int) by omega, sb, fun H4 s4 => ?_⟩
        repeat walk_at "rt"
        refine ⟨t1, p, _, q, rfl, (((s1.trans s2).trans s3).trans s4) _ _ g1, ?_⟩
        refine kT _ H4 s4 ?_
        rw [List.range_succ, List.map_append, List.map_append]
        rfl
      · rintro D H3 ys nD s3 hD hlen rfl
        repeat walk_at "rt"
        refine ⟨D, _, rfl, SqL.of hD, ?_⟩
        rw [all_id]
        repeat walk_at "rt"
        subst e1
        have hT3 := hT.same s3
        have hm3 := s3 _ _ hm
        clear hlen
        refine i_seqA fun n1 e1 => ?_
        repeat walk_at "rt"
        refine ⟨by omega, by omega, ?_⟩
        rw [Int.toNat_natCast]
        refine lcR (n := b) (fun D j H ys => ys = ((List.range j).map fun i => lets r z (deg false a b e (i : Nat))).map V.bl) (by omega) (fun _ _ _ _ _ _ _ _ z => z) (fun D H => rfl) ?_ ?_
        · rintro D i H4 ys N nD hi hlen s4 hD rfl kT kF
          simp only [Int.zero_add]
          refine i_gname ⟨rfl, ?_⟩
          have hm4 := s4 _ _ hm3
          repeat walk_at "rt"
          refine ⟨m, _, _, _, _, false, rfl, hT3.same s4, by omega, show ((i : Nat) : Int) < (b : Int) by omega, sb, fun H5 s5 => ?_⟩
          repeat walk_at "rt"
          refine ⟨t2, r, _, z, rfl, ((((s1.trans s2).trans s3).trans s4).trans s5) _ _ g2, ?_⟩
          refine kT _ H5 s5 ?_
          rw [List.range_succ, List.map_append, List.map_append]
          rfl
        · rintro D4 H4 ys nD4 s4 hD4 hlen rfl
          repeat walk_at "rt"
          refine ⟨D4, _, rfl, SqL.of hD4, ?_⟩
          rw [all_id]
          repeat walk_at "rt"
          subst e1
          have S := ((s1.trans s2).trans s3).trans s4
          have ti := tab_iff (p := p) (r := r) (q := q) (s := z) (show e ≤ a * b by omega)
          rw [← hI e (by omega)] at ti
          generalize (List.range a).all (fun i => lets p q (deg true a b e i)) = b1 at *
          generalize (List.range b).all (fun i => lets r z (deg false a b e i)) = b2 at *
          have fl : (ns.map V.int).all flatV = true := by
            rw [List.all_eq_true]
            intro v hv
            obtain ⟨i, _, rfl⟩ := List.mem_map.mp hv
            rfl
          have tb : (b1 && b2) = decide ((e : Int) ∈ ns) := by
            rw [Bool.eq_iff_iff, ti, decide_eq_true_eq]
          repeat walk_at "rt"
          have nn : ∀ c : Bool, (!decide (V.bl c = V.bl c)) = false := fun c => by simp
          refine i_itB _ (fun x1 => ?_) (fun x1 => ?_)
          · rw [x1, Bool.true_and] at tb
            repeat walk_at "rt"
            refine i_inL (SqL.of (S _ _ hf)) rfl fl ?_
            rw [inV_int, ← tb]
            refine i_ne rfl ?_
            rw [nn]
            repeat walk_at "rt"
            exact ⟨S, _, _, _, _, _, _, rfl⟩
          · rw [x1, Bool.false_and] at tb
            repeat walk_at "rt"
            refine i_inL (SqL.of (S _ _ hf)) rfl fl ?_
            rw [inV_int, ← tb]
            refine i_ne rfl ?_
            rw [nn]
            repeat walk_at "rt"
            exact ⟨S, _, _, _, _, _, _, rfl⟩
    · rintro σ H1 ⟨s1, u1, u2, u3, u4, u5, u6, rfl⟩
      repeat walk_at "rt"
      exact k H1 s1
end
end K34

set_option Elab.async false
set_option linter.all false
set_option maxRecDepth 100000
set_option maxHeartbeats 4000000
namespace K34
open L2 PyProof.Rows PySem.Spec PySem G58 SlX KXM
local macro_rules | `(tactic| walk_at "rd") => `(tactic| first
  | (with_reducible refine i_seq ?_)
  | ((with_reducible refine' i_var ?rdh ?_); (case rdh => exact rfl))
  | (with_reducible refine i_c ?_)
  | (with_reducible refine i_op ?_)
  | (with_reducible refine i_I0 ?_)
  | (with_reducible refine i_set ?_)
  | (with_reducible refine i_ret ?_)
  | (with_reducible refine i_cons ?_)
  | (with_reducible refine i_nil ?_)
  | (with_reducible refine i_cb ?_)
  | (with_reducible refine i_call ?_)
  | (with_reducible refine i_tup ?_)
  | (with_reducible refine i_lst ?_)
  | (with_reducible refine i_ifS ?_)
  | (with_reducible refine i_test ?_)
  | (with_reducible refine i_B ?_)
  | (with_reducible refine i_bl ?_)
  | (with_reducible refine i_isN ?_)
  | (with_reducible refine i_notN ?_)
  | (with_reducible refine i_andV ?_)
  | (with_reducible refine i_orV ?_)
  | (with_reducible refine i_notV ?_)
  | (with_reducible refine i_and ?_)
  | (with_reducible refine i_or ?_)
  | (with_reducible refine i_not ?_)
  | (with_reducible refine i_if ?_)
  | (with_reducible refine i_par ?_)
  | (with_reducible refine i_par2 ?_)
  | (with_reducible refine i_drop ?_)
  | (with_reducible refine i_next ?_)
  | (with_reducible refine i_retN ?_)
  | (with_reducible refine i_iteT ?_)
  | (with_reducible refine i_iteF ?_)
  | (with_reducible refine i_un ?_)
  | (with_reducible refine i_U ?_)
  | (with_reducible refine i_isiII ?_)
  | (with_reducible refine i_isiIB ?_)
  | (with_reducible refine i_nT ?_)
  | (with_reducible refine i_nF ?_)
  | (with_reducible refine i_p10_4 ?_)
  | (with_reducible refine i_p10_9 ?_)
  | (with_reducible refine i_p10_18 ?_)
  | (with_reducible refine i_p10_20 ?_)
  | (with_reducible refine i_p10_30 ?_)
  | (with_reducible refine i_p10_40 ?_)
  | (with_reducible refine i_p10_58 ?_)
  | (with_reducible refine i_p10_60 ?_)
  | (with_reducible refine i_p10_61 ?_)
  | (with_reducible refine i_p10_64 ?_)
  | (with_reducible refine i_ex1 ?_)
  | (with_reducible refine i_ex2 ?_)
  | (with_reducible refine i_toI ?_)
  | (with_reducible refine i_toB ?_)
  | ((with_reducible refine' i_ixL ?rdh ?rda ?_); (case rdh => exact SqL.of (by assumption)); (case rda => exact rfl))
  | ((with_reducible refine' i_ixT ?rdh ?rda ?_); (case rdh => exact SqT.of (by assumption)); (case rda => exact rfl))
  | (with_reducible refine i_mulR ⟨by decide, by decide⟩ ?_)
  | (with_reducible refine i_mulL ⟨by decide, by decide⟩ ?_)
  | (with_reducible refine i_mod (by decide) ?_)
  | (with_reducible refine i_div ⟨by decide, by decide⟩ ?_)
  | ((with_reducible refine' i_gtup ?rdh ?rdl ?_); (case rdh => exact SqT.of (by assumption)); (case rdl => exact rfl))
  | (with_reducible refine i_gcons ?_)
  | (with_reducible refine i_gnil ?_)
  | (with_reducible refine i_gname ?_)
  | (with_reducible refine i_gsub ?_)
  | (with_reducible refine i_bm ?_)
  | (with_reducible refine i_bm0 ?_)
  | ((with_reducible refine' i_tyL ?rdh ?_); (case rdh => assumption))
  | (with_reducible refine i_for ?_)
  | (with_reducible refine i_itup ?_)
  | (with_reducible refine i_ilist ?_)
  | (with_reducible refine i_irng1 ?_)
  | (with_reducible refine i_irng2 ?_)
  | (with_reducible refine i_lc ?_)
  | (with_reducible refine i_yes ?_)
  | (with_reducible refine i_asg ?_)
  | dsimp only)
local macro_rules | `(tactic| walk_at "rm") => `(tactic| first
  | walk_at "rd"
  | (with_reducible refine i_prop ?_)
  | ((with_reducible refine' i_pl ?rdh ?_); (case rdh => assumption))
  | ((with_reducible refine' i_pmS ?rdh ?_); (case rdh => assumption))
  | ((with_reducible refine' i_pmN ?rdh ?_); (case rdh => assumption))
  | ((with_reducible refine' i_pm ?rdh ?_); (case rdh => assumption))
  | (with_reducible refine i_mkM ?_)
  | (with_reducible refine i_NT ?_)
  | (with_reducible refine i_NF ?_)
  | (with_reducible refine i_YT ?_)
  | (with_reducible refine i_YF ?_))
local macro_rules | `(tactic| walk_at "rt") => `(tactic| first
  | walk_at "rm"
  | (with_reducible refine i_fld ?_)
  | ((with_reducible refine' i_fldA ?rdh ?rdc ?rdn ?rdl ?_); (case rdh => assumption); (case rdc => assumption); (case rdn => assumption); (case rdl => exact rfl))
  | (with_reducible refine i_methR ?_)
  | ((with_reducible refine' i_mAt ?rdh ?rdl ?_); (case rdh => assumption); (case rdl => exact rfl))
  | (with_reducible refine i_sfld ?_)
  | (with_reducible refine i_gfld ?_)
  | (with_reducible refine i_eqS ?_)
  | (with_reducible refine i_isiSS ?_))
abbrev s_law_right : Stmt := top 49
abbrev n_law_right : List Str := ["_law_pot", "_law_a", "_law_b", "_law_one", "_law_two", "_law_found", "_law_net", "_law_due", "_law_shown", "_law_more"]
theorem sc_law_right : FnScope n_law_right ["_law_pot"] (defScope s_law_right) := ⟨rfl, rfl, rfl, by decide +kernel, rfl, by decide +kernel, by decide +kernel⟩
def dT : Option (Int × Int) → PyData
  | none => .none
  | some (x, y) => .tuple [.int x, .int y]
def Small (o : Option (Int × Int)) : Prop := ∀ x y, o = some (x, y) → Bd 700 x ∧ Bd 700 y
theorem bd_log {n : Nat} {i : Int} (h : Bd n i) (h0 : 0 < n) : i.natAbs.log2 < n := PySem.Flt.log2_lt_of h0 h.abs
theorem ResT.ext {H H' : Hp} {v : V} {o : Option (Int × Int)} {p : Addr} {xs : List V} (h : ResT H v o) (hp : H p = some (.lst xs)) (e : Ext p H H') : ResT H' v o := by
  match o, h with
  | none, h => exact h
  | some (x, y), ⟨t, e', h⟩ => exact ⟨t, e', e.tup hp h⟩
theorem i_reprT {K : PySem.W.Frag} {H : Hp} {Q : VK} {v : V} {o : Option (Int × Int)} (h : ResT H v o) (hb : Small o) (q : Q (.str (dT o).shown) H) : rReprD K [v] H Q := by
  match o, h, hb, q with
  | none, h, hb, q =>
    cases h
    exact ⟨.non, .none, rfl, .non, rfl, rfl, by decide, by decide, q⟩
  | some (x, y), ⟨t, e, ht⟩, hb, q =>
    cases e
    obtain ⟨b1, b2⟩ := hb x y rfl
    have l1 : x.natAbs.log2 < 1920 := Nat.lt_trans (bd_log b1 (by decide)) (by decide)
    have l2 : y.natAbs.log2 < 1920 := Nat.lt_trans (bd_log b2 (by decide)) (by decide)
    refine ⟨.ref t, .tuple [.int x, .int y], rfl, .tup (SqT.of ht) (.cons (.int x) (.cons (.int y) .nil)), ?_, rfl, (by simp [PyData.depth, PyData.depthAll]), ?_, q⟩
    · show (decide (x.natAbs.log2 < 1920) && (decide (y.natAbs.log2 < 1920) && true)) = true
      rw [decide_eq_true l1, decide_eq_true l2]
      rfl
    · show (tupleText [Str.ofString (toString x), Str.ofString (toString y)]).length ≤ sizeLine
      have e1 := int_text_len_1921 l1
      have e2 := int_text_len_1921 l2
      have e3 := tupleText_len_le [Str.ofString (toString x), Str.ofString (toString y)]
      simp only [List.map_cons, List.map_nil, List.sum_cons, List.sum_nil, List.length_cons, List.length_nil] at e3
      rw [sizeLine_eq]
      omega
theorem tot_small {a p : Int} {q : Option Int} {b r : Int} {s : Option Int} (ha : Sz a) (hb : Sz b) (N1 : Nq p q) (N2 : Nq r s) : Small (tot a p q b r s) := by
  intro x y h
  obtain ⟨_, ex, ey⟩ := tot_some h
  have m1 : Bd 700 (a * p) := (ha.mul N1.bp).mono (by decide)
  have m2 : Bd 700 (b * r) := (hb.mul N2.bp).mono (by decide)
  refine ⟨?_, ?_⟩
  · rw [ex]
    split
    · exact m2
    · exact m1
  · have mem : y ∈ tops a q b s := by
      rw [ey]
      exact mnl_mem _ _
    unfold tops at mem
    rcases List.mem_cons.mp mem with e | mem
    · rw [e]
      exact (ha.mul hb).mono (by decide)
    · rcases List.mem_append.mp mem with mem | mem
      · cases q with
        | none => cases mem
        | some z =>
          have e : y = a * z := by simpa using mem
          rw [e]
          exact (ha.mul (N1.bq z rfl)).mono (by decide)
      · cases s with
        | none => cases mem
        | some z =>
          have e : y = b * z := by simpa using mem
          rw [e]
          exact (hb.mul (N2.bq z rfl)).mono (by decide)
theorem i_neS {A B : Str} {H : Hp} {Q : VK} (e : A = B) (q : Q (.bl false) H) : rNe (.str A) (.str B) H Q := by
  subst e
  refine i_ne (by rfl) ?_
  rw [decide_eq_true rfl]
  exact q
section
variable {A B : Prop} {t : Addr}
theorem i_NR (h : A) : if (!decide (V.ref t = V.non)) = true then A else B := iteT (by simpa using h)
theorem i_YR (h : B) : if decide (V.ref t = V.non) = true then A else B := iteF (by simpa using h)
end
theorem dp_ints {K : PySem.W.Frag} {H : Hp} : ∀ ns : List Int, DpAll K H (ns.map V.int) (ns.map PyData.int)
  | [] => .nil
  | n :: ns => .cons (.int n) (dp_ints ns)
theorem lay_ints : ∀ ns : List Int, PyData.canLayAll0 (ns.map PyData.int) = true
  | [] => rfl
  | n :: ns => by simp [PyData.canLayAll0, PyData.canLay0, lay_ints ns]
theorem depth_ints : ∀ ns : List Int, PyData.depthAll (ns.map PyData.int) ≤ 1
  | [] => by simp [PyData.depthAll]
  | n :: ns => by
    have := depth_ints ns
    simp [PyData.depthAll, PyData.depth]
    omega
theorem shaped_ints (ns : List Int) : SeqAt.shaped (.list (ns.map PyData.int)) = true := by
  unfold SeqAt.shaped
  have := depth_ints ns
  rw [Bool.and_eq_true, decide_eq_true_eq]
  refine ⟨by simp [PyData.canLay0, lay_ints], ?_⟩
  unfold PyData.depth
  omega
theorem eqv_ints : ∀ ns ms : List Int, PyData.eqvAll (ns.map PyData.int) (ms.map PyData.int) = decide (ns = ms)
  | [], [] => by simp [PyData.eqvAll]
  | [], m :: ms => by simp [PyData.eqvAll]
  | n :: ns, [] => by simp [PyData.eqvAll]
  | n :: ns, m :: ms => by
    simp only [List.map_cons, PyData.eqvAll, PyData.eqv, eqv_ints ns ms]
    by_cases h1 : n = m <;> by_cases h2 : ns = ms <;> simp [h1, h2]
theorem i_neI {K : PySem.W.Frag} {H : Hp} {Q : VK} {p q : Addr} {ns ms : List Int} (h1 : H p = some (.lst (ns.map V.int))) (h2 : H q = some (.lst (ms.map V.int))) (k : Q (.bl (!decide (ns = ms))) H) : rNeD K (.ref p) (.ref q) H Q := by
  refine ⟨_, _, .lst (SqL.of h1) (dp_ints ns), .lst (SqL.of h2) (dp_ints ms), shaped_ints _, shaped_ints _, ?_⟩
  show Q (.bl (!PyData.eqvAll _ _)) H
  rw [eqv_ints]
  exact k
local macro_rules | `(tactic| walk_at "rr") => `(tactic| first
  | walk_at "rt"
  | (with_reducible refine i_NR ?_)
  | (with_reducible refine i_YR ?_))
def spRight : Sp := fun vs H Q _ => ∃ (p : Addr), vs = [.ref p] ∧ Pot H p ∧ ∀ H', Ext p H H' → Pot H' p → Q (.bl true) H'
/-- what the law finds and what is due -/
theorem found_law {a b : Nat} {p r : Int} {q s : Option Int} {ns : List Int} (s1 : Sm p q) (s2 : Sm r s) (hr : ns.Pairwise (· < ·)) (hm : ∀ k : Int, k ∈ ns ↔ Inn a p q b r s k) :
    (ns = [] ∧ tot a p q b r s = none) ∨ (∃ x y : Int, ns ≠ [] ∧ tot a p q b r s = some (x, y) ∧ atI ns 0 = some x ∧ atI ns (-1) = some y ∧ 0 ≤ x ∧ x ≤ y ∧ ns = rg x (y + 1 - x).toNat) := by
  obtain ⟨h1, h2⟩ := inn_of_tot (a := a) (b := b) (by omega) (by omega) s1.h0 s2.h0 s1.h2 s2.h2
  cases ht : tot a p q b r s with
  | none =>
    refine .inl ⟨?_, rfl⟩
    cases ns with
    | nil => rfl
    | cons n ns => exact absurd ((hm n).mp List.mem_cons_self) (h1 ht n)
  | some xy =>
    obtain ⟨x, y⟩ := xy
    obtain ⟨x0, xy, hk⟩ := h2 x y ht
    have en : ns = rg x (y + 1 - x).toNat := by
      refine rising hr (rg_rising _ _) fun k => ?_
      rw [hm k, hk k, rg_mem]
      omega
    have hl : ns.length = (y + 1 - x).toNat := by rw [en]; simp [rg]
    refine .inr ⟨x, y, fun z => by rw [z] at hl; simp at hl; omega, rfl, ?_, ?_, x0, xy, en⟩
    · have z := atI_nat (xs := ns) (j := 0) (v := x) (by rw [en]; unfold rg; rw [List.getElem?_map, List.getElem?_range (by omega)]; simp)
      exact z
    · have h0 : 0 < ns.length := by omega
      have z : ns[ns.length - 1]? = some y := by
        rw [hl, en]
        unfold rg
        rw [List.getElem?_map, List.getElem?_range (by omega)]
        simp
        omega
      have e1 : ixN ns.length (-1) = some (ns.length - 1) := by
        unfold ixN
        simp
        omega
      unfold atI
      rw [e1]
      exact z
theorem rgV_rg (x y : Int) : rgV x y = (rg x (y - x).toNat).map V.int := by
  unfold rgV rg
  rw [List.map_map]
  rfl
theorem atI_ints {ns : List Int} {i x : Int} (h : atI ns i = some x) : atI (ns.map V.int) i = some (.int x) := by
  unfold atI at h ⊢
  rw [List.length_map]
  cases e : ixN ns.length i with
  | none => rw [e] at h; cases h
  | some j =>
    rw [e] at h
    show (ns.map V.int)[j]? = _
    rw [List.getElem?_map]
    have h' : ns[j]? = some x := h
    rw [h']
    rfl
theorem i_lrg {K : PySem.W.Frag} {te : L2.St → Hp → (Int → Int → Hp → Prop) → Prop} {σ : L2.St} {H : Hp} {Q : VK} (h : te σ H fun a b H1 => RgOk a b ∧ ∀ q, H1 q = none → Q (.ref q) (upd H1 q (.lst (rgV a b)))) : tLstRg te σ H Q := h
theorem i_rg2 {ta tb : TE} {σ : L2.St} {H : Hp} {Q : Int → Int → Hp → Prop} (h : ta σ H fun x H1 => tb σ H1 fun y H2 => ∃ i j, x = .int i ∧ y = .int j ∧ Q i j H2) : tRg2 ta tb σ H Q := h
def foundL (a b : Nat) (p : Int) (q : Option Int) (r : Int) (s : Option Int) (n : Nat) : List Int := ((List.range n).filter (fun c => isLet (sel (spots a b) c) a b p q r s)).map fun c => ((sel (spots a b) c).length : Int)
theorem foundL_succ (a b : Nat) (p : Int) (q : Option Int) (r : Int) (s : Option Int) (n : Nat) : foundL a b p q r s (n + 1) = foundL a b p q r s n ++ (if isLet (sel (spots a b) n) a b p q r s = true then [((sel (spots a b) n).length : Int)] else []) := by
  unfold foundL
  rw [List.range_succ, List.filter_append, List.map_append]
  congr 1
  by_cases c : isLet (sel (spots a b) n) a b p q r s = true
  · simp [c]
  · simp [c]
theorem foundL_mem {a b : Nat} (ha : a < 4) (hb : b < 4) (p : Int) (q : Option Int) (r : Int) (s : Option Int) (k : Int) : k ∈ foundL a b p q r s (2 ^ (a * b)) ↔ Inn a p q b r s k := by
  rw [← found_iff ha hb]
  unfold foundL
  simp only [List.mem_map, List.mem_filter, List.mem_range]
  constructor
  · rintro ⟨c, ⟨h1, h2⟩, h3⟩
    exact ⟨c, h1, h2, h3⟩
  · rintro ⟨c, h1, h2, h3⟩
    exact ⟨c, ⟨h1, h2⟩, h3⟩
section
variable {P : Program} {w : World} {K : PySem.W.Frag} {mg : Str → Option Value} {base : Heap} {f : Addr} {fd : FuncData} {C p0 p1 p2 pl pm gl gm CT gs gw ga gd : Addr} {un uf : Value}
set_option maxHeartbeats 0 in
theorem ok_right (F : Fun K "_law_right" "_law_right" s_law_right f fd) (T : TT K mg C p0 p1 p2 pl pm gl gm CT gs gw ga gd un uf) (D__law_draw : Dn P w K mg base 1 "_law_draw" spDraw)
    (D__law_numbers_in : Dn P w K mg base 3 "_law_numbers_in" spNumbers) (D__law_nets_in : Dn P w K mg base 1 "_law_nets_in" spNets) (D__law_is_let : Dn P w K mg base 2 "_law_is_let" spIsLet)
    (D__law_made_many : Dn P w K mg base 6 "_law_made_many" (spMadeMany C)) (D__law_wider : Dn P w K mg base 3 "_law_wider" spWider) (D__law_tables_right : Dn P w K mg base 6 "_law_tables_right" spTR)
    (D_totals : Dn P w K mg base 5 "totals" (spTotals C)) : FnG P w K mg base CX0 8 f fd ["_law_pot"] spRight := by
  refine okG F sc_law_right (fun vs H Q E h => ?_) (fun cdv A outer s H vs Q E hgd hr h => ?_)
  · obtain ⟨p, rfl, _⟩ := h
    rfl
  · obtain ⟨pt, rfl, hp, k⟩ := h
    refine ⟨_, (pss_cons (ps_asg (pe_tupN (pa_cons (pe_cl D__law_draw (hr.mono (by decide)) (pa_cons (pv 0) (pa_cons pe_int pa_nil))) (pa_cons (pe_cl D__law_draw (hr.mono (by decide)) (pa_cons (pv 0) (pa_cons pe_int pa_nil))) (pa_cons (pe_cl D__law_numbers_in (hr.mono (by decide)) (pa_cons (pv 0) (pa_cons pe_int pa_nil))) (pa_cons (pe_cl D__law_numbers_in (hr.mono (by decide)) (pa_cons (pv 0) (pa_cons pe_int pa_nil))) pa_nil))))) (pg_tup (by rfl) (pgs_cons (pg_name (i := 1) sc_law_right.nd rfl (by first | exact Or.inl rfl | exact Or.inr rfl)) (pgs_cons (pg_name (i := 2) sc_law_right.nd rfl (by first | exact Or.inl rfl | exact Or.inr rfl)) (pgs_cons (pg_name (i := 3) sc_law_right.nd rfl (by first | exact Or.inl rfl | exact Or.inr rfl)) (pgs_cons (pg_name (i := 4) sc_law_right.nd rfl (by first | exact Or.inl rfl | exact Or.inr rfl)) pgs_nil))))))
      (pss_cons (ps_set (i := 5) sc_law_right.nd rfl (Or.inl rfl) (pe_callB (cr_sortedSet rfl) (by rfl) T.b_sorted (by decide +kernel) (pa_cons (pe_callTy (cr_setI rfl) (by rfl) T.b_set (by decide +kernel) (pa_cons (pe_lc (own := [("_law_net", 6)]) (g := gName 6) (by rfl) sc_law_right.nd (pi_list (pe_cl D__law_nets_in (hr.mono (by decide)) (pa_cons (pv 1) (pa_cons (pv 2) pa_nil)))) (blkOk_by (own := [("_law_net", 6)]) (N := n_law_right) (sc := defScope s_law_right) (by decide +kernel)) (fun _ _ _ _ _ => (pg_name (i := 6) sc_law_right.nd rfl (by first | exact Or.inl rfl | exact Or.inr rfl))) (fun _ _ _ _ _ => (pts_one (pt_val (pe_cl D__law_is_let (hr.mono (by decide)) (pa_cons (pv 6) (pa_cons (pv 1) (pa_cons (pv 2) (pa_cons (pv 3) (pa_cons (pv 4) pa_nil))))))))) (fun _ _ _ _ _ => (pe_callB (id := "len") (r := fun xs H Q => ∃ p ys, xs = [V.ref p] ∧ (SqL K H p ys ∨ SqT K H p ys) ∧ Q (.int ys.length) H) call_len_seq (by rfl) T.b_len (by decide +kernel) (pa_cons (pv 6) pa_nil)))) pa_nil)) pa_nil)))
      (pss_cons (ps_set (i := 7) sc_law_right.nd rfl (Or.inl rfl) (pe_ifExp (pt_cmpR (op_neD hr.units) (pv 5) (pe_lstN pa_nil) (nomark _)) (pe_tupN (pa_cons (pe_ix ix_list (pv 5) pe_int (fun _ _ => rfl)) (pa_cons (pe_ix ix_list (pv 5) (pe_un un_neg pe_int) (fun _ _ => rfl)) pa_nil))) pe_non))
      (pss_cons (ps_set (i := 8) sc_law_right.nd rfl (Or.inl rfl) (pe_cl D_totals (hr.mono (by decide)) (pa_cons (pv 1) (pa_cons (pe_cl D__law_made_many (hr.mono (by decide)) (pa_cons (pv 3) pa_nil)) (pa_cons (pv 2) (pa_cons (pe_cl D__law_made_many (hr.mono (by decide)) (pa_cons (pv 4) pa_nil)) pa_nil))))))
      (pss_cons (ps_if (PW.pt (pw_or (pt_cmpR op_ne (pe_callB (call_reprD hgd hr.units) (by rfl) T.b_repr (by decide +kernel) (pa_cons (pv 8) pa_nil)) (pe_callB (call_reprD hgd hr.units) (by rfl) T.b_repr (by decide +kernel) (pa_cons (pv 7) pa_nil)) (nomark _)) (pw_or1 (pt_cmpR op_ne (pe_callB (call_reprD hgd hr.units) (by rfl) T.b_repr (by decide +kernel) (pa_cons (pe_cl D_totals (hr.mono (by decide)) (pa_cons (pv 2) (pa_cons (pe_cl D__law_made_many (hr.mono (by decide)) (pa_cons (pv 4) pa_nil)) (pa_cons (pv 1) (pa_cons (pe_cl D__law_made_many (hr.mono (by decide)) (pa_cons (pv 3) pa_nil)) pa_nil))))) pa_nil)) (pe_callB (call_reprD hgd hr.units) (by rfl) T.b_repr (by decide +kernel) (pa_cons (pv 7) pa_nil)) (nomark _)))))
        (pss_one (ps_ret pe_bl))
        pss_nil)
      (pss_cons (ps_if (PW.pt (pw_and (pt_cmpR (op_neD hr.units) (pv 5) (pe_lstN pa_nil) (nomark _)) (pw_and1 (pt_cmpR (op_neD hr.units) (pv 5) (pe_listRg rfl (by rfl) T.b_list (prg_2 (by rfl) T.b_range (pe_ix ix_list (pv 5) pe_int (fun _ _ => rfl)) (pe_op op_add (pe_ix ix_list (pv 5) (pe_un un_neg pe_int) (fun _ _ => rfl)) pe_int))) (nomark _)))))
        (pss_one (ps_ret pe_bl))
        pss_nil)
      (pss_cons (ps_if (pt_not (pt_val (pe_cl D__law_tables_right (hr.mono (by decide)) (pa_cons (pv 1) (pa_cons (pv 2) (pa_cons (pv 3) (pa_cons (pv 4) (pa_cons (pv 5) pa_nil))))))))
        (pss_one (ps_ret pe_bl))
        pss_nil)
      (pss_cons (ps_set (i := 9) sc_law_right.nd rfl (Or.inl rfl) (pe_cl D_totals (hr.mono (by decide)) (pa_cons (pv 1) (pa_cons (pe_cl D__law_made_many (hr.mono (by decide)) (pa_cons (pe_cl D__law_wider (hr.mono (by decide)) (pa_cons (pv 0) (pa_cons (pv 3) pa_nil))) pa_nil)) (pa_cons (pv 2) (pa_cons (pe_cl D__law_made_many (hr.mono (by decide)) (pa_cons (pe_cl D__law_wider (hr.mono (by decide)) (pa_cons (pv 0) (pa_cons (pv 4) pa_nil))) pa_nil)) pa_nil))))))
      (pss_one (ps_ret (pe_or (pe_cmp (pc_isN (pv 8))) (pe_one (pe_and (pe_cmp (pc_notN (pv 9))) (pe_and (pe_cmpR op_le (pe_ix ix_tup (pv 9) pe_int (fun _ _ => rfl)) (pe_ix ix_tup (pv 8) pe_int (fun _ _ => rfl)) (nomark _)) (pe_one (pe_cmpR op_ge (pe_ix ix_tup (pv 9) pe_int (fun _ _ => rfl)) (pe_ix ix_tup (pv 8) pe_int (fun _ _ => rfl)) (nomark _))))))))))))))))), ?_⟩
    refine i_seqA fun n e => ?_
    repeat walk_at "rr"
    refine ⟨pt, 4, rfl, hp, by decide, by decide +kernel, fun a H1 a0 a1 e1 hp1 => ?_⟩
    repeat walk_at "rr"
    refine ⟨pt, 4, rfl, hp1, by decide, by decide +kernel, fun b H2 b0 b1 e2 hp2 => ?_⟩
    repeat walk_at "rr"
    refine ⟨pt, 4, rfl, hp2, by decide, by decide, fun t1 p q H3 e3 hp3 g1 sm1 zq1 zp1 => ?_⟩
    repeat walk_at "rr"
    refine ⟨pt, 4, rfl, hp3, by decide, by decide, fun t2 r z H4 e4 hp4 g2 sm2 zq2 zp2 => ?_⟩
    obtain ⟨x3, y3, ep3, _⟩ := id hp3
    replace g1 : PairAt H4 t1 p q := e4.tup ep3 g1
    have E4 : Ext pt H H4 := e1.trans (e2.trans (e3.trans e4))
    repeat walk_at "rr"
    refine i_new rfl fun u3 H5 n5 s5 hu3 => ?_
    replace g1 : PairAt H5 t1 p q := s5 _ _ g1
    replace g2 : PairAt H5 t2 r z := s5 _ _ g2
    repeat walk_at "rr"
    obtain ⟨a, rfl⟩ := Int.eq_ofNat_of_zero_le a0
    obtain ⟨b, rfl⟩ := Int.eq_ofNat_of_zero_le b0
    have ha : a < 4 := by omega
    have hb : b < 4 := by omega
    have m9 := small9 ha hb
    have sa : Sz (a : Int) := ⟨by omega, Int.lt_of_lt_of_le (b := 4) (by omega) (by decide)⟩
    have sb : Sz (b : Int) := ⟨by omega, Int.lt_of_lt_of_le (b := 4) (by omega) (by decide)⟩
    have N1 := sm1.nq
    have N2 := sm2.nq
    subst e
    refine i_seqA fun n e => ?_
    repeat walk_at "rr"
    refine ⟨a, b, rfl, ha, hb, fun l H6 s6 hN => ?_⟩
    replace g1 : PairAt H6 t1 p q := s6 _ _ g1
    replace g2 : PairAt H6 t2 r z := s6 _ _ g2
    obtain ⟨rs, hl, hrs⟩ := hN
    have b512 : 2 ^ (a * b) ≤ 512 := Nat.le_trans (Nat.pow_le_pow_right (n := 2) (by decide) m9) (by decide)
    have lrs := pair_len hrs
    rw [List.length_range] at lrs
    refine ⟨l, rfl, ⟨_, SqL.of hl⟩, ?_⟩
    refine lcL (xs := rs.map V.ref) (fun D j H ys => ys = (foundL a b p q r z j).map V.int) (by rw [List.length_map]; omega) (SqL.of hl) (fun _ _ _ _ _ _ _ _ z => z) (fun D H => rfl) ?_ ?_
    · rintro D j v H7 ys N nD hj hlen s7 hD rfl kT kF
      have hj' : j < 2 ^ (a * b) := by
        have := (List.getElem?_eq_some_iff.mp hj).1
        rw [List.length_map] at this
        omega
      obtain ⟨x, y, x1, x2, x3⟩ := pair_at j hrs (by rw [List.length_range]; exact hj')
      have ev : v = .ref x := by
        rw [List.getElem?_map, x1] at hj
        exact (Option.some.inj hj).symm
      subst ev
      have ey : y = j := by
        rw [List.getElem?_range hj'] at x2
        exact (Option.some.inj x2).symm
      subst ey
      have sl := (sums a ha b hb y hj').2.2
      have sx := foundL_succ a b p q r z y
      refine i_gname ⟨rfl, ?_⟩
      repeat walk_at "rr"
      refine ⟨x, t1, t2, a, b, p, r, q, z, sel (spots a b) y, rfl, ha, hb, by omega, x3.same s7, s7 _ _ g1, s7 _ _ g2, fun H8 s8 => ?_⟩
      repeat walk_at "rr"
      cases cc : isLet (sel (spots a b) y) a b p q r z with
      | true =>
        rw [if_pos cc] at sx
        refine iteT ?_
        obtain ⟨ts, hx, ht⟩ := (x3.same s7).same s8
        have tl := pair_len ht
        repeat walk_at "rr"
        refine i_lenL (SqL.of hx) ?_
        refine kT _ H8 s8 ?_
        rw [sx, List.map_append, List.length_map, tl]
        rfl
      | false =>
        rw [if_neg (by rw [cc]; decide), List.append_nil] at sx
        refine iteF (kF H8 s8 ?_)
        rw [sx]
    rintro D H7 ys nD s7 hD hlen rfl
    have fm := foundL_mem ha hb p q r z
    simp only [List.length_map, lrs] at hD hlen
    generalize foundL a b p q r z (2 ^ (a * b)) = ns0 at *
    repeat walk_at "rr"
    refine ⟨D, ns0, rfl, SqL.of hD, by omega, fun ps c H8 np8 s8 hc hset => ?_⟩
    have c64 : c < 64 := by
      have := hc 10 fun k hk => by
        have z := (fm k).mp hk
        have z3 := z.h3
        have : ((a * b : Nat) : Int) ≤ 9 := by omega
        rw [Int.natCast_mul] at this
        have := z.h0
        omega
      omega
    repeat walk_at "rr"
    refine ⟨ps, _, c, rfl, hset, c64, fun ns lf hr hm hln nlf => ?_⟩
    have hm' : ∀ k : Int, k ∈ ns ↔ Inn a p q b r z k := fun k => by
      rw [hm k, decide_eq_true_eq]
      exact fm k
    have S8 : Same H6 (upd H8 lf (.lst (ns.map V.int))) := (s7.trans s8).trans (same_new nlf)
    generalize hH9 : upd H8 lf (.lst (ns.map V.int)) = H9 at *
    have hf : H9 lf = some (.lst (ns.map V.int)) := by rw [← hH9]; exact upd_same
    clear hH9 hset hm hD s7 s8 nD
    have S4 : Same H4 H9 := (s5.trans s6).trans S8
    replace g1 : PairAt H9 t1 p q := S8 _ _ g1
    replace g2 : PairAt H9 t2 r z := S8 _ _ g2
    have hp9 := hp4.same S4
    have E9 : Ext pt H H9 := E4.trans (Ext.same S4)
    have fl := found_law sm1 sm2 hr hm'
    clear hu3 hl hrs n5 nlf np8
    repeat walk_at "rr"
    subst e
    refine i_seqA fun n e => ?_
    have rest : ∀ due H10, Same H9 H10 → ResT H10 due (tot a p q b r z) → n [some (.ref pt), some (.int a), some (.int b), some (.ref t1), some (.ref t2), some (.ref lf), none, some due, none, none] H10 := by
      intro due H10 s10 rd
      subst e
      replace g1 : PairAt H10 t1 p q := s10 _ _ g1
      replace g2 : PairAt H10 t2 r z := s10 _ _ g2
      replace hf := s10 _ _ hf
      replace hp9 := hp9.same s10
      replace E9 : Ext pt H H10 := E9.trans (Ext.same s10)
      have sm := tot_small sa sb N1 N2
      clear S4 S8 s10 E4 hp4 e1 e2 e3 e4 hp1 hp2 hp3
      refine i_seqA fun n e => ?_
      repeat walk_at "rr"
      refine ⟨t1, p, q, rfl, g1, N1.ok, fun m1 H11 s11 M1 => ?_⟩
      repeat walk_at "rr"
      refine ⟨t2, r, z, rfl, s11 _ _ g2, N2.ok, fun m2 H12 s12 M2 => ?_⟩
      repeat walk_at "rr"
      refine ⟨a, b, m1, m2, p, r, q, z, rfl, M1.same s12, M2, N1, N2, sa, sb, fun shown H13 s13 rs => ?_⟩
      have S := (s11.trans s12).trans s13
      replace rd := rd.same S
      replace g1 : PairAt H13 t1 p q := S _ _ g1
      replace g2 : PairAt H13 t2 r z := S _ _ g2
      replace hf := S _ _ hf
      replace hp9 := hp9.same S
      replace E9 : Ext pt H H13 := E9.trans (Ext.same S)
      clear S s11 s12 s13 M1 M2
      repeat walk_at "rr"
      subst e
      refine i_seqA fun n e => ?_
      repeat walk_at "rr"
      refine i_reprT rs sm ?_
      repeat walk_at "rr"
      refine i_reprT rd sm ?_
      refine i_neS rfl ?_
      repeat walk_at "rr"
      refine ⟨t2, r, z, rfl, g2, N2.ok, fun m1 H11 s11 M1 => ?_⟩
      repeat walk_at "rr"
      refine ⟨t1, p, q, rfl, s11 _ _ g1, N1.ok, fun m2 H12 s12 M2 => ?_⟩
      repeat walk_at "rr"
      refine ⟨b, a, m1, m2, r, p, z, q, rfl, M1.same s12, M2, N2, N1, sb, sa, fun sw H14 s14 rw_ => ?_⟩
      rw [tot_sym] at rw_
      have S := (s11.trans s12).trans s14
      replace rd := rd.same S
      replace rs := rs.same S
      replace g1 : PairAt H14 t1 p q := S _ _ g1
      replace g2 : PairAt H14 t2 r z := S _ _ g2
      replace hf := S _ _ hf
      replace hp9 := hp9.same S
      replace E9 : Ext pt H H14 := E9.trans (Ext.same S)
      clear S s11 s12 s14 M1 M2
      repeat walk_at "rr"
      refine i_reprT rw_ sm ?_
      repeat walk_at "rr"
      refine i_reprT rd sm ?_
      refine i_neS rfl ?_
      repeat walk_at "rr"
      subst e
      refine i_seqA fun n e => ?_
      have rest2 : ∀ H15, Same H14 H15 → n [some (.ref pt), some (.int a), some (.int b), some (.ref t1), some (.ref t2), some (.ref lf), none, some due, some shown, none] H15 := by
        intro H15 S
        subst e
        replace rs := rs.same S
        replace g1 : PairAt H15 t1 p q := S _ _ g1
        replace g2 : PairAt H15 t2 r z := S _ _ g2
        replace hf := S _ _ hf
        replace hp9 := hp9.same S
        replace E9 : Ext pt H H15 := E9.trans (Ext.same S)
        clear S rd
        refine i_seqA fun n e => ?_
        repeat walk_at "rr"
        refine ⟨t1, t2, lf, a, b, p, r, q, z, ns, rfl, ha, hb, g1, g2, hf, fun e _ => hm' e, fun H16 S => ?_⟩
        replace rs := rs.same S
        replace g1 : PairAt H16 t1 p q := S _ _ g1
        replace g2 : PairAt H16 t2 r z := S _ _ g2
        replace hp9 := hp9.same S
        replace E9 : Ext pt H H16 := E9.trans (Ext.same S)
        repeat walk_at "rr"
        subst e
        refine i_seqA fun n e => ?_
        repeat walk_at "rr"
        refine ⟨pt, t1, p, q, rfl, hp9, g1, sm1, zq1, zp1, fun u1 p' q' H17 e17 hp17 gu1 smu1 l1 l2 => ?_⟩
        obtain ⟨x9, y9, ep9, _⟩ := id hp9
        replace rs := rs.ext ep9 e17
        replace g2 : PairAt H17 t2 r z := e17.tup ep9 g2
        repeat walk_at "rr"
        refine ⟨u1, p', q', rfl, gu1, smu1.nq.ok, fun m1 H18 s18 M1 => ?_⟩
        replace rs := rs.same s18
        replace g2 : PairAt H18 t2 r z := s18 _ _ g2
        have hp18 := hp17.same s18
        repeat walk_at "rr"
        refine ⟨pt, t2, r, z, rfl, hp18, g2, sm2, zq2, zp2, fun u2 r' z' H19 e19 hp19 gu2 smu2 l3 l4 => ?_⟩
        obtain ⟨x18, y18, ep18, _⟩ := id hp18
        replace rs := rs.ext ep18 e19
        replace M1 := M1.ext ep18 e19
        repeat walk_at "rr"
        refine ⟨u2, r', z', rfl, gu2, smu2.nq.ok, fun m2 H20 s20 M2 => ?_⟩
        replace rs := rs.same s20
        replace M1 := M1.same s20
        have hp20 := hp19.same s20
        repeat walk_at "rr"
        refine ⟨a, b, m1, m2, p', r', q', z', rfl, M1, M2, smu1.nq, smu2.nq, sa, sb, fun more H21 s21 rm => ?_⟩
        replace rs := rs.same s21
        have E21 : Ext pt H H21 := E9.trans (e17.trans ((Ext.same s18).trans (e19.trans (Ext.same (s20.trans s21)))))
        have hp21 := hp20.same s21
        repeat walk_at "rr"
        subst e
        cases ht : tot a p q b r z with
        | none =>
          rw [ht] at rs
          have e8 : shown = .non := rs
          subst e8
          repeat walk_at "rr"
          exact k _ E21 hp21
        | some xy =>
          obtain ⟨x, y⟩ := xy
          rw [ht] at rs
          obtain ⟨ts, e8, hts⟩ := rs
          subst e8
          obtain ⟨x', y', ht', i1, i2⟩ := tot_wider sa.1 sb.1 l1 l3 l2 l4 ht
          rw [ht'] at rm
          obtain ⟨tm, e14, htm⟩ := rm
          subst e14
          repeat walk_at "rr"
          rw [decide_eq_true (show x' ≤ x by omega)]
          repeat walk_at "rr"
          rw [decide_eq_true (show y ≤ y' by omega)]
          repeat walk_at "rr"
          exact k _ E21 hp21
      repeat walk_at "rr"
      refine i_new rfl fun l0 H15 n15 s15 h15 => ?_
      refine i_neI (s15 _ _ hf) (ms := []) h15 ?_
      repeat walk_at "rr"
      rcases fl with ⟨en, _⟩ | ⟨x, y, nn, ht, i0, i1, x0, xy, en⟩
      · rw [decide_eq_true en]
        repeat walk_at "rr"
        exact rest2 _ s15
      · rw [decide_eq_false nn]
        repeat walk_at "rr"
        refine i_lrg (K := K) ?_
        refine i_rg2 ?_
        repeat walk_at "rr"
        refine i_ixL (SqL.of (s15 _ _ hf)) (atI_ints i0) ?_
        repeat walk_at "rr"
        refine i_ixL (SqL.of (s15 _ _ hf)) (atI_ints i1) ?_
        repeat walk_at "rr"
        have yb : y ≤ 9 := by
          have := (hm' y).mp (by rw [en, rg_mem]; omega)
          have h3 := this.h3
          have : ((a * b : Nat) : Int) ≤ 9 := by omega
          rw [Int.natCast_mul] at this
          omega
        refine ⟨x, y + 1, rfl, rfl, RgOk.of_le x0 (by omega) (by omega) (by omega), fun q' nq' => ?_⟩
        refine i_neI (ns := ns) (ms := rg x (y + 1 - x).toNat) ((s15.trans (same_new nq')) _ _ hf) (by rw [upd_same, rgV_rg]) ?_
        rw [decide_eq_true en]
        repeat walk_at "rr"
        exact rest2 _ (s15.trans (same_new nq'))
    repeat walk_at "rr"
    refine i_new rfl fun l0 H10 n10 s10 h10 => ?_
    refine i_neI (s10 _ _ hf) (ms := []) h10 ?_
    repeat walk_at "rr"
    rcases fl with ⟨en, ht⟩ | ⟨x, y, nn, ht, i0, i1, x0, xy, en⟩
    · rw [decide_eq_true en]
      repeat walk_at "rr"
      refine rest _ _ s10 ?_
      rw [ht]
      rfl
    · rw [decide_eq_false nn]
      repeat walk_at "rr"
      refine i_ixL (SqL.of (s10 _ _ hf)) (atI_ints i0) ?_
      repeat walk_at "rr"
      refine i_ixL (SqL.of (s10 _ _ hf)) (atI_ints i1) ?_
      repeat walk_at "rr"
      refine i_new rfl fun td H11 n11 s11 h11 => ?_
      refine rest _ _ (s10.trans s11) ?_
      rw [ht]
      exact ⟨td, rfl, h11⟩
end
end K34

set_option Elab.async false
set_option linter.all false
set_option maxRecDepth 100000
set_option maxHeartbeats 4000000
namespace K34
open L2 PyProof.Rows PySem.Spec PySem G58 SlX KXM
local macro_rules | `(tactic| walk_at "rd") => `(tactic| first
  | (with_reducible refine i_seq ?_)
  | ((with_reducible refine' i_var ?rdh ?_); (case rdh => exact rfl))
  | (with_reducible refine i_c ?_)
  | (with_reducible refine i_op ?_)
  | (with_reducible refine i_I0 ?_)
  | (with_reducible refine i_set ?_)
  | (with_reducible refine i_ret ?_)
  | (with_reducible refine i_cons ?_)
  | (with_reducible refine i_nil ?_)
  | (with_reducible refine i_cb ?_)
  | (with_reducible refine i_call ?_)
  | (with_reducible refine i_tup ?_)
  | (with_reducible refine i_lst ?_)
  | (with_reducible refine i_ifS ?_)
  | (with_reducible refine i_test ?_)
  | (with_reducible refine i_B ?_)
  | (with_reducible refine i_bl ?_)
  | (with_reducible refine i_isN ?_)
  | (with_reducible refine i_notN ?_)
  | (with_reducible refine i_andV ?_)
  | (with_reducible refine i_orV ?_)
  | (with_reducible refine i_notV ?_)
  | (with_reducible refine i_and ?_)
  | (with_reducible refine i_or ?_)
  | (with_reducible refine i_not ?_)
  | (with_reducible refine i_if ?_)
  | (with_reducible refine i_par ?_)
  | (with_reducible refine i_par2 ?_)
  | (with_reducible refine i_drop ?_)
  | (with_reducible refine i_next ?_)
  | (with_reducible refine i_retN ?_)
  | (with_reducible refine i_iteT ?_)
  | (with_reducible refine i_iteF ?_)
  | (with_reducible refine i_un ?_)
  | (with_reducible refine i_U ?_)
  | (with_reducible refine i_isiII ?_)
  | (with_reducible refine i_isiIB ?_)
  | (with_reducible refine i_nT ?_)
  | (with_reducible refine i_nF ?_)
  | (with_reducible refine i_p10_4 ?_)
  | (with_reducible refine i_p10_9 ?_)
  | (with_reducible refine i_p10_18 ?_)
  | (with_reducible refine i_p10_20 ?_)
  | (with_reducible refine i_p10_30 ?_)
  | (with_reducible refine i_p10_40 ?_)
  | (with_reducible refine i_p10_58 ?_)
  | (with_reducible refine i_p10_60 ?_)
  | (with_reducible refine i_p10_61 ?_)
  | (with_reducible refine i_p10_64 ?_)
  | (with_reducible refine i_ex1 ?_)
  | (with_reducible refine i_ex2 ?_)
  | (with_reducible refine i_toI ?_)
  | (with_reducible refine i_toB ?_)
  | ((with_reducible refine' i_ixL ?rdh ?rda ?_); (case rdh => exact SqL.of (by assumption)); (case rda => exact rfl))
  | ((with_reducible refine' i_ixT ?rdh ?rda ?_); (case rdh => exact SqT.of (by assumption)); (case rda => exact rfl))
  | (with_reducible refine i_mulR ⟨by decide, by decide⟩ ?_)
  | (with_reducible refine i_mulL ⟨by decide, by decide⟩ ?_)
  | (with_reducible refine i_mod (by decide) ?_)
  | (with_reducible refine i_div ⟨by decide, by decide⟩ ?_)
  | ((with_reducible refine' i_gtup ?rdh ?rdl ?_); (case rdh => exact SqT.of (by assumption)); (case rdl => exact rfl))
  | (with_reducible refine i_gcons ?_)
  | (with_reducible refine i_gnil ?_)
  | (with_reducible refine i_gname ?_)
  | (with_reducible refine i_gsub ?_)
  | (with_reducible refine i_bm ?_)
  | (with_reducible refine i_bm0 ?_)
  | ((with_reducible refine' i_tyL ?rdh ?_); (case rdh => assumption))
  | (with_reducible refine i_for ?_)
  | (with_reducible refine i_itup ?_)
  | (with_reducible refine i_ilist ?_)
  | (with_reducible refine i_irng1 ?_)
  | (with_reducible refine i_irng2 ?_)
  | (with_reducible refine i_lc ?_)
  | (with_reducible refine i_yes ?_)
  | (with_reducible refine i_asg ?_)
  | dsimp only)
local macro_rules | `(tactic| walk_at "rm") => `(tactic| first
  | walk_at "rd"
  | (with_reducible refine i_prop ?_)
  | ((with_reducible refine' i_pl ?rdh ?_); (case rdh => assumption))
  | ((with_reducible refine' i_pmS ?rdh ?_); (case rdh => assumption))
  | ((with_reducible refine' i_pmN ?rdh ?_); (case rdh => assumption))
  | ((with_reducible refine' i_pm ?rdh ?_); (case rdh => assumption))
  | (with_reducible refine i_mkM ?_)
  | (with_reducible refine i_NT ?_)
  | (with_reducible refine i_NF ?_)
  | (with_reducible refine i_YT ?_)
  | (with_reducible refine i_YF ?_))
abbrev s_law : Stmt := top 50
abbrev n_law : List Str := ["_law_script", "_law_k", "_law_pot", "_law_turn"]
theorem sc_law : FnScope n_law ["_law_script"] (defScope s_law) := ⟨rfl, rfl, rfl, by decide +kernel, rfl, by decide +kernel, by decide +kernel⟩
section
variable {P : Program} {w : World} {K : PySem.W.Frag} {mg : Str → Option Value} {base : Heap} {f : Addr} {fd : FuncData} {C p0 p1 p2 pl pm gl gm CT gs gw ga gd : Addr} {un uf : Value}
def spLaw (K : PySem.W.Frag) : Sp := fun vs H Q _ => ∃ (a : Addr) (ns : List Int), vs = [.ref a] ∧ SqL K H a (ns.map V.int) ∧ ns.length ≤ 63 ∧ ∀ H', Q (.bl true) H'
theorem ok_law (F : Fun K "law" "law" s_law f fd) (T : TT K mg C p0 p1 p2 pl pm gl gm CT gs gw ga gd un uf) (D__law_pot_of : Dn P w K mg base 1 "_law_pot_of" (spPotOf K)) (D__law_right : DnG P w K mg base 8 "_law_right" spRight) : FnG P w K mg base CX0 10 f fd ["_law_script"] (spLaw K) := by
  refine okG F sc_law (fun vs H Q E h => ?_) (fun cdv A outer s H vs Q E hgd hr h => ?_)
  · obtain ⟨a, ns, rfl, _⟩ := h
    rfl
  · obtain ⟨a, ns, rfl, hS, hl, k⟩ := h
    refine ⟨_, (pss_cons (ps_for PassesOwn.never (by rfl) (pi_range1 (by rfl) T.b_range (pa_cons (pe_callB (call_max2 rfl) (by rfl) T.b_max (by decide +kernel) (pa_cons pe_int (pa_cons (pe_callB (call_min2 rfl) (by rfl) T.b_min (by decide +kernel) (pa_cons (pe_callB call_len_seq (by rfl) T.b_len (by decide +kernel) (pa_cons (pv 0) pa_nil)) (pa_cons pe_int pa_nil))) pa_nil))) pa_nil)) (pg_name (i := 1) sc_law.nd rfl (by first | exact Or.inl rfl | exact Or.inr rfl))
        (pss_cons (ps_set (i := 2) sc_law.nd rfl (Or.inr rfl) (pe_cl D__law_pot_of (hr.mono (by decide)) (pa_cons (pv 0) (pa_cons (pv 1) pa_nil))))
        (pss_one (ps_if (pt_not (pt_val (pe_callB (cr_all rfl) (by rfl) T.b_all (by decide +kernel) (pa_cons (pe_lc (own := [("_law_turn", 3)]) (g := gName 3) (by rfl) sc_law.nd (pi_range1 (by rfl) T.b_range (pa_cons pe_int pa_nil)) (blkOk_by (own := [("_law_turn", 3)]) (N := n_law) (sc := defScope s_law) (by decide +kernel)) (fun _ _ _ _ _ => (pg_name (i := 3) sc_law.nd rfl (by first | exact Or.inl rfl | exact Or.inr rfl))) (fun _ _ _ _ _ => pts_nil) (fun _ _ _ _ _ => (pe_clG D__law_right hgd (hr.mono (by decide)) (pa_cons (pv 2) pa_nil)))) pa_nil))))
          (pss_one (ps_ret pe_bl))
          pss_nil))))
      (pss_one (ps_ret pe_bl))), ?_⟩
    repeat walk_at "rm"
    refine i_lenL hS ?_
    repeat walk_at "rm"
    rw [List.length_map]
    generalize hn : (if (if (4 : Int) < (ns.length : Int) then (4 : Int) else (ns.length : Int)) > 1 then (if (4 : Int) < (ns.length : Int) then (4 : Int) else (ns.length : Int)) else 1) = n
    have n0 : 1 ≤ n := by rw [← hn]; split <;> split <;> omega
    have n1 : n ≤ 4 := by rw [← hn]; split <;> split <;> omega
    refine ⟨by omega, by omega, ?_⟩
    refine fRng (fun i σ H' => Same H H' ∧ ∃ u v w', σ = [some (.ref a), u, v, w']) ⟨Same.refl _, _, _, _, rfl⟩ ?_ ?_
    · rintro i σ H1 hi ⟨s1, u, v, w', rfl⟩
      repeat walk_at "rm"
      refine ⟨a, _, ns, rfl, s1.seq hS, by omega, by omega, fun p H2 np s2 hp => ?_⟩
      repeat walk_at "rm"
      refine ⟨by decide, by decide, ?_⟩
      intro D nD
      have npD : p ≠ D := by
        obtain ⟨x, y, e, _⟩ := hp
        exact ne_of_none e nD
      have n2 : H D = none := (s1.trans s2).free nD
      have np0 : H p = none := s1.free np
      refine lc_range (n := 2) (fun j H3 => Same H H3 ∧ Pot H3 p ∧ H3 D = some (.lst ((List.replicate j true).map V.bl))) ⟨(s1.trans s2).trans (same_new nD), hp.same (same_new nD), upd_same⟩ ?_ ?_
      · rintro j H3 hj ⟨s3, hp3, hD⟩
        refine i_gname ⟨rfl, ?_⟩
        repeat walk_at "rm"
        refine ⟨p, rfl, hp3, fun H4 e4 hp4 => ?_⟩
        have hD4 := e4 _ _ (Ne.symm npD) hD
        refine ⟨_, hD4, Nat.lt_of_le_of_lt (m := 1000) (by simp; omega) (by decide), ?_, ?_, ?_⟩
        · intro b o z
          rw [upd_ne (ne_of_none z n2)]
          exact e4 b o (ne_of_none z np0) (s3 b o z)
        · obtain ⟨x, y, e, r⟩ := hp4
          exact ⟨x, y, by rw [upd_ne npD]; exact e, r⟩
        · rw [upd_same, List.replicate_succ', List.map_append]
          rfl
      · rintro H3 ⟨s3, hp3, hD⟩
        repeat walk_at "rm"
        refine ⟨D, List.replicate 2 true, rfl, SqL.of hD, ?_⟩
        refine i_bl ?_
        rw [show (List.replicate 2 true).all id = true from rfl]
        repeat walk_at "rm"
        exact ⟨s3, _, _, _, rfl⟩
    · rintro σ H1 ⟨s1, u, v, w', rfl⟩
      repeat walk_at "rm"
      exact k _
end
end K34

set_option Elab.async false
set_option linter.all false
set_option maxRecDepth 100000
set_option maxHeartbeats 4000000
namespace K34
open L2 PyProof.Rows PySem.Spec PySem G58 SlX KXM
/-- a def of the top as the written part has it -/
def HasDef (K : PySem.W.Frag) (x : Str) (st : Stmt) : Prop := ∃ (f : Addr) (oc : Value) (od : Option Addr) (kV dc pm : Value) (an : Option Addr) (cd ct : Value) (sl : Array (Option Value)),
  PySem.W.nsIn K mainGlobals x = some (some (.ref f)) ∧ K.lookup f = some ⟨oc, od, .func (PySem.W.fnOf x x (defArgs st) (defBody st) (defScope st) .none kV dc pm an cd ct), sl⟩ ∧ PySem.W.codeIn K cd x = true ∧ PySem.W.keepIn K (.ref f) = true
theorem hasDef {K : PySem.W.Frag} {x : Str} {st : Stmt} {f : Addr} {oc : Value} {od : Option Addr} {kV dc pm : Value} {an : Option Addr} {cd ct : Value} {sl : Array (Option Value)}
    (a : PySem.W.nsIn K mainGlobals x = some (some (.ref f))) (l : K.lookup f = some ⟨oc, od, .func (PySem.W.fnOf x x (defArgs st) (defBody st) (defScope st) .none kV dc pm an cd ct), sl⟩) (c : PySem.W.codeIn K cd x = true) (k : PySem.W.keepIn K (.ref f) = true) : HasDef K x st :=
  ⟨f, oc, od, kV, dc, pm, an, cd, ct, sl, a, l, c, k⟩
/-- a method at f -/
def HasMeth (K : PySem.W.Frag) (x qual : Str) (st : Stmt) (f : Addr) : Prop := ∃ (oc : Value) (od : Option Addr) (kV dc pm : Value) (an : Option Addr) (cd ct : Value) (sl : Array (Option Value)),
  K.lookup f = some ⟨oc, od, .func (PySem.W.fnOf x qual (defArgs st) (defBody st) (defScope st) .none kV dc pm an cd ct), sl⟩ ∧ PySem.W.codeIn K cd qual = true ∧ PySem.W.keepIn K (.ref f) = true
theorem hasMeth {K : PySem.W.Frag} {x qual : Str} {st : Stmt} {f : Addr} {oc : Value} {od : Option Addr} {kV dc pm : Value} {an : Option Addr} {cd ct : Value} {sl : Array (Option Value)}
    (l : K.lookup f = some ⟨oc, od, .func (PySem.W.fnOf x qual (defArgs st) (defBody st) (defScope st) .none kV dc pm an cd ct), sl⟩) (c : PySem.W.codeIn K cd qual = true) (k : PySem.W.keepIn K (.ref f) = true) : HasMeth K x qual st f :=
  ⟨oc, od, kV, dc, pm, an, cd, ct, sl, l, c, k⟩
section
variable {P : Program} {w : World} {K : PySem.W.Frag} {mg : Str → Option Value} {base h : Heap} {k : Nat} {x : Str} {st : Stmt} {ps : List Str} {sp : Sp}
theorem dn_mk (X : K.In h) (G : h.Ns mainGlobals mg) (d : HasDef K x st)
    (hb : ∀ (kV doc pm : Value) (an : Option Addr) (cdv ct : Value) (us : List Value), us.length = ps.length → bindArgs (PySem.W.fnOf x x (defArgs st) (defBody st) (defScope st) .none kV doc pm an cdv ct) ⟨us, []⟩ = pure (ps.zip us))
    (ok : ∀ f fd, Fun K x x st f fd → FnOk P w K mg base CX0 k f fd ps sp) : Dn P w K mg base k x sp := by
  obtain ⟨f, oc, od, kV, dc, pm, an, cd, ct, sl, a, l, c, kp⟩ := d
  have F := fun_mk (st := st) l c kp
  exact ⟨f, _, ps, PySem.W.mg_of X G a, kp, F.binds hb, ok f _ F⟩
theorem dnG_mk (X : K.In h) (G : h.Ns mainGlobals mg) (d : HasDef K x st)
    (hb : ∀ (kV doc pm : Value) (an : Option Addr) (cdv ct : Value) (us : List Value), us.length = ps.length → bindArgs (PySem.W.fnOf x x (defArgs st) (defBody st) (defScope st) .none kV doc pm an cdv ct) ⟨us, []⟩ = pure (ps.zip us))
    (ok : ∀ f fd, Fun K x x st f fd → FnG P w K mg base CX0 k f fd ps sp) : DnG P w K mg base k x sp := by
  obtain ⟨f, oc, od, kV, dc, pm, an, cd, ct, sl, a, l, c, kp⟩ := d
  have F := fun_mk (st := st) l c kp
  exact ⟨f, _, ps, PySem.W.mg_of X G a, kp, F.binds hb, ok f _ F⟩
end
theorem hasInit {K : PySem.W.Frag} {x qual : Str} {st : Stmt} {f T : Addr} {oc oc' : Value} {od od' : Option Addr} {kV dc pm : Value} {an : Option Addr} {cd ct : Value} {sl sl' : Array (Option Value)} {its : List Value} {n : Nat}
    (l : K.lookup f = some ⟨oc, od, .func (PySem.W.fnOf x qual (defArgs st) (defBody st) (defScope st) (.ref T) kV dc pm an cd ct), sl⟩) (c : PySem.W.codeIn K cd qual = true) (k : PySem.W.keepIn K (.ref f) = true)
    (lT : K.lookup T = some ⟨oc', od', .seq its.toArray n, sl'⟩) (r : Vals [.non] its) : ∃ fd, FunD K x qual (defArgs st) (defBody st) (defScope st) [.non] [] f fd :=
  ⟨_, ⟨oc, od, .ref T, kV, dc, pm, an, cd, ct, sl, rfl, l, c, .inr ⟨by simp, T, _, its, n, rfl, lT, rfl, r⟩, .inl rfl⟩, k⟩
theorem hasRec {K : PySem.W.Frag} {p g : Addr} {rest : List Value} (h : PySem.W.recIn K p "property" = some (.ref g :: rest)) : ∃ rest, PySem.W.recIn K p "property" = some (.ref g :: rest) := ⟨rest, h⟩
/-- all that is read off the written part -/
structure All (K : PySem.W.Frag) (C p0 p1 p2 pl pm gl gm fI CT gs gw ga gd fT : Addr) (un uf : Value) : Prop where
  d1 : HasDef K "is_integer" s_is_integer
  d2 : HasDef K "is_count" s_is_count
  d3 : HasDef K "want_count" s_want_count
  d4 : HasDef K "wrong_line" s_wrong_line
  d5 : HasDef K "totals_between" s_totals_between
  d6 : HasDef K "totals" s_totals
  d7 : HasDef K "is_end" s_is_end
  d8 : HasDef K "is_count_under" s_is_count_under
  d9 : HasDef K "_law_pot_of" s_law_pot_of
  d10 : HasDef K "_law_draw" s_law_draw
  d11 : HasDef K "_law_pick" s_law_pick
  d12 : HasDef K "_law_numbers_in" s_law_numbers_in
  d13 : HasDef K "_law_made_many" s_law_made_many
  d14 : HasDef K "_law_lets" s_law_lets
  d15 : HasDef K "_law_nets_in" s_law_nets_in
  d16 : HasDef K "_law_is_let" s_law_is_let
  d17 : HasDef K "_law_tables_right" s_law_tables_right
  d18 : HasDef K "_law_wider" s_law_wider
  d19 : HasDef K "_law_right" s_law_right
  d20 : HasDef K "law" s_law
  b1 : PySem.W.nsIn K mainGlobals "int" = some none
  b2 : PySem.W.nsIn K mainGlobals "bool" = some none
  b3 : PySem.W.nsIn K mainGlobals "isinstance" = some none
  b4 : PySem.W.nsIn K mainGlobals "len" = some none
  b5 : PySem.W.nsIn K mainGlobals "abs" = some none
  b6 : PySem.W.nsIn K mainGlobals "max" = some none
  b7 : PySem.W.nsIn K mainGlobals "min" = some none
  b8 : PySem.W.nsIn K mainGlobals "all" = some none
  b9 : PySem.W.nsIn K mainGlobals "range" = some none
  b10 : PySem.W.nsIn K mainGlobals "divmod" = some none
  b11 : PySem.W.nsIn K mainGlobals "repr" = some none
  b12 : PySem.W.nsIn K mainGlobals "str" = some none
  b13 : PySem.W.nsIn K mainGlobals "set" = some none
  b14 : PySem.W.nsIn K mainGlobals "sorted" = some none
  b15 : PySem.W.nsIn K mainGlobals "list" = some none
  gC : PySem.W.nsIn K mainGlobals "Many" = some (some (.ref C))
  sc : SCls K C
  isi : SIsi K C
  s0 : Slot1 K C "own_least" p0 0
  s1 : Slot1 K C "own_most" p1 1
  s2 : Slot1 K C "own_place" p2 2
  a_least : PySem.W.findIn K (.ref C) "least" = some (some (.ref pl))
  p_least : PySem.W.specialIn K (.ref pl) "__get__" = some (some (.builtin "property.__get__"))
  t_least : PySem.W.takesIn K (.ref pl) = some true
  r_least : ∃ rest, PySem.W.recIn K pl "property" = some (.ref gl :: rest)
  a_most : PySem.W.findIn K (.ref C) "most" = some (some (.ref pm))
  p_most : PySem.W.specialIn K (.ref pm) "__get__" = some (some (.builtin "property.__get__"))
  t_most : PySem.W.takesIn K (.ref pm) = some true
  r_most : ∃ rest, PySem.W.recIn K pm "property" = some (.ref gm :: rest)
  m1 : HasMeth K "least" "Many.least" s_Many_least gl
  m2 : HasMeth K "most" "Many.most" s_Many_most gm
  mm : Mk K C fI
  mi : ∃ fd, FunD K "__init__" "Many.__init__" (defArgs s_Many___init) (defBody s_Many___init) (defScope s_Many___init) [.non] [] fI fd
  gT : PySem.W.nsIn K mainGlobals "Table" = some (some (.ref CT))
  cls : Cls K CT
  n0 : NoAttr K CT "own_near"
  n1 : NoAttr K CT "own_far"
  n2 : NoAttr K CT "own_total"
  n3 : NoAttr K CT "own_many"
  n4 : NoAttr K CT "own_more"
  e1 : Meth K CT "size_at" gs
  e2 : Meth K CT "want_row" gw
  e3 : Meth K CT "degree_at" ga
  e4 : Meth K CT "degree" gd
  h1 : HasMeth K "size_at" "Table.size_at" s_Table_size_at gs
  h2 : HasMeth K "want_row" "Table.want_row" s_Table_want_row gw
  h3 : HasMeth K "degree_at" "Table.degree_at" s_Table_degree_at ga
  h4 : HasMeth K "degree" "Table.degree" s_Table_degree gd
  h5 : HasMeth K "__init__" "Table.__init__" s_Table___init fT
  mt : Mk K CT fT
  gN : PySem.W.nsIn K mainGlobals "NEAR" = some (some un)
  rN : RelV (.str "near") un
  gF : PySem.W.nsIn K mainGlobals "FAR" = some (some uf)
  rF : RelV (.str "far") uf
theorem all_law {P : Program} {w : World} {K : PySem.W.Frag} {mg : Str → Option Value} {h : Heap} {fa C p0 p1 p2 pl pm gl gm fI CT gs gw ga gd fT : Addr} {un uf : Value} (X : K.In h) (G : h.Ns mainGlobals mg) (hfa : mg "law" = some (.ref fa)) (Z : All K C p0 p1 p2 pl pm gl gm fI CT gs gw ga gd fT un uf) :
    ∃ fd : FuncData, (∀ (s : Shared) (u : Value), BindsTo s fd ⟨[u], []⟩ [("_law_script", u)]) ∧ ∀ base : Heap, K.In base → base.Ns mainGlobals mg → FnG P w K mg base CX0 10 fa fd ["_law_script"] (spLaw K) := by
  obtain ⟨f, oc, od, kV, dc, pmv, an, cd, ct, sl, a, l, c, kp⟩ := Z.d20
  have e := hfa.symm.trans (PySem.W.mg_of X G a)
  cases e
  have F := fun_mk (st := s_law) l c kp
  have B : Blt mg := ⟨PySem.W.mg_none_of X G Z.b1, PySem.W.mg_none_of X G Z.b2, PySem.W.mg_none_of X G Z.b3, PySem.W.mg_none_of X G Z.b4, PySem.W.mg_none_of X G Z.b5, PySem.W.mg_none_of X G Z.b6, PySem.W.mg_none_of X G Z.b7, PySem.W.mg_none_of X G Z.b8, PySem.W.mg_none_of X G Z.b9, PySem.W.mg_none_of X G Z.b10, PySem.W.mg_none_of X G Z.b11, PySem.W.mg_none_of X G Z.b12, PySem.W.mg_none_of X G Z.b13, PySem.W.mg_none_of X G Z.b14, PySem.W.mg_none_of X G Z.b15⟩
  have TM0 : TM K mg C p0 p1 p2 pl pm gl gm := ⟨B, ⟨PySem.W.mg_of X G Z.gC, Z.sc, Z.isi, Z.s0, Z.s1, Z.s2, Z.a_least, Z.p_least, Z.t_least, Z.r_least, Z.a_most, Z.p_most, Z.t_most, Z.r_most⟩⟩
  have T : TT K mg C p0 p1 p2 pl pm gl gm CT gs gw ga gd un uf := ⟨TM0, ⟨PySem.W.mg_of X G Z.gN, Z.rN, PySem.W.mg_of X G Z.gF, Z.rF, PySem.W.mg_of X G Z.gT, Z.cls, Z.n0, Z.n1, Z.n2, Z.n3, Z.n4, Z.e1, Z.e2, Z.e3, Z.e4⟩⟩
  refine ⟨PySem.W.fnOf "law" "law" (defArgs s_law) (defBody s_law) (defScope s_law) .none kV dc pmv an cd ct, fun s v => .of_eq rfl, fun base _ _ => ?_⟩
  have D_is_integer : Dn P w K mg base 1 "is_integer" spIsInt := dn_mk X G Z.d1 (fun _ _ _ _ _ _ us hl => match us, hl with | [_], _ => rfl) fun f fd F => ok_is_integer F B
  have D_is_count : Dn P w K mg base 2 "is_count" spIsCount := dn_mk X G Z.d2 (fun _ _ _ _ _ _ us hl => match us, hl with | [_], _ => rfl) fun f fd F => ok_is_count F B D_is_integer
  have D_want_count : Dn P w K mg base 3 "want_count" spWant := dn_mk X G Z.d3 (fun _ _ _ _ _ _ us hl => match us, hl with | [_], _ => rfl) fun f fd F => ok_want_count F B D_is_count
  have D_least : FnR P w K mg base CX0 1 gl (spLeast C) := by
    obtain ⟨oc, od, kV, dc, pmv, an, cd, ct, sl, l, c, kp⟩ := Z.m1
    have F := fun_mk (st := s_Many_least) l c kp
    have R := (ok_least (P := P) (w := w) (base := base) F TM0).raw (F.binds (ps := ["self"]) fun _ _ _ _ _ _ us hl => match us, hl with | [_], _ => rfl) .nil
    exact R.imp fun vs H Q E z => by rw [List.append_nil]; exact z
  have D_most : FnR P w K mg base CX0 1 gm (spMost C) := by
    obtain ⟨oc, od, kV, dc, pmv, an, cd, ct, sl, l, c, kp⟩ := Z.m2
    have F := fun_mk (st := s_Many_most) l c kp
    have R := (ok_most (P := P) (w := w) (base := base) F TM0).raw (F.binds (ps := ["self"]) fun _ _ _ _ _ _ us hl => match us, hl with | [_], _ => rfl) .nil
    exact R.imp fun vs H Q E z => by rw [List.append_nil]; exact z
  have MK : MkM P w K mg base C := by
    obtain ⟨fd, FI⟩ := Z.mi
    obtain ⟨ds0, r0, b0⟩ := FI.binds1 (ps := ["self", "least", "most"]) 3 1 (by simp) rfl (fun _ _ _ _ _ _ _ us its h1 h2 => match us, its, h1, h2 with | [_, _, _], [_], _, _ => ⟨_, rfl, rfl⟩)
    obtain ⟨ds1, r1, b1⟩ := FI.binds1 (ps := ["self", "least", "most"]) 2 0 (by simp) rfl (fun _ _ _ _ _ _ _ us its h1 h2 => match us, its, h1, h2 with | [_, _], [_], _, _ => ⟨_, rfl, rfl⟩)
    have e0 : ds0 = [] := by
      cases r0
      rfl
    subst e0
    exact ⟨fI, fd, Z.mm, ok_init FI TM0 D_want_count, b0, ds1, r1, b1⟩
  have D_wrong_line : Dn P w K mg base 3 "wrong_line" (spWrong C) := dn_mk X G Z.d4 (fun _ _ _ _ _ _ us hl => match us, hl with | [_, _, _, _], _ => rfl) fun f fd F => ok_wrong F TM0 D_least D_most
  have D_totals_between : Dn P w K mg base 3 "totals_between" (spBetween C) := dn_mk X G Z.d5 (fun _ _ _ _ _ _ us hl => match us, hl with | [_, _, _, _], _ => rfl) fun f fd F => ok_between F TM0 D_least D_most
  have D_totals : Dn P w K mg base 5 "totals" (spTotals C) := dn_mk X G Z.d6 (fun _ _ _ _ _ _ us hl => match us, hl with | [_, _, _, _], _ => rfl) fun f fd F => ok_totals F TM0 D_want_count D_wrong_line D_totals_between
  have D_is_end : Dn P w K mg base 1 "is_end" spIsEnd := dn_mk X G Z.d7 (fun _ _ _ _ _ _ us hl => match us, hl with | [_], _ => rfl) fun f fd F => ok_is_end F T
  have D_is_count_under : Dn P w K mg base 3 "is_count_under" spUnder := dn_mk X G Z.d8 (fun _ _ _ _ _ _ us hl => match us, hl with | [_, _], _ => rfl) fun f fd F => ok_under F T D_is_count
  have D_size_at : FnR P w K mg base CX0 2 gs (spSizeAt CT) := by
    obtain ⟨oc, od, kV, dc, pmv, an, cd, ct, sl, l, c, kp⟩ := Z.h1
    have F := fun_mk (st := s_Table_size_at) l c kp
    have R := (ok_size_at (P := P) (w := w) (base := base) F T D_is_end).raw (F.binds (ps := ["self", "end"]) fun _ _ _ _ _ _ us hl => match us, hl with | [_, _], _ => rfl) .nil
    exact R.imp fun vs H Q E z => by rw [List.append_nil]; exact z
  have D_want_row : FnR P w K mg base CX0 4 gw (spWantRow CT) := by
    obtain ⟨oc, od, kV, dc, pmv, an, cd, ct, sl, l, c, kp⟩ := Z.h2
    have F := fun_mk (st := s_Table_want_row) l c kp
    have R := (ok_want_row (P := P) (w := w) (base := base) F T D_is_count_under D_size_at).raw (F.binds (ps := ["self", "end", "row"]) fun _ _ _ _ _ _ us hl => match us, hl with | [_, _, _], _ => rfl) .nil
    exact R.imp fun vs H Q E z => by rw [List.append_nil]; exact z
  have D_degree_at : FnR P w K mg base CX0 1 ga (spDegAt CT) := by
    obtain ⟨oc, od, kV, dc, pmv, an, cd, ct, sl, l, c, kp⟩ := Z.h3
    have F := fun_mk (st := s_Table_degree_at) l c kp
    have R := (ok_degree_at (P := P) (w := w) (base := base) F T).raw (F.binds (ps := ["self", "end", "row"]) fun _ _ _ _ _ _ us hl => match us, hl with | [_, _, _], _ => rfl) .nil
    exact R.imp fun vs H Q E z => by rw [List.append_nil]; exact z
  have D_degree : FnR P w K mg base CX0 5 gd (spDeg CT) := by
    obtain ⟨oc, od, kV, dc, pmv, an, cd, ct, sl, l, c, kp⟩ := Z.h4
    have F := fun_mk (st := s_Table_degree) l c kp
    have R := (ok_degree (P := P) (w := w) (base := base) F T D_want_row D_degree_at).raw (F.binds (ps := ["self", "end", "row"]) fun _ _ _ _ _ _ us hl => match us, hl with | [_, _, _], _ => rfl) .nil
    exact R.imp fun vs H Q E z => by rw [List.append_nil]; exact z
  have MT : MkT P w K mg base CT := by
    obtain ⟨oc, od, kV, dc, pmv, an, cd, ct, sl, l, c, kp⟩ := Z.h5
    have F := fun_mk (st := s_Table___init) l c kp
    exact ⟨fT, _, Z.mt, ok_tinit F T D_is_count D_want_count, F.binds (ps := ["self", "near", "far", "total"]) fun _ _ _ _ _ _ us hl => match us, hl with | [_, _, _, _], _ => rfl⟩
  have D__law_pot_of : Dn P w K mg base 1 "_law_pot_of" (spPotOf K) := dn_mk X G Z.d9 (fun _ _ _ _ _ _ us hl => match us, hl with | [_, _], _ => rfl) fun f fd F => ok_pot_of F B
  have D__law_draw : Dn P w K mg base 1 "_law_draw" spDraw := dn_mk X G Z.d10 (fun _ _ _ _ _ _ us hl => match us, hl with | [_, _], _ => rfl) fun f fd F => ok_draw F B
  have D__law_pick : Dn P w K mg base 2 "_law_pick" (spPick K) := dn_mk X G Z.d11 (fun _ _ _ _ _ _ us hl => match us, hl with | [_, _], _ => rfl) fun f fd F => ok_pick F B D__law_draw
  have D__law_numbers_in : Dn P w K mg base 3 "_law_numbers_in" spNumbers := dn_mk X G Z.d12 (fun _ _ _ _ _ _ us hl => match us, hl with | [_, _], _ => rfl) fun f fd F => ok_numbers F T D__law_draw D__law_pick
  have D__law_made_many : Dn P w K mg base 6 "_law_made_many" (spMadeMany C) := dn_mk X G Z.d13 (fun _ _ _ _ _ _ us hl => match us, hl with | [_], _ => rfl) fun f fd F => ok_made_many F T MK
  have D__law_lets : Dn P w K mg base 1 "_law_lets" spLets := dn_mk X G Z.d14 (fun _ _ _ _ _ _ us hl => match us, hl with | [_, _], _ => rfl) fun f fd F => ok_lets F T
  have D__law_nets_in : Dn P w K mg base 1 "_law_nets_in" spNets := dn_mk X G Z.d15 (fun _ _ _ _ _ _ us hl => match us, hl with | [_, _], _ => rfl) fun f fd F => ok_nets F T
  have D__law_is_let : Dn P w K mg base 2 "_law_is_let" spIsLet := dn_mk X G Z.d16 (fun _ _ _ _ _ _ us hl => match us, hl with | [_, _, _, _, _], _ => rfl) fun f fd F => ok_is_let F T D__law_lets
  have D__law_tables_right : Dn P w K mg base 6 "_law_tables_right" spTR := dn_mk X G Z.d17 (fun _ _ _ _ _ _ us hl => match us, hl with | [_, _, _, _, _], _ => rfl) fun f fd F => ok_tr F T MT D__law_lets D_degree
  have D__law_wider : Dn P w K mg base 3 "_law_wider" spWider := dn_mk X G Z.d18 (fun _ _ _ _ _ _ us hl => match us, hl with | [_, _], _ => rfl) fun f fd F => ok_wider F T D__law_draw D__law_pick
  have D__law_right : DnG P w K mg base 8 "_law_right" spRight := dnG_mk X G Z.d19 (fun _ _ _ _ _ _ us hl => match us, hl with | [_], _ => rfl) fun f fd F => ok_right F T D__law_draw D__law_numbers_in D__law_nets_in D__law_is_let D__law_made_many D__law_wider D__law_tables_right D_totals
  exact ok_law F T D__law_pot_of D__law_right
theorem walk {l : PySem.W.OpenLaw} {q : Program} {loose : List Str} {XP : (Str → Option Value) → Heap → Prop} {YP : World → Heap → Prop} {d : DefRec} {K : Params → PySem.W.Frag} (hn : l.most = some 63) (hdf : d.params.defaults = [])
    (hY : ∀ (w : World) (h : Heap), YP w h → (K w.params).In h) (hd : d.name = "law") (Z : ∀ w : World, ∃ C p0 p1 p2 pl pm gl gm fI CT gs gw ga gd fT un uf, All (K w.params) C p0 p1 p2 pl pm gl gm fI CT gs gw ga gd fT un uf) :
    PySem.W.WalkO q loose XP YP l.row.toRowW d [] (fun f vs => PySem.call f vs) :=
  walkG (n := 63) (k := 10) (x := "_law_script") (sp := spLaw) hn (by decide) hdf ⟨rfl, by decide, by decide⟩ hY
    (fun w mg fa h X G hfa => let ⟨C, p0, p1, p2, pl, pm, gl, gm, fI, CT, gs, gw, ga, gd, fT, un, uf, z⟩ := Z w; all_law X G (by rw [← hd]; exact hfa) z) fun K H a ns hl _ hS => ⟨a, ns, rfl, hS, hl, fun _ => rfl⟩
end K34

open PySem PySem.W PyProof.Rows
set_option Elab.async false
set_option maxRecDepth 100000
set_option maxHeartbeats 0
open_top hd for PySem.Challenge.rw_howmanyeach_k34_whole_totals_by_all_pair

open PySem PySem.W PyProof.Rows
set_option Elab.async false
set_option maxRecDepth 100000
set_option maxHeartbeats 0
theorem PySem.Challenge.cw_howmanyeach_k34_whole_totals_by_all_pair_holds : PySem.Challenge.rw_howmanyeach_k34_whole_totals_by_all_pair.Holds :=
  hd (by
    k_fill
    refine K34.walk (l := PySem.Challenge.rw_howmanyeach_k34_whole_totals_by_all_pair) rfl rfl (fun w h Y => PySem.W.kIn_of Y) rfl ?Z
    case Z =>
      intro w
      refine' ⟨_, _, _, _, _, _, _, _, _, _, _, _, _, _, _, _, _, ⟨?d1, ?d2, ?d3, ?d4, ?d5, ?d6, ?d7, ?d8, ?d9, ?d10, ?d11, ?d12, ?d13, ?d14, ?d15, ?d16, ?d17, ?d18, ?d19, ?d20, ?b1, ?b2, ?b3, ?b4, ?b5, ?b6, ?b7, ?b8, ?b9, ?b10, ?b11, ?b12, ?b13, ?b14, ?b15, ?gC, ?sc, ?isi, ?s0, ?s1, ?s2, ?a_least, ?p_least, ?t_least, ?r_least, ?a_most, ?p_most, ?t_most, ?r_most, ?m1, ?m2, ?mm, ?mi, ?gT, ?cls, ?n0, ?n1, ?n2, ?n3, ?n4, ?e1, ?e2, ?e3, ?e4, ?h1, ?h2, ?h3, ?h4, ?h5, ?mt, ?gN, ?rN, ?gF, ?rF⟩⟩
      case gC => (k_is)
      case gT => (k_is)
      case gN => (k_is)
      case gF => (k_is)
      case d1 => (refine' K34.hasDef ?ha ?hl ?hc ?hk; (case ha => k_is); (case hl => k_is); (case hc => k_is); (case hk => k_is))
      case d2 => (refine' K34.hasDef ?ha ?hl ?hc ?hk; (case ha => k_is); (case hl => k_is); (case hc => k_is); (case hk => k_is))
      case d3 => (refine' K34.hasDef ?ha ?hl ?hc ?hk; (case ha => k_is); (case hl => k_is); (case hc => k_is); (case hk => k_is))
      case d4 => (refine' K34.hasDef ?ha ?hl ?hc ?hk; (case ha => k_is); (case hl => k_is); (case hc => k_is); (case hk => k_is))
      case d5 => (refine' K34.hasDef ?ha ?hl ?hc ?hk; (case ha => k_is); (case hl => k_is); (case hc => k_is); (case hk => k_is))
      case d6 => (refine' K34.hasDef ?ha ?hl ?hc ?hk; (case ha => k_is); (case hl => k_is); (case hc => k_is); (case hk => k_is))
      case d7 => (refine' K34.hasDef ?ha ?hl ?hc ?hk; (case ha => k_is); (case hl => k_is); (case hc => k_is); (case hk => k_is))
      case d8 => (refine' K34.hasDef ?ha ?hl ?hc ?hk; (case ha => k_is); (case hl => k_is); (case hc => k_is); (case hk => k_is))
      case d9 => (refine' K34.hasDef ?ha ?hl ?hc ?hk; (case ha => k_is); (case hl => k_is); (case hc => k_is); (case hk => k_is))
      case d10 => (refine' K34.hasDef ?ha ?hl ?hc ?hk; (case ha => k_is); (case hl => k_is); (case hc => k_is); (case hk => k_is))
      case d11 => (refine' K34.hasDef ?ha ?hl ?hc ?hk; (case ha => k_is); (case hl => k_is); (case hc => k_is); (case hk => k_is))
      case d12 => (refine' K34.hasDef ?ha ?hl ?hc ?hk; (case ha => k_is); (case hl => k_is); (case hc => k_is); (case hk => k_is))
      case d13 => (refine' K34.hasDef ?ha ?hl ?hc ?hk; (case ha => k_is); (case hl => k_is); (case hc => k_is); (case hk => k_is))
      case d14 => (refine' K34.hasDef ?ha ?hl ?hc ?hk; (case ha => k_is); (case hl => k_is); (case hc => k_is); (case hk => k_is))
      case d15 => (refine' K34.hasDef ?ha ?hl ?hc ?hk; (case ha => k_is); (case hl => k_is); (case hc => k_is); (case hk => k_is))
      case d16 => (refine' K34.hasDef ?ha ?hl ?hc ?hk; (case ha => k_is); (case hl => k_is); (case hc => k_is); (case hk => k_is))
      case d17 => (refine' K34.hasDef ?ha ?hl ?hc ?hk; (case ha => k_is); (case hl => k_is); (case hc => k_is); (case hk => k_is))
      case d18 => (refine' K34.hasDef ?ha ?hl ?hc ?hk; (case ha => k_is); (case hl => k_is); (case hc => k_is); (case hk => k_is))
      case d19 => (refine' K34.hasDef ?ha ?hl ?hc ?hk; (case ha => k_is); (case hl => k_is); (case hc => k_is); (case hk => k_is))
      case d20 => (refine' K34.hasDef ?ha ?hl ?hc ?hk; (case ha => k_is); (case hl => k_is); (case hc => k_is); (case hk => k_is))
      case b1 => (k_is)
      case b2 => (k_is)
      case b3 => (k_is)
      case b4 => (k_is)
      case b5 => (k_is)
      case b6 => (k_is)
      case b7 => (k_is)
      case b8 => (k_is)
      case b9 => (k_is)
      case b10 => (k_is)
      case b11 => (k_is)
      case b12 => (k_is)
      case b13 => (k_is)
      case b14 => (k_is)
      case b15 => (k_is)
      case sc => (refine' ⟨?y1, ?y2, ?y3, ?y4⟩; (case y1 => k_is); (case y2 => k_is); (case y3 => k_is); (case y4 => k_is))
      case isi => (refine' ⟨?y1, ?y2, ?y3, ?y4⟩; (case y1 => k_is); (case y2 => k_is); (case y3 => k_is); (case y4 => k_is))
      case s0 => (refine' ⟨?y1, ?y2, ?y3, ?y4, ?y5, ?y6⟩; (case y1 => k_is); (case y2 => k_is); (case y3 => k_is); (case y4 => k_is); (case y5 => k_is); (case y6 => decide))
      case s1 => (refine' ⟨?y1, ?y2, ?y3, ?y4, ?y5, ?y6⟩; (case y1 => k_is); (case y2 => k_is); (case y3 => k_is); (case y4 => k_is); (case y5 => k_is); (case y6 => decide))
      case s2 => (refine' ⟨?y1, ?y2, ?y3, ?y4, ?y5, ?y6⟩; (case y1 => k_is); (case y2 => k_is); (case y3 => k_is); (case y4 => k_is); (case y5 => k_is); (case y6 => decide))
      case a_least => (k_is)
      case p_least => (k_is)
      case t_least => (k_is)
      case r_least => (refine' K34.hasRec ?y1; (case y1 => k_is))
      case a_most => (k_is)
      case p_most => (k_is)
      case t_most => (k_is)
      case r_most => (refine' K34.hasRec ?y1; (case y1 => k_is))
      case mm => (refine' ⟨?y1, ?y2, ?y3, ?y4⟩; (case y1 => k_is); (case y2 => k_is); (case y3 => k_is); (case y4 => k_is))
      case cls => (refine' ⟨?y1, ?y2, ?y3, ?y4⟩; (case y1 => k_is); (case y2 => k_is); (case y3 => k_is); (case y4 => k_is))
      case n0 => (unfold L2.NoAttr; k_is)
      case n1 => (unfold L2.NoAttr; k_is)
      case n2 => (unfold L2.NoAttr; k_is)
      case n3 => (unfold L2.NoAttr; k_is)
      case n4 => (unfold L2.NoAttr; k_is)
      case e1 => (refine' ⟨?y1, ?y2, ?y3⟩; (case y1 => k_is); (case y2 => k_is); (case y3 => k_is))
      case e2 => (refine' ⟨?y1, ?y2, ?y3⟩; (case y1 => k_is); (case y2 => k_is); (case y3 => k_is))
      case e3 => (refine' ⟨?y1, ?y2, ?y3⟩; (case y1 => k_is); (case y2 => k_is); (case y3 => k_is))
      case e4 => (refine' ⟨?y1, ?y2, ?y3⟩; (case y1 => k_is); (case y2 => k_is); (case y3 => k_is))
      case mt => (refine' ⟨?y1, ?y2, ?y3, ?y4⟩; (case y1 => k_is); (case y2 => k_is); (case y3 => k_is); (case y4 => k_is))
      case rN => (exact ⟨_, rfl⟩)
      case rF => (exact ⟨_, rfl⟩)
      case m1 => (refine' K34.hasMeth ?hl ?hc ?hk; (case hl => k_is); (case hc => k_is); (case hk => k_is))
      case m2 => (refine' K34.hasMeth ?hl ?hc ?hk; (case hl => k_is); (case hc => k_is); (case hk => k_is))
      case mi => (refine' K34.hasInit ?hl ?hc ?hk ?ht ?hr; (case hl => k_is); (case hc => k_is); (case hk => k_is); (case ht => k_is); (case hr => exact .cons rfl .nil))
      case h1 => (refine' K34.hasMeth ?hl ?hc ?hk; (case hl => k_is); (case hc => k_is); (case hk => k_is))
      case h2 => (refine' K34.hasMeth ?hl ?hc ?hk; (case hl => k_is); (case hc => k_is); (case hk => k_is))
      case h3 => (refine' K34.hasMeth ?hl ?hc ?hk; (case hl => k_is); (case hc => k_is); (case hk => k_is))
      case h4 => (refine' K34.hasMeth ?hl ?hc ?hk; (case hl => k_is); (case hc => k_is); (case hk => k_is))
      case h5 => (refine' K34.hasMeth ?hl ?hc ?hk; (case hl => k_is); (case hc => k_is); (case hk => k_is)))
