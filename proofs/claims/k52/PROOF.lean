import PyProof.Rows.All
import Wide.All
import OpenK.AllK
import Wide.FinOn
import HandS.ForMost
import HandS.WordsExc
import HandS.Defaults
import HandS.HeadEnd
import HandS.EndBits
import HandS.IsInst
import HandS.Wide
import HandS.HeadHook1
import HandS.HeadHook2
import HandS.More
import HandS.HeadHook3
import HandS.Walk
import HandS.Style
import HandS.NoneIn
import HandS.Nested
import HandS.EndTab
import HandS.Strs
import HandS.SetBool
import PyProof.StrBlock2
import HandS.StrMore
import PyProof.NeData
import HandS.TupLe
import HandS.DictTup
import HandS.Keys
import KE.KSortTupAny
import KE.KDictCopyH
import KE.KStateDown
import Lean
import HandS.Head0
import HandS.Head1
import HandS.Head2
import HandS.TupAny
import KE.GoesMore
import HandS.Zip
import PyProof.Rows.IntBool
import HandS.RaiseMore
import PyProof.SumWalk
import PyProof.ListOps
import HandS.SetFor
import HandS.Words
import HandS.Text
import HandS.Conv
import PySem.Challenge.RW_wholeapart_k52_code_of_graphs
set_option Elab.async false
set_option linter.all false
set_option maxRecDepth 100000
set_option maxHeartbeats 4000000
/-! HG: defs that are called where no repr is under way (the guards are known to be none), and repr of data. -/
namespace HG
open PySem PySem.Spec PyProof.Rows L2

structure FnG (P : Program) (w : World) (K : PySem.W.Frag) (mg : Str → Option Value) (base : Heap)
    (CX : CXT) (k : Nat) (f : Addr) (fd : FuncData) (ps : List Str) (sp : Sp) : Prop where
  sized : ∀ vs H Q E, sp vs H Q E → vs.length = ps.length
  goes : ∀ (A : Around) (outer : List Env) (s : Shared) (H : Hp) (args : Args) (us : List Value) (vs : List V) (Q : VK) (E : XK),
    Room k A → A.guards = some [] → Env0 P w K mg base A outer s H → BindsTo s fd args (ps.zip us) → Vals vs us →
    sp vs H Q E → codeAny (model P w) A (.call (.ref f) args) (CR CX outer P w H s Q E) s

section
variable {P : Program} {w : World} {K : PySem.W.Frag} {mg : Str → Option Value} {base : Heap} {CX : CXT} {k : Nat} {f : Addr} {fd : FuncData} {ps : List Str} {sp : Sp}

theorem FnG.of (F : FnOk P w K mg base CX k f fd ps sp) : FnG P w K mg base CX k f fd ps sp :=
  ⟨F.len, fun A outer s H args us vs Q E r _ => F.run A outer s H args us vs Q E r⟩

theorem FnG.up {j : Nat} (F : FnG P w K mg base CX j f fd ps sp) (h : j ≤ k) : FnG P w K mg base CX k f fd ps sp :=
  ⟨F.sized, fun A outer s H args us vs Q E r => F.goes A outer s H args us vs Q E (r.mono h)⟩

/-- a def of the text, by its body -/
theorem fng_of {x qual : Str} {params : Arguments} {body : List Stmt} {scope : Scope} {dvs : List V} {kws : List (Str × V)} {N : List Str}
    (F : FunD K x qual params body scope dvs kws f fd) (S : FnScope N ps scope) (len : ∀ vs H Q E, sp vs H Q E → vs.length = ps.length)
    (hbody : ∀ (cdv : Value) (A : Around) (outer : List Env) (s : Shared) (H : Hp) (vs : List V) (Q : VK) (E : XK),
      Room k (A.deeper (envOfC qual scope s.heap.objs.size f cdv)) → A.guards = some [] → sp vs H Q E →
      ∃ t, PSs (cxOf CX P w K mg base N qual scope f cdv A outer s H E) body t ∧
        t { nx := fun _ H' => Q .non H', rt := Q } (start N vs) H) : FnG P w K mg base CX (k + 1) f fd ps sp := by
  obtain ⟨oc, od, dV, kV, doc, pm, an, cdv, ct, osl, rfl, lk, hcd, _, _⟩ := F.ex
  constructor
  · exact len
  intro A outer s H args us vs Q E hr hg e0 hb r hsp
  have X1 : K.In s.heap := e0.mod.kin.keeps fun b o e => (e0.bs b o e).1
  have X2 : s.heap.NoLimit := e0.mod.nolimit.keeps fun b o e => (e0.bs b o e).1
  obtain ⟨t, ht, hq⟩ := hbody cdv A outer s H vs Q E (hr.deeper _) hg hsp
  refine codeAny_call_function hr.depth (X1 _ _ lk) rfl S.co S.gen rfl (PySem.W.codeRec_of X1 hcd) (hb _ _ _ _ ?_)
  have kinds : ∀ y ∈ ps.zip us, scope.names.lookup y.1 = some .local ∨
      (scope.names.lookup y.1 = some .cell ∧ ((cellsFrom (s.heap.objs.size + 1) scope.names []).lookup y.1).isSome = true) := by
    rintro ⟨n, v⟩ hy
    have hn := (List.of_mem_zip hy).1
    rcases S.par n hn with q | q
    · left; exact q
    · right; exact ⟨q, PySem.W.cellsFrom_some _ _ _ (.inl q)⟩
  refine wpAny_newFunctionEnv_cells S.kind kinds ?_
  intro env he s1 x
  subst he
  refine ⟨X2.keeps x.toInCall.keep, codeAny_func ?_⟩
  have I := inv_start (CX := CX) (E := E) S hr.hd e0 (len _ _ _ _ hsp) r x
  refine wpAny_mono (ht.run [] s1 (start N vs) H _ I hq) ?_ (fun e s' hs => hs)
  intro fl s' hs
  cases fl with
  | next =>
    obtain ⟨σ', H', J, q⟩ := hs
    exact ⟨V.non, H', J.os, J.bare, J.base, J.hok, rfl, q⟩
  | ret u =>
    obtain ⟨v, σ', H', J, rv, q⟩ := hs
    exact ⟨v, H', J.os, J.bare, J.base, J.hok, rv, q⟩
  | brk => exact hs.elim fun _ z => z.elim fun _ z => z.2.elim
  | cont => exact hs.elim fun _ z => z.elim fun _ z => z.2.elim
end

/-! ### calls of such defs -/
section
variable {X : Cx} {CX : CXT} {k : Nat} {f : Addr} {fd : FuncData} {ps ks : List Str} {sp : Sp} {dvs : List V} {ds : List Value}
  {E : XK} {x : Str} {p pos : Pos} {e : Expr} {es : List Expr} {t tk : TA} {kws : List Keyword}
  {g : List Value → List Value → List Value} {gV : List V → List V → List V}

theorem fin_call {pins : List (Addr × Obj)} {σ : L2.St} {H : Hp} {s s' : Shared} {Q : VK} {r : Result} (hx : Passes CX X E)
    (I : Inv X pins σ H s) (h : CR CX X.stack X.prog X.w H s Q E r s') : callEnd (EP X pins σ Q) X.xe r s' := by
  cases r with
  | error e => exact hx pins σ H s e s' I h
  | ok fl =>
    cases fl with
    | ret u => exact I.after h
    | next => exact h.elim
    | brk => exact h.elim
    | cont => exact h.elim

theorem pe_callG (F : FnG X.prog X.w X.K X.mg X.base CX k f fd ps sp) (hr : Room k X.A) (hgd : X.A.guards = some []) (hg : Gl X x) (hm : X.mg x = some (.ref f))
    (hk : PySem.W.keepIn X.K (.ref f) = true) (hb : Binds X.K fd ps ds) (hd : Vals dvs ds) (hx : Passes CX X E) (ha : PA X (e :: es) t)
    (hdb : (x == ("__debug__" : Str)) = false := by decide)
    (he : starEach (e :: es) X.env = (false, eval e X.env) :: starEach es X.env := by rfl)
    (hpl : (backTo pos (starEach es X.env)).any (·.1) = false := by rfl) : PE X (.Call (.Name x p) (e :: es) [] pos) (tCall sp dvs E t) := by
  constructor
  intro pins s σ H Q I h
  refine wpAny_Call_Name_kw (ld_glob I hg hm ?_ hdb)
  refine PySem.W.callWith_K (h₀ := X.base) I.ok.mod.kin hk (thn (ha.run pos pins s σ H _ I h) ?_) he hpl
  rintro us s1 ⟨vs, H1, I1, r, q⟩
  have rr : Vals (vs ++ dvs) (us ++ ds) := r.append hd
  have hl : (us ++ ds).length = ps.length := rr.length.symm.trans (F.sized _ _ _ _ q)
  refine ⟨I1.kIn, wpAny_call (codeAny_mono (F.goes X.A X.stack s1 H1 ⟨us, []⟩ _ _ Q E hr hgd I1.env0 (hb s1 us I1.kIn hl) rr q) fun r s' hq => ?_)⟩
  exact fin_call hx I1 hq

end

/-! ### repr of data -/
mutual
theorem dp_nodict {K : PySem.W.Frag} {H : Hp} : ∀ (d : PyData) (v : V), Dp K H v d → d.hasDict = false
  | .none, _, _ => by simp only [PyData.hasDict]
  | .bool _, _, _ => by simp only [PyData.hasDict]
  | .int _, _, _ => by simp only [PyData.hasDict]
  | .str _, _, _ => by simp only [PyData.hasDict]
  | .list ds, _, h => by
    cases h with
    | lst _ ha =>
      simp only [PyData.hasDict]
      exact dpAll_nodict ds _ ha
  | .tuple ds, _, h => by
    cases h with
    | tup _ ha =>
      simp only [PyData.hasDict]
      exact dpAll_nodict ds _ ha
  | .dict _, _, h => by cases h
theorem dpAll_nodict {K : PySem.W.Frag} {H : Hp} : ∀ (ds : List PyData) (vs : List V), DpAll K H vs ds → PyData.hasDictAll ds = false
  | [], _, _ => by simp only [PyData.hasDictAll]
  | d :: ds, _, h => by
    cases h with
    | cons h1 h2 => simp only [PyData.hasDictAll, dp_nodict d _ h1, dpAll_nodict ds _ h2, Bool.or_self]
end

def rRepr (K : PySem.W.Frag) : List V → Hp → VK → Prop := fun xs H Q =>
  ∃ x d, xs = [x] ∧ Dp K H x d ∧ d.showable = true ∧ d.depth ≤ 150 ∧ d.shown.length ≤ sizeLine ∧ Q (.str d.shown) H

theorem call_repr {X : Cx} {k : Nat} (hgd : X.A.guards = some []) (hr : Room k X.A) : CallR X (.builtin "repr") (rRepr X.K) := by
  intro pins s σ H xs us Q I r h
  obtain ⟨x, d, rfl, hd, hs, hdep, hsz, q⟩ := h
  obtain ⟨u, rfl, ru⟩ := vals1 r
  obtain ⟨as, rd⟩ := Dp.reads I d x u hd ru
  have hu := hr.un
  cases rd with
  | none => 
    simp only [PyData.shown] at q
    exact PySem.P.repr_of_none ⟨.str _, H, I.tok _, ⟨_, rfl⟩, q⟩
  | bool b =>
    simp only [PyData.shown] at q
    exact PySem.P.repr_of_bool ⟨.str _, H, I.tok _, ⟨_, rfl⟩, q⟩
  | int i t =>
    simp only [PyData.shown] at q
    exact PySem.P.repr_of_int (by simpa [PyData.showable] using hs) ⟨.str _, H, I.tok _, ⟨_, rfl⟩, q⟩
  | str y t =>
    simp only [PyData.shown] at q hsz
    exact PySem.P.repr_of_str ⟨.str _, H, I.tok _, ⟨_, rfl⟩, q⟩ hsz
  | list h1 h2 h3 h4 =>
    have nd := dp_nodict _ _ hd
    refine repr_of_reads' (.list h1 h2 h3 h4) hs (fun z => ?_) hgd (by omega) (fun _ _ e => e) (fun h' u tk hk => ⟨.str _, H, I.kept hk, ⟨_, rfl⟩, q⟩) hsz
    rw [nd] at z; cases z
  | tuple h1 h2 h3 h4 =>
    have nd := dp_nodict _ _ hd
    refine repr_of_reads' (.tuple h1 h2 h3 h4) hs (fun z => ?_) hgd (by omega) (fun _ _ e => e) (fun h' u tk hk => ⟨.str _, H, I.kept hk, ⟨_, rfl⟩, q⟩) hsz
    rw [nd] at z; cases z
  | dict h1 h2 h3 h4 h5 => cases hd

/-! ### the law's own call -/
section
variable {P : Program} {w : World} {K : PySem.W.Frag} {mg mb : Str → Option Value} {CX : CXT} {k : Nat} {fa a : Addr} {fd : FuncData} {x : Str} {sp : Sp} {s1 : Shared} {vs : List Value} {ns : List Int}

/-- from an abstract heap H that tracks the script at most -/
theorem law_core (KX : K.In s1.heap) (hns : s1.heap.Ns mainGlobals mg) (hb : s1.heap.Ns builtinsNs mb)
    (hbb : ∀ x : Str, x ≠ "__name__" → mb x = bootBuiltins x) (hlim : s1.heap.NoLimit) (hg : s1.gens = #[])
    (ha : s1.heap.get? a = some { cls := .type "list", data := .seq vs.toArray }) (hr : Room k callerA)
    (F : ∀ base : Heap, K.In base → base.Ns mainGlobals mg → FnG P w K mg base CX k fa fd [x] sp)
    (hbind : ∀ (s : Shared) (u : Value), BindsTo s fd ⟨[u], []⟩ [(x, u)])
    {H : Hp} (only : Only H) (hok : HOk P w H s1.heap) (hA : ∀ b, H b ≠ none → b = a) (hK : H a ≠ none → K.lookup a = none)
    (hsp : sp [.ref a] H (fun v _ => v = .bl true) fun _ _ _ => False)
    (hCX : ∀ e s', CX [] H s1 (fun _ _ _ => False) e s' → False) :
    codeAny (model P w) callerA (.call (.ref fa) ⟨[.ref a], []⟩)
      (fun r s' => r = .ok (.ret (.bool true)) ∧ OldK s1.heap s'.heap ∧ s'.os = s1.os ∧ AllBare s'.gens) s1 := by
  have tracked : ∀ {b : Addr} {u : HO}, H b = some u → b = a := fun {b u} q => hA b (by simp [q])
  have dictFree : ∀ {b : Addr} {o : Obj} {es : Array DictEntry} {ep : Nat}, s1.heap.get? b = some o → o.data = .dict es ep → H b = none := by
    intro b o es ep e d
    cases q : H b with
    | none => rfl
    | some u =>
      rw [tracked q, ha] at e
      cases e
      cases d
  have nsK : ∀ {b : Addr} {m : Str → Option Value}, s1.heap.Ns b m → (hidT s1.heap H).Ns b m := by
    rintro b m ⟨o, es, ep, e, d, r⟩
    exact ⟨o, es, ep, hidT_get e (dictFree e d), d, r⟩
  have kin : K.In (hidT s1.heap H) := by
    intro b o e
    refine hidT_get (KX b o e) ?_
    cases q : H b with
    | none => rfl
    | some u =>
      have eb := tracked q
      subst eb
      rw [hK (by simp [q])] at e
      cases e
  have md : Mod K mg (hidT s1.heap H) := by
    obtain ⟨mc, l1, l2⟩ := hlim
    exact ⟨kin, nsK hns, ⟨mb, nsK hb, hbb⟩, ⟨mc, nsK l1, l2⟩⟩
  have e0 : Env0 P w K mg (hidT s1.heap H) callerA [] s1 H :=
    { frames := rfl, mod := md, bs := fun b o e => of_hidT e, bsz := Nat.le_of_eq (hidT_size _ _), funs := trivial,
      frf := fun b z => absurd (show b ∈ ([] : List Addr) from z) List.not_mem_nil, hok := hok, bare := .of_eq hg }
  have go := (F _ kin (nsK hns)).goes callerA [] s1 H ⟨[.ref a], []⟩ [.ref a] [.ref a] _ _ hr rfl e0 (hbind s1 (.ref a)) (.cons rfl .nil) hsp
  refine codeAny_mono go fun r s' h => ?_
  cases r with
  | error e => exact (hCX e s' h).elim
  | ok fl =>
    cases fl with
    | next => exact h.elim
    | brk => exact h.elim
    | cont => exact h.elim
    | ret u =>
      obtain ⟨v, H', os, bare, un, hok', r', q⟩ := h
      have ev : v = .bl true := q
      subst ev
      have eu : u = Value.bool true := r'
      subst eu
      refine ⟨rfl, OldK.of_keep fun b o e => ?_, os, bare⟩
      rcases only b with z | ⟨ob, xs, z⟩
      · exact un.keep b o e z (fun y => absurd (show b ∈ ([] : List Addr) from y) List.not_mem_nil) List.not_mem_nil
      · obtain ⟨e1, _⟩ := hok b _ z
        obtain ⟨e2, _⟩ := hok' b _ (un.frzs b ob _ z)
        rw [e1] at e
        cases e
        exact e2

theorem law_callG (KX : K.In s1.heap) (hns : s1.heap.Ns mainGlobals mg) (hb : s1.heap.Ns builtinsNs mb)
    (hbb : ∀ x : Str, x ≠ "__name__" → mb x = bootBuiltins x) (hlim : s1.heap.NoLimit) (hg : s1.gens = #[])
    (ha : s1.heap.get? a = some { cls := .type "list", data := .seq vs.toArray }) (hi : IntsAre vs ns) (hl : ns.length ≤ sizeLine) (hr : Room k callerA)
    (F : ∀ base : Heap, K.In base → base.Ns mainGlobals mg → FnG P w K mg base CX k fa fd [x] sp)
    (hbind : ∀ (s : Shared) (u : Value), BindsTo s fd ⟨[u], []⟩ [(x, u)])
    (hsp : ∀ H : Hp, Only H → SqL K H a (ns.map V.int) → sp [.ref a] H (fun v _ => v = .bl true) fun _ _ _ => False)
    (hCX : ∀ H e s', CX [] H s1 (fun _ _ _ => False) e s' → False) :
    codeAny (model P w) callerA (.call (.ref fa) ⟨[.ref a], []⟩)
      (fun r s' => r = .ok (.ret (.bool true)) ∧ OldK s1.heap s'.heap ∧ s'.os = s1.os ∧ AllBare s'.gens) s1 := by
  have rv := vals_ints hi
  cases hk : K.lookup a with
  | some o =>
    have e := KX a o hk
    rw [ha] at e
    cases e
    have on : Only (fun _ => none) := fun _ => .inl rfl
    refine law_core KX hns hb hbb hlim hg ha hr F hbind on (fun b u z => by cases z) (fun b z => absurd rfl z) (fun z => absurd rfl z) (hsp _ on (.inr ?_)) (hCX _)
    exact ⟨_, vs.toArray, _, hk, rfl, rfl, rfl, by rw [List.size_toArray, hi.length]; exact hl, by simpa using rv⟩
  | none =>
    let o : Obj := { cls := .type "list", data := .seq vs.toArray }
    let H : Hp := upd (fun _ => none) a (.frz o (.lst (ns.map V.int)))
    have hH : H a = some (.frz o (.lst (ns.map V.int))) := upd_same
    have hN : ∀ b, b ≠ a → H b = none := fun b z => upd_ne z
    have on : Only H := by
      intro b
      by_cases e : b = a
      · subst e; exact .inr ⟨_, _, hH⟩
      · exact .inl (hN b e)
    refine law_core KX hns hb hbb hlim hg ha hr F hbind on (fun b u z => ?_) (fun b z => ?_) (fun _ => hk) (hsp H on (.inl (.inr ⟨o, hH⟩))) (hCX _)
    · by_cases e : b = a
      · subst e
        rw [hH] at z
        cases z
        exact ⟨ha, by rw [List.length_map]; exact hl, vs, _, rv, ha⟩
      · rw [hN b e] at z; cases z
    · by_cases e : b = a
      · exact e
      · exact absurd (hN b e) z
end

/-- the walk that a head by facts asks for, with the script's bits -/
theorem walkG {l : PySem.W.OpenLaw} {n k : Nat} {q : Program} {loose : List Str} {XP : (Str → Option Value) → Heap → Prop} {YP : World → Heap → Prop} {d : DefRec} {CX : CXT} {x : Str}
    (hn : l.most = some n) (hn2 : n ≤ sizeLine) (hdf : d.params.defaults = []) (hr : Room k callerA)
    (F : ∀ (w : World) (mg : Str → Option Value) (fa : Addr) (h : Heap), YP w h → h.Ns mainGlobals mg → mg d.name = some (.ref fa) →
      ∃ (K : PySem.W.Frag) (fd : FuncData) (sp : Sp), K.In h ∧ (∀ (s : Shared) (u : Value), BindsTo s fd ⟨[u], []⟩ [(x, u)]) ∧
        (∀ (H : Hp) (a : Addr) (ns : List Int), ns.length ≤ n → (∀ z ∈ ns, Builtin.Int.intBits z ≤ 1048576) → Only H → SqL K H a (ns.map V.int) →
          sp [.ref a] H (fun v _ => v = .bl true) fun _ _ _ => False) ∧
        ∀ base : Heap, K.In base → base.Ns mainGlobals mg → FnG l.prog w K mg base CX k fa fd [x] sp)
    (hCX : ∀ (H : Hp) (s : Shared) (e : Value) (s' : Shared), CX [] H s (fun _ _ _ => False) e s' → False) :
    PySem.W.WalkO q loose XP YP l.row.toRowW d [] (fun f vs => PySem.call f vs) := by
  refine Att.attach_callB hn hdf ?_
  intro w s₀ s₁ mg mb fa o pm cd doc a vs ns G Y ho hd hcd hmg hobj hints hlen hbits hg
  obtain ⟨K, fd, sp, KX, hb, hsp, hF⟩ := F w mg fa _ Y G.T.g hmg
  exact law_callG KX G.T.g G.T.b G.T.builtins G.T.nolimit hg hobj hints (Nat.le_trans hlen hn2) hr hF hb (fun H hO hS => hsp H a ns hlen hbits hO hS) (fun H e s' => hCX H s₁ e s')
end HG

set_option maxHeartbeats 4000000
/-! HW: short words over HG: defs called by name (Cal), data, frames. -/
namespace HG
open PySem PySem.Spec PyProof.Rows L2

/-! ### a def of the top, ready to be called -/
structure Cal (P : Program) (w : World) (K : PySem.W.Frag) (mg : Str → Option Value) (base : Heap) (x : Str) (k : Nat) (ps : List Str) (sp : Sp) : Prop where
  ex : ∃ fd, FnOk P w K mg base CX0 k (He.ga K x) fd ps sp ∧ Binds K fd ps []
  gl : mg x = some (.ref (He.ga K x))
  kp : PySem.W.keepIn K (.ref (He.ga K x)) = true
structure CalG (P : Program) (w : World) (K : PySem.W.Frag) (mg : Str → Option Value) (base : Heap) (x : Str) (k : Nat) (ps : List Str) (sp : Sp) : Prop where
  ex : ∃ fd, FnG P w K mg base CX0 k (He.ga K x) fd ps sp ∧ Binds K fd ps []
  gl : mg x = some (.ref (He.ga K x))
  kp : PySem.W.keepIn K (.ref (He.ga K x)) = true
/-- called by keywords alone -/
structure CalK (P : Program) (w : World) (K : PySem.W.Frag) (mg : Str → Option Value) (base : Heap) (x : Str) (k : Nat) (ks ps : List Str) (gV : List V → List V) (sp : Sp) : Prop where
  ex : ∃ fd g, FnOk P w K mg base CX0 k (He.ga K x) fd ps sp ∧ KBn K fd ps 0 ks g (fun _ zs => gV zs)
  gl : mg x = some (.ref (He.ga K x))
  kp : PySem.W.keepIn K (.ref (He.ga K x)) = true
section
variable {X : Cx} {k : Nat} {ps ks : List Str} {sp : Sp} {x : Str} {p pos : Pos} {e : Expr} {es : List Expr} {t tk : TA} {kws : List Keyword} {gV : List V → List V}
theorem pe_cal (C : Cal X.prog X.w X.K X.mg X.base x k ps sp) (hr : Room k X.A) (hg : Gl X x) (ha : PA X (e :: es) t)
    (hdb : (x == ("__debug__" : Str)) = false := by decide)
    (he : starEach (e :: es) X.env = (false, eval e X.env) :: starEach es X.env := by rfl)
    (hpl : (backTo pos (starEach es X.env)).any (·.1) = false := by rfl) : PE X (.Call (.Name x p) (e :: es) [] pos) (tCall sp [] E0 t) := by
  obtain ⟨fd, F, b⟩ := C.ex
  exact pe_call F hr hg C.gl C.kp b .nil pass0 ha hdb he hpl
theorem pe_calG (C : CalG X.prog X.w X.K X.mg X.base x k ps sp) (hr : Room k X.A) (hgd : X.A.guards = some []) (hg : Gl X x) (ha : PA X (e :: es) t)
    (hdb : (x == ("__debug__" : Str)) = false := by decide)
    (he : starEach (e :: es) X.env = (false, eval e X.env) :: starEach es X.env := by rfl)
    (hpl : (backTo pos (starEach es X.env)).any (·.1) = false := by rfl) : PE X (.Call (.Name x p) (e :: es) [] pos) (tCall sp [] E0 t) := by
  obtain ⟨fd, F, b⟩ := C.ex
  exact pe_callG F hr hgd hg C.gl C.kp b .nil pass0 ha hdb he hpl
def tCalK (m : Nat) (sp : Sp) (gV : List V → List V) (tk : TA) : TE := fun σ H Q => tk σ H fun zs H1 => zs.length = m ∧ sp (gV zs) H1 Q E0
theorem pe_calK (C : CalK X.prog X.w X.K X.mg X.base x k ks ps gV sp) (hr : Room k X.A) (hg : Gl X x) (hkw : PK X kws tk)
    (hall : (backToKw pos (keywordEach kws X.env)).all (·.1.isSome) = true := by rfl)
    (hks : (backToKw pos (keywordEach kws X.env)).filterMap (·.1) = ks := by rfl)
    (hdb : (x == ("__debug__" : Str)) = false := by decide)
    (hpl : ((backTo pos (starEach [] X.env)).any (·.1) || (backToKw pos (keywordEach kws X.env)).any (·.1.isNone)) = false := by rfl) :
    PE X (.Call (.Name x p) [] kws pos) (tCalK ks.length sp gV tk) := by
  obtain ⟨fd, g, F, b⟩ := C.ex
  constructor
  intro pins s σ H Q I h
  refine wpAny_Call_Name_kw (ld_glob I hg C.gl ?_ hdb)
  refine PySem.W.callWith_KW0 (h₀ := X.base) I.ok.mod.kin C.kp hall (thn (hkw.run pos pins s σ H _ I h) ?_) hpl
  rintro ws s2 ⟨zs, H2, I2, rz, l2, q2⟩
  rw [hks]
  exact ⟨I2.kIn, run_fnN (us := []) (vs := []) F hr b pass0 I2 .nil rz rfl l2 q2⟩
theorem pe_globI {i : Int} (h : ∃ t, X.mg x = some (.int i t)) (hg : Gl X x) (hd : (x == ("__debug__" : Str)) = false := by decide) : PE X (.Name x pos) (tC (.int i)) := by
  obtain ⟨t, h⟩ := h
  exact pe_glob hg h ⟨t, rfl⟩ hd
theorem pe_globS {z : Str} (h : ∃ t, X.mg x = some (.str z t)) (hg : Gl X x) (hd : (x == ("__debug__" : Str)) = false := by decide) : PE X (.Name x pos) (tC (.str z)) := by
  obtain ⟨t, h⟩ := h
  exact pe_glob hg h ⟨t, rfl⟩ hd
end

/-! ### data -/
def tyN : PyData → String
  | .none => "NoneType"
  | .bool _ => "bool"
  | .int _ => "int"
  | .str _ => "str"
  | .list _ => "list"
  | .tuple _ => "tuple"
  | .dict _ => "dict"
theorem dp_ty {K : PySem.W.Frag} {H : Hp} {v : V} {d : PyData} (h : Dp K H v d) : TyX K H v (.type (tyN d)) := by
  cases h with
  | non => exact .base .non
  | bl b => exact .base (.bl b)
  | int i => exact .base (.int i)
  | str x => exact .base (.str x)
  | lst s _ =>
    rcases s with (e | ⟨o, e⟩) | ⟨o, _, _, e, c, _⟩
    · exact .base (.lst e)
    · exact .base (.frz e)
    · exact .kList e c
  | tup s _ =>
    rcases s with (e | ⟨o, e⟩) | ⟨o, _, _, e, c, _⟩
    · exact .base (.tup e)
    · exact .fTuple e
    · exact .kTuple e c
theorem isi_of {K : PySem.W.Frag} {H : Hp} {v : V} {d : PyData} {n : String} {b : Bool} {Q : VK} (h : Dp K H v d) (hk : kitB (tyN d) n = some b) (q : Q (.bl b) H) : rIsi K [v, .ty n] H Q :=
  ⟨v, .ty n, _, _, b, rfl, .ty n, dp_ty h, kit_ty hk, q⟩
def isI : PyData → Bool
  | .int _ => true
  | .bool _ => true
  | _ => false
def isB : PyData → Bool
  | .bool _ => true
  | _ => false
def isS : PyData → Bool
  | .str _ => true
  | _ => false
def isL : PyData → Bool
  | .list _ => true
  | _ => false
def isT : PyData → Bool
  | .tuple _ => true
  | _ => false
theorem kit_int : ∀ d : PyData, kitB (tyN d) "int" = some (isI d)
  | .none => (by decide +kernel : kitB "NoneType" "int" = some false)
  | .bool _ => (by decide +kernel : kitB "bool" "int" = some true)
  | .int _ => (by decide +kernel : kitB "int" "int" = some true)
  | .str _ => (by decide +kernel : kitB "str" "int" = some false)
  | .list _ => (by decide +kernel : kitB "list" "int" = some false)
  | .tuple _ => (by decide +kernel : kitB "tuple" "int" = some false)
  | .dict _ => (by decide +kernel : kitB "dict" "int" = some false)
theorem kit_bool : ∀ d : PyData, kitB (tyN d) "bool" = some (isB d)
  | .none => (by decide +kernel : kitB "NoneType" "bool" = some false)
  | .bool _ => (by decide +kernel : kitB "bool" "bool" = some true)
  | .int _ => (by decide +kernel : kitB "int" "bool" = some false)
  | .str _ => (by decide +kernel : kitB "str" "bool" = some false)
  | .list _ => (by decide +kernel : kitB "list" "bool" = some false)
  | .tuple _ => (by decide +kernel : kitB "tuple" "bool" = some false)
  | .dict _ => (by decide +kernel : kitB "dict" "bool" = some false)
theorem kit_str : ∀ d : PyData, kitB (tyN d) "str" = some (isS d)
  | .none => (by decide +kernel : kitB "NoneType" "str" = some false)
  | .bool _ => (by decide +kernel : kitB "bool" "str" = some false)
  | .int _ => (by decide +kernel : kitB "int" "str" = some false)
  | .str _ => (by decide +kernel : kitB "str" "str" = some true)
  | .list _ => (by decide +kernel : kitB "list" "str" = some false)
  | .tuple _ => (by decide +kernel : kitB "tuple" "str" = some false)
  | .dict _ => (by decide +kernel : kitB "dict" "str" = some false)
theorem kit_list : ∀ d : PyData, kitB (tyN d) "list" = some (isL d)
  | .none => (by decide +kernel : kitB "NoneType" "list" = some false)
  | .bool _ => (by decide +kernel : kitB "bool" "list" = some false)
  | .int _ => (by decide +kernel : kitB "int" "list" = some false)
  | .str _ => (by decide +kernel : kitB "str" "list" = some false)
  | .list _ => (by decide +kernel : kitB "list" "list" = some true)
  | .tuple _ => (by decide +kernel : kitB "tuple" "list" = some false)
  | .dict _ => (by decide +kernel : kitB "dict" "list" = some false)
theorem kit_tuple : ∀ d : PyData, kitB (tyN d) "tuple" = some (isT d)
  | .none => (by decide +kernel : kitB "NoneType" "tuple" = some false)
  | .bool _ => (by decide +kernel : kitB "bool" "tuple" = some false)
  | .int _ => (by decide +kernel : kitB "int" "tuple" = some false)
  | .str _ => (by decide +kernel : kitB "str" "tuple" = some false)
  | .list _ => (by decide +kernel : kitB "list" "tuple" = some false)
  | .tuple _ => (by decide +kernel : kitB "tuple" "tuple" = some true)
  | .dict _ => (by decide +kernel : kitB "dict" "tuple" = some false)

mutual
theorem dp_mono {K : PySem.W.Frag} {H H' : Hp} (e : Same H H') : ∀ (d : PyData) (v : V), Dp K H v d → Dp K H' v d
  | .none, _, h => by cases h; exact .non
  | .bool b, _, h => by cases h; exact .bl b
  | .int i, _, h => by cases h; exact .int i
  | .str x, _, h => by cases h; exact .str x
  | .list ds, _, h => by
    cases h with
    | lst s a =>
      refine .lst ?_ (dpAll_mono e ds _ a)
      rcases s with (s | ⟨o, s⟩) | s
      · exact .inl (.inl (e _ _ s))
      · exact .inl (.inr ⟨o, e _ _ s⟩)
      · exact .inr s
  | .tuple ds, _, h => by
    cases h with
    | tup s a =>
      refine .tup ?_ (dpAll_mono e ds _ a)
      rcases s with (s | ⟨o, s⟩) | s
      · exact .inl (.inl (e _ _ s))
      · exact .inl (.inr ⟨o, e _ _ s⟩)
      · exact .inr s
  | .dict _, _, h => by cases h
theorem dpAll_mono {K : PySem.W.Frag} {H H' : Hp} (e : Same H H') : ∀ (ds : List PyData) (vs : List V), DpAll K H vs ds → DpAll K H' vs ds
  | [], _, h => by cases h; exact .nil
  | d :: ds, _, h => by
    cases h with
    | cons a b => exact .cons (dp_mono e d _ a) (dpAll_mono e ds _ b)
end
theorem dpAll_len {K : PySem.W.Frag} {H : Hp} : ∀ {vs : List V} {ds : List PyData}, DpAll K H vs ds → vs.length = ds.length
  | _, _, .nil => rfl
  | _, _, .cons _ h => congrArg (· + 1) (dpAll_len h)
theorem dpAll_app {K : PySem.W.Frag} {H : Hp} : ∀ {vs us : List V} {ds es : List PyData}, DpAll K H vs ds → DpAll K H us es → DpAll K H (vs ++ us) (ds ++ es)
  | _, _, _, _, .nil, h => h
  | _, _, _, _, .cons a b, h => .cons a (dpAll_app b h)
theorem dpAll_get {K : PySem.W.Frag} {H : Hp} : ∀ {vs : List V} {ds : List PyData} {i : Nat} {v : V}, DpAll K H vs ds → vs[i]? = some v → ∃ d, ds[i]? = some d ∧ Dp K H v d
  | _, _, _, _, .nil, h => by simp at h
  | _, _, 0, _, .cons a _, h => by
    simp at h
    subst h
    exact ⟨_, rfl, a⟩
  | _, _, i + 1, _, .cons _ b, h => by
    obtain ⟨d, e, q⟩ := dpAll_get (i := i) b (by simpa using h)
    exact ⟨d, by simpa using e, q⟩

theorem dpInts {K : PySem.W.Frag} {H : Hp} : ∀ ns : List Int, DpAll K H (ns.map V.int) (ns.map PyData.int)
  | [] => .nil
  | n :: ns => .cons (.int n) (dpInts ns)
theorem canLay_ints : ∀ ns : List Int, PyData.canLayAll0 (ns.map PyData.int) = true
  | [] => by simp only [List.map_nil, PyData.canLayAll0]
  | n :: ns => by simp only [List.map_cons, PyData.canLayAll0, PyData.canLay0, canLay_ints ns, Bool.and_self]
theorem depth_ints : ∀ ns : List Int, PyData.depthAll (ns.map PyData.int) ≤ 1
  | [] => by simp only [List.map_nil, PyData.depthAll]; omega
  | n :: ns => by
    have := depth_ints ns
    simp only [List.map_cons, PyData.depthAll, PyData.depth]
    omega
theorem shaped_ints (ns : List Int) : SeqAt.shaped (.list (ns.map PyData.int)) = true := by
  have h := depth_ints ns
  have h2 : (PyData.list (ns.map PyData.int)).depth ≤ 64 := by
    simp only [PyData.depth]
    omega
  unfold SeqAt.shaped
  simp only [PyData.canLay0, canLay_ints ns, Bool.true_and]
  exact decide_eq_true h2
theorem upd_get {H : Hp} {p b : Addr} {o u : HO} (hp : H p = none) (h : H b = some u) : upd H p o b = some u := by
  rw [upd_ne (ne_of_none h hp)]
  exact h

/-! ### heaps but for two places -/
def off (d c : Addr) (H : Hp) : Hp := fun b => if b = d ∨ b = c then none else H b
theorem off_same {d c : Addr} {H : Hp} : Same (off d c H) H := fun b o h => by
  unfold off at h
  split at h
  · cases h
  · exact h
theorem off_get {d c b : Addr} {H : Hp} (h1 : b ≠ d) (h2 : b ≠ c) : off d c H b = H b := if_neg (fun z => z.elim h1 h2)
def Ext (d c : Addr) (H H' : Hp) : Prop := Same (off d c H) (off d c H')
theorem Ext.refl {d c : Addr} (H : Hp) : Ext d c H H := fun _ _ h => h
theorem Ext.trans {d c : Addr} {H H1 H2 : Hp} (a : Ext d c H H1) (b : Ext d c H1 H2) : Ext d c H H2 := fun x o h => b x o (a x o h)
theorem Ext.d {d c : Addr} {H : Hp} {o : HO} : Ext d c H (upd H d o) := fun b u h => by
  unfold off at h ⊢
  split at h
  · cases h
  · rename_i n
    rw [if_neg n, upd_ne (fun z => n (.inl z))]
    exact h
theorem Ext.c {d c : Addr} {H : Hp} {o : HO} : Ext d c H (upd H c o) := fun b u h => by
  unfold off at h ⊢
  split at h
  · cases h
  · rename_i n
    rw [if_neg n, upd_ne (fun z => n (.inr z))]
    exact h
theorem Ext.new {d c p : Addr} {H : Hp} {o : HO} (hp : H p = none) : Ext d c H (upd H p o) := fun b u h => by
  unfold off at h ⊢
  split at h
  · cases h
  · rename_i n
    rw [if_neg n, upd_ne (ne_of_none h hp)]
    exact h
/-- an object that was not there may change -/
theorem Ext.mut {d c p : Addr} {H H' : Hp} {o : HO} (e : Ext d c H H') (hp : H p = none) : Ext d c H (upd H' p o) := fun b u h => by
  have h1 := e b u h
  unfold off at h h1 ⊢
  split at h
  · cases h
  · rename_i n
    rw [if_neg n] at h1
    rw [if_neg n, upd_ne (ne_of_none h hp)]
    exact h1
theorem Ext.at {d c b : Addr} {H H' : Hp} {o : HO} (e : Ext d c H H') (h1 : b ≠ d) (h2 : b ≠ c) (h : H b = some o) : H' b = some o := by
  have := e b o ((off_get h1 h2).trans h)
  rw [off_get h1 h2] at this
  exact this
/-- of H' what H had not -/
def news (H H' : Hp) : Hp := fun b => if (H b).isSome = true then none else H' b
theorem news_get {H H' : Hp} {b : Addr} {o : HO} : news H H' b = some o ↔ H b = none ∧ H' b = some o := by
  unfold news
  cases h : H b with
  | none => simp
  | some u => simp
theorem news_same {H H' : Hp} : Same (news H H') H' := fun b o h => (news_get.mp h).2
theorem Ext.sqL {K : PySem.W.Frag} {d c : Addr} {H H' : Hp} {a : Addr} {xs : List V} (e : Ext d c H H') (h : SqL K (off d c H) a xs) : SqL K (off d c H') a xs := Same.seq e h
theorem offL {K : PySem.W.Frag} {d c : Addr} {H : Hp} {a : Addr} {xs : List V} (h : SqL K (off d c H) a xs) : SqL K H a xs := Same.seq off_same h
theorem offD {K : PySem.W.Frag} {d c : Addr} {H : Hp} {v : V} {D : PyData} (h : Dp K (off d c H) v D) : Dp K H v D := dp_mono off_same D v h
theorem Ext.dp {K : PySem.W.Frag} {d c : Addr} {H H' : Hp} {v : V} {D : PyData} (e : Ext d c H H') (h : Dp K (off d c H) v D) : Dp K (off d c H') v D := dp_mono e D v h
theorem tyes {σ : L2.St} {H : Hp} {A B : Hp → Prop} (h : A H) : tYes σ H fun b H3 => if b = true then A H3 else B H3 := by
  show if true = true then A H else B H
  exact iteT h
/-! ### texts -/
abbrev cp (z : Str) : List Nat := z.cps.toList
theorem cp_len (z : Str) : (cp z).length = z.length := by unfold cp; simp [Str.length]
theorem cp_app (a b : Str) : cp (a ++ b) = cp a ++ cp b := by
  unfold cp
  rw [Str.cps_append, Array.toList_append]
theorem cp_ext {a b : Str} (h : cp a = cp b) : a = b := Str.ext' (Array.toList_inj.mp h)
structure OkS (m : Nat) (z : Str) : Prop where
  len : z.length ≤ m
  cps : ∀ c ∈ cp z, c < 128
theorem OkS.up {m n : Nat} {z : Str} (h : OkS m z) (hn : m ≤ n) : OkS n z := ⟨Nat.le_trans h.len hn, h.cps⟩
theorem OkS.app {m n : Nat} {a b : Str} (h : OkS m a) (g : OkS n b) : OkS (m + n) (a ++ b) := by
  refine ⟨?_, fun c hc => ?_⟩
  · rw [Str.length_append]
    have := h.len
    have := g.len
    omega
  · rw [cp_app] at hc
    rcases List.mem_append.mp hc with q | q
    · exact h.cps c q
    · exact g.cps c q
theorem OkS.cut {m : Nat} {z : Str} (h : OkS m z) (lo hi : Option Int) : OkS m (cutS z lo hi) := by
  have e : cp (cutS z lo hi) = ((cp z).drop (HT.sIx z.length 0 lo)).take (HT.sIx z.length z.length hi - HT.sIx z.length 0 lo) := by
    unfold cutS cp
    simp
  refine ⟨?_, fun c hc => ?_⟩
  · rw [← cp_len, e, List.length_take, List.length_drop, cp_len]
    have := h.len
    omega
  · rw [e] at hc
    exact h.cps c (List.mem_of_mem_drop (List.mem_of_mem_take hc))
theorem OkS.one {c : Nat} (h : c < 128) : OkS 1 ⟨#[c]⟩ := ⟨by simp [Str.length], fun x hx => by simp [cp] at hx; omega⟩
theorem OkS.repr {m : Nat} {z : Str} (h : OkS m z) : (reprText z).length ≤ 10 * m + 2 := by
  have h1 := StrLaws.reprText_len z (fun c hc => Nat.lt_of_lt_of_le (h.cps c hc) (by decide))
  have := h.len
  omega
theorem cp_join0 : ∀ l : List Str, cp (Str.join "" l) = (l.map cp).flatten
  | [] => rfl
  | [x] => by
    show cp x = _
    simp
  | x :: y :: r => by
    show cp (x ++ "" ++ Str.join "" (y :: r)) = _
    rw [cp_app, cp_app, cp_join0 (y :: r)]
    have e : cp ("" : Str) = [] := rfl
    rw [e]
    simp
theorem cp_joinT (l : List Str) : cp (Txt.join "" l) = (l.map cp).flatten := by
  rw [eq_of_beq (join_plain_closes "" l)]
  exact cp_join0 l
end HG

set_option maxHeartbeats 4000000
/-! HH: a head's facts by a Hook with one more Bool; written dicts with text keys; written tuples. -/
namespace HG
open PySem PySem.Spec PyProof.Rows L2

/-! ### the Hook -/
abbrev AlB : Type := He.AlT × Bool
def obsB (fa : List He.Fa) (fn : List He.DefD) (ts : List He.Tab) (bx : PySem.W.Frag → Bool) (K : PySem.W.Frag) : AlB := (He.obsT fa fn ts K, bx K)
def obsBG (n : Nat) (fa : List He.Fa) (fn : List He.DefD) (ts : List He.Tab) (bx : PySem.W.Frag → Bool) (g : Addr → Option Obj) : AlB := obsB fa fn ts bx (He.frG g (He.asD g n))
def SaysB (fa : List He.Fa) (fn : List He.DefD) (ts : List He.Tab) (bx : PySem.W.Frag → Bool) (w : World) (K : PySem.W.Frag) : Prop := obsB fa fn ts bx K = (He.valT fn ts w, true)
def hookB (n : Nat) (fa : List He.Fa) (fn : List He.DefD) (ts : List He.Tab) (bx : PySem.W.Frag → Bool) : PySem.W.Hook where
  α := AlB
  obs := fun s => obsBG n fa fn ts bx s.heap.get?
  val := fun w => (He.valT fn ts w, true)
  says := fun w h => ∃ K : PySem.W.Frag, K.In h ∧ SaysB fa fn ts bx w K
  of := fun _ _ e => ⟨_, He.frG_in, e⟩
  keeps := fun _ _ _ ⟨K, hK, c⟩ k => ⟨K, PySem.W.Frag.In.keeps hK k, c⟩
theorem obsBG_eq {n : Nat} {fa : List He.Fa} {fn : List He.DefD} {ts : List He.Tab} {bx : PySem.W.Frag → Bool} {g : Addr → Option Obj} {s : Shared} (h : ∀ a, g a = s.heap.get? a) :
    obsBG n fa fn ts bx g = (hookB n fa fn ts bx).obs s := by
  have e : g = s.heap.get? := funext h
  rw [e]
  rfl
section
variable {fa : List He.Fa} {fn : List He.DefD} {ts : List He.Tab} {bx : PySem.W.Frag → Bool} {w : World} {K : PySem.W.Frag}
theorem SaysB.t (c : SaysB fa fn ts bx w K) : He.SaysT fa fn ts w K := congrArg (fun z : AlB => z.1) c
theorem SaysB.d (c : SaysB fa fn ts bx w K) : He.SaysD fa fn K := c.t.d
theorem SaysB.b (c : SaysB fa fn ts bx w K) : bx K = true := congrArg (fun z : AlB => z.2) c
end

/-! ### a written dict with text keys -/
structure KTab (K : PySem.W.Frag) (w : World) (a : Addr) (kvs : List (Str × V)) : Prop where
  dict : ∃ es n, KDict K w a es n
  hit : ∀ q ∈ kvs, ∃ u, PySem.W.nsIn K a q.1 = some (some u) ∧ RelV q.2 u
  miss : ∀ z : Str, z ∉ kvs.map (·.1) → PySem.W.nsIn K a z = some none
theorem keys_mem {P : Params} : ∀ {l : List DictEntry} {ks : List Str}, l.map He.keyOf = He.keysIn P ks → ∀ e ∈ l, ∃ x t, e.key = .str x t ∧ x ∈ ks
  | [], _, _, e, he => nomatch he
  | e :: r, [], h, _, _ => by cases h
  | e :: r, k :: ks, h, d, hd => by
    have h1 : He.keyOf e :: r.map He.keyOf = some (k, PyData.keyHash P k) :: He.keysIn P ks := h
    injection h1 with h2 h3
    rcases List.mem_cons.mp hd with rfl | hd
    · unfold He.keyOf at h2
      split at h2
      · rename_i x t q
        have h4 := Option.some.inj h2
        obtain ⟨h5, h6⟩ := Prod.mk.inj h4
        exact ⟨x, t, q, by rw [h5]; exact List.mem_cons_self⟩
      · cases h2
    · obtain ⟨x, t, q, hx⟩ := keys_mem h3 d hd
      exact ⟨x, t, q, List.mem_cons_of_mem _ hx⟩
theorem ns_miss {K : PySem.W.Frag} {P : Params} {a : Addr} {ks : List Str} (h : He.dicW K a = some (He.keysIn P ks)) {z : Str} (hz : z ∉ ks) : PySem.W.nsIn K a z = some none := by
  unfold He.dicW at h
  cases q : K.lookup a with
  | none =>
    rw [q] at h
    cases h
  | some o =>
    obtain ⟨oc, od, dt, osl⟩ := o
    rw [q] at h
    cases oc with
    | type c =>
      cases od with
      | none =>
        cases dt with
        | dict es n =>
          have h1 : (match decide (c = "dict") && (osl.isEmpty && !(a == sysModules)) with
            | true => some (es.toList.map He.keyOf)
            | false => none) = some (He.keysIn P ks) := h
          have h2 : es.toList.map He.keyOf = He.keysIn P ks := by
            cases y : decide (c = "dict") && (osl.isEmpty && !(a == sysModules)) with
            | false =>
              rw [y] at h1
              cases h1
            | true =>
              rw [y] at h1
              exact Option.some.inj h1
          have hk := keys_mem h2
          unfold PySem.W.nsIn
          rw [q]
          have e1 : es.toList.find? (·.key.isStr z) = none := by
            rw [List.find?_eq_none]
            intro e he
            obtain ⟨x, t, ex, hx⟩ := hk e he
            rw [ex]
            show ¬ (Value.str x t).isStr z = true
            intro hs
            have : x = z := by
              first
                | exact (beq_iff_eq.mp hs)
                | exact of_decide_eq_true hs
                | (simp [Value.isStr] at hs; exact hs)
            exact hz (this ▸ hx)
          have e2 : es.toList.any (·.refKey) = false := by
            rw [List.any_eq_false]
            intro e he
            obtain ⟨x, t, ex, hx⟩ := hk e he
            unfold DictEntry.refKey
            rw [ex]
            simp
          show (match es.toList.find? (·.key.isStr z) with
            | some e => some (some e.val)
            | none => if es.toList.any (·.refKey) then none else some none) = some none
          rw [e1, e2]
          rfl
        | _ => cases h
      | some b => cases dt <;> cases h
    | _ => cases od <;> cases dt <;> cases h
theorem ktab_mk {fa : List He.Fa} {fn : List He.DefD} {ts : List He.Tab} {bx : PySem.W.Frag → Bool} {w : World} {K : PySem.W.Frag} (c : SaysB fa fn ts bx w K) (i : Nat) {t : He.Tab} {kvs : List (Str × He.Dv)}
    (h : ts[i]? = some t) (hk : t.2 = kvs.map (·.1)) (hv : He.valsB K (t.1 K) kvs = true) : KTab K w (t.1 K) (kvs.map fun q => (q.1, q.2.v K)) := by
  have e : ts.map (fun t => He.dicW K (t.1 K)) = ts.map fun t => some (He.keysIn w.params t.2) := congrArg (fun z : He.AlT => z.2) c.t
  have e2 : (ts.map fun t => He.dicW K (t.1 K))[i]? = (ts.map fun t => some (He.keysIn w.params t.2))[i]? := by rw [e]
  rw [List.getElem?_map, List.getElem?_map, h] at e2
  have e3 := Option.some.inj e2
  refine ⟨He.dicW_ok e3, fun q hq => ?_, fun z hz => ns_miss e3 ?_⟩
  · obtain ⟨p, hp, rfl⟩ := List.mem_map.mp hq
    exact He.valsB_ok hv hp
  · rw [hk]
    rw [List.map_map] at hz
    exact hz
def tabGet (kvs : List (Str × V)) (z : Str) : Option V := (kvs.find? fun q => decide (q.1 = z)).map (·.2)
section
variable {X : Cx} {a : Addr} {kvs : List (Str × V)}
theorem ktab_get {K : PySem.W.Frag} {w : World} (T : KTab K w a kvs) (z : Str) : (∃ v u, tabGet kvs z = some v ∧ PySem.W.nsIn K a z = some (some u) ∧ RelV v u) ∨ (tabGet kvs z = none ∧ PySem.W.nsIn K a z = some none) := by
  unfold tabGet
  cases e : kvs.find? fun q => decide (q.1 = z) with
  | none =>
    refine .inr ⟨rfl, T.miss z fun hz => ?_⟩
    obtain ⟨q, hq, rfl⟩ := List.mem_map.mp hz
    have := List.find?_eq_none.mp e q hq
    simp at this
  | some q =>
    have h1 : q.1 = z := by simpa using List.find?_some e
    obtain ⟨u, h2, h3⟩ := T.hit q (List.mem_of_find?_eq_some e)
    rw [h1] at h2
    exact .inl ⟨q.2, u, rfl, h2, h3⟩
/-- z in TABLE -/
theorem op_in_tab (T : KTab X.K X.w a kvs) : OpR X (compareOp .In) (fun x y H Q => ∃ z : Str, x = .str z ∧ y = .ref a ∧ Q (.bl (tabGet kvs z).isSome) H) := by
  obtain ⟨es, n, D⟩ := T.dict
  intro pins s σ H x y v u Q I rx ry h
  obtain ⟨z, rfl, rfl, q⟩ := h
  rcases ktab_get T z with ⟨v0, u0, e1, e2, _⟩ | ⟨e1, e2⟩
  · rw [e1] at q
    exact op_in_kd D pins s σ H _ _ v u Q I rx ry ⟨z, _, rfl, rfl, e2, q⟩
  · rw [e1] at q
    exact op_in_kd D pins s σ H _ _ v u Q I rx ry ⟨z, _, rfl, rfl, e2, q⟩
theorem op_notIn_tab (T : KTab X.K X.w a kvs) : OpR X (compareOp .NotIn) (fun x y H Q => ∃ z : Str, x = .str z ∧ y = .ref a ∧ Q (.bl (!(tabGet kvs z).isSome)) H) := by
  obtain ⟨es, n, D⟩ := T.dict
  intro pins s σ H x y v u Q I rx ry h
  obtain ⟨z, rfl, rfl, q⟩ := h
  rcases ktab_get T z with ⟨v0, u0, e1, e2, _⟩ | ⟨e1, e2⟩
  · rw [e1] at q
    exact op_notIn_kd D pins s σ H _ _ v u Q I rx ry ⟨z, _, rfl, rfl, e2, q⟩
  · rw [e1] at q
    exact op_notIn_kd D pins s σ H _ _ v u Q I rx ry ⟨z, _, rfl, rfl, e2, q⟩
/-- TABLE[z] -/
theorem ix_tab (T : KTab X.K X.w a kvs) : IxR X (fun x y H Q => ∃ (z : Str) (v : V), x = .ref a ∧ y = .str z ∧ tabGet kvs z = some v ∧ Q v H) := by
  intro value slice pins s σ H x y v u Q I rx ry h hs
  obtain ⟨z, v1, rfl, rfl, e, q⟩ := h
  obtain ⟨es, n, D⟩ := T.dict
  rcases ktab_get T z with ⟨v0, u0, e1, e2, e3⟩ | ⟨e1, e2⟩
  · rw [e] at e1
    cases e1
    exact ix_kdict value slice pins s σ H _ _ v u Q I rx ry ⟨a, z, v1, rfl, rfl, ⟨es, n, u0, D.at_, D.lit, e2, e3⟩, q⟩ hs
  · rw [e] at e1
    cases e1
end

/-! ### a written tuple of plain things -/
def tupB (K : PySem.W.Frag) (x : Str) (ds : List He.Dv) : Bool := match K.lookup (He.ga K x) with
  | some ⟨.type "tuple", _, .seq its _, _⟩ => He.relAll (ds.map (He.Dv.v K)) its.toList && decide (its.size ≤ 1000)
  | _ => false
theorem tupB_ok {K : PySem.W.Frag} {x : Str} {ds : List He.Dv} (h : tupB K x ds = true) (H : Hp) : SqT K H (He.ga K x) (ds.map (He.Dv.v K)) := by
  unfold tupB at h
  split at h
  · rename_i od its n sl q
    obtain ⟨h1, h2⟩ := He.ba h
    exact .inr ⟨_, its, n, q, rfl, rfl, Nat.le_trans (of_decide_eq_true h2) (by decide), He.relAll_ok h1⟩
  · cases h
end HG

set_option maxHeartbeats 4000000
/-! HU: a lambda that captures one name, handed to a def and called there. The cell of the name is known to the def that is called (CellO), and hidden again while the lambda runs. -/
namespace HG
open PySem PySem.Spec PyProof.Rows L2 LamX NdefX
def CellO (c : Addr) (o : Obj) : HO := .ext fun h => h.get? c = some o
def CellV (o : Obj) (v : V) : Prop := ∃ u, o.data = .cell (some u) ∧ RelV v u
structure LF where
  qual : Str
  params : Arguments
  body : Expr
  scope : Scope
def LamO (f : Addr) (F : LF) (y : Str) (c' cs : Addr) : HO :=
  .ext fun h => ∃ (cl : List (Str × Addr)) (pm ctv : Value), h.get? f = some (PySem.W.kla_obj "<lambda>" F.qual F.params F.body F.scope cl pm c' ctv) ∧ cl.lookup y = some cs ∧ ∀ z c, cl.lookup z = some c → z = y
def hide (H : Hp) (c : Addr) : Hp := fun b => if b = c then none else H b
theorem hide_same {H : Hp} {c : Addr} : hide H c c = none := if_pos rfl
theorem hide_ne {H : Hp} {c b : Addr} (h : b ≠ c) : hide H c b = H b := if_neg h
theorem hide_none {H : Hp} {c b : Addr} (h : H b = none) : hide H c b = none := by
  unfold hide
  split
  · rfl
  · exact h
section
variable {P : Program} {w : World} {K : PySem.W.Frag} {mg : Str → Option Value} {base : Heap} {A : Around} {outer : List Env} {s s' : Shared} {H : Hp} {h : Heap} {c : Addr} {o : Obj} {Q : VK} {E : XK} {r : Result}
theorem cellO_get (hok : HOk P w H h) (e : H c = some (CellO c o)) : h.get? c = some o := by
  obtain ⟨z, _, _⟩ := hok c _ e
  exact z
theorem cell_ne {u : HO} (hu : ∀ φ, u ≠ .ext φ) {b : Addr} (e : H c = some (CellO c o)) (q : H b = some u) : b ≠ c := fun z => by
  rw [z, e] at q
  exact hu _ (Option.some.inj q).symm
theorem hok_hide (hok : HOk P w H h) (e : H c = some (CellO c o)) : HOk P w (hide H c) h := by
  intro a u q
  have na : a ≠ c := fun z => by
    rw [z, hide_same] at q
    cases q
  rw [hide_ne na] at q
  refine (hok a u q).stay (fun _ _ _ z => z) (fun b z => ?_) (fun b xs z => ?_)
  · rw [hide_ne (cell_ne (fun _ y => by cases y) e z)]; exact z
  · rw [hide_ne (cell_ne (fun _ y => by cases y) e z)]; exact z
theorem hok_adopt (hok : HOk P w H h) (n : H c = none) (g : h.get? c = some o) : HOk P w (upd H c (CellO c o)) h := by
  intro a u q
  by_cases z : a = c
  · subst z
    rw [upd_same] at q
    cases q
    exact ⟨g, ⟨o, g⟩, fun h1 h2 p st => st _ p⟩
  · rw [upd_ne z] at q
    refine (hok a u q).stay (fun _ _ _ z => z) (fun b y => ?_) (fun b xs y => ?_)
    · rw [upd_ne (ne_of_none y n)]; exact y
    · rw [upd_ne (ne_of_none y n)]; exact y
theorem env0_hide (e0 : Env0 P w K mg base A outer s H) (e : H c = some (CellO c o)) : Env0 P w K mg base A outer s (hide H c) where
  frames := e0.frames
  mod := e0.mod
  bs := fun b u q => ⟨(e0.bs b u q).1, hide_none (e0.bs b u q).2⟩
  bsz := e0.bsz
  funs := e0.funs
  frf := fun b hb => hide_none (e0.frf b hb)
  hok := hok_hide e0.hok e
  bare := e0.bare
theorem env0_adopt (e0 : Env0 P w K mg base A outer s H) (n : H c = none) (g : s.heap.get? c = some o) (nb : base.get? c = none) (nf : c ∉ frs outer) : Env0 P w K mg base A outer s (upd H c (CellO c o)) where
  frames := e0.frames
  mod := e0.mod
  bs := fun b u q => ⟨(e0.bs b u q).1, by
    rw [upd_ne (fun z => by rw [z, nb] at q; cases q)]
    exact (e0.bs b u q).2⟩
  bsz := e0.bsz
  funs := e0.funs
  frf := fun b hb => by
    have z : b ≠ c := fun z => nf (by rw [← z]; exact hb)
    rw [upd_ne z]
    exact e0.frf b hb
  hok := hok_adopt e0.hok n g
  bare := e0.bare
theorem cr_hide (e : H c = some (CellO c o)) (e0 : Env0 P w K mg base A outer s H) (h : CR CX0 outer P w (hide H c) s (fun v H2 => H2 c = none → Q v (upd H2 c (CellO c o))) E r s') : CR CX0 outer P w H s Q E r s' := by
  cases r with
  | error _ => exact h.elim
  | ok fl =>
    cases fl with
    | next => exact h.elim
    | brk => exact h.elim
    | cont => exact h.elim
    | ret u =>
      obtain ⟨v, H2, os, bare, un, hok2, rv, q⟩ := h
      have nf : c ∉ frs outer := fun z => by
        have := e0.frf c z
        rw [e] at this
        cases this
      have g := cellO_get e0.hok e
      have g' : s'.heap.get? c = some o := un.keep c o g hide_same nf (by simp)
      have n2 : H2 c = none := un.free c o g hide_same (by simp)
      have nn : ∀ {b : Addr}, H b = none → b ≠ c := fun {b} n z => by rw [z, e] at n; cases n
      refine ⟨v, upd H2 c (CellO c o), os, bare, ⟨fun b u q n hb hx => un.keep b u q (hide_none n) hb hx, fun b u q n hb hx => un.slot b u q (hide_none n) hb hx, fun b u q n hx => ?_, un.there, fun b xs q => ?_, fun b o' u q => ?_, fun b ps q => ?_⟩, hok_adopt hok2 n2 g', rv, q n2⟩
      · rw [upd_ne (nn n)]
        exact un.free b u q (hide_none n) hx
      · have nb := cell_ne (u := .tup xs) (fun _ y => by cases y) e q
        rw [upd_ne nb]
        exact un.tups b xs ((hide_ne nb).trans q)
      · have nb := cell_ne (u := .frz o' u) (fun _ y => by cases y) e q
        rw [upd_ne nb]
        exact un.frzs b o' u ((hide_ne nb).trans q)
      · have nb := cell_ne (u := .tbl ps) (fun _ y => by cases y) e q
        rw [upd_ne nb]
        exact un.tbls b ps ((hide_ne nb).trans q)
theorem cr_adopt (n : H c = none) (g : s.heap.get? c = some o) (nf : c ∉ frs outer) (h : CR CX0 outer P w (upd H c (CellO c o)) s (fun v H2 => H2 c = some (CellO c o) ∧ Q v (hide H2 c)) E r s') : CR CX0 outer P w H s Q E r s' := by
  cases r with
  | error _ => exact h.elim
  | ok fl =>
    cases fl with
    | next => exact h.elim
    | brk => exact h.elim
    | cont => exact h.elim
    | ret u =>
      obtain ⟨v, H2, os, bare, un, hok2, rv, e2, q⟩ := h
      have g' := cellO_get hok2 e2
      have up : ∀ {b : Addr} {u : HO}, H b = some u → upd H c (CellO c o) b = some u := fun {b u} q => by rw [upd_ne (ne_of_none q n)]; exact q
      refine ⟨v, hide H2 c, os, bare, ⟨fun b u qb n1 hb hx => ?_, fun b u q n1 hb hx => ?_, fun b u q n1 hx => ?_, fun b u q hx => un.there b u q hx, fun b xs q => ?_, fun b o' u q => ?_, fun b ps q => ?_⟩, hok_hide hok2 e2, rv, q⟩
      · by_cases z : b = c
        · subst z
          rw [g] at qb
          cases qb
          exact g'
        · exact un.keep b u qb (by rw [upd_ne z]; exact n1) hb hx
      · have z : b ≠ c := fun z => nf (by rw [← z]; exact hb)
        exact un.slot b u q (by rw [upd_ne z]; exact n1) hb hx
      · by_cases z : b = c
        · rw [z]; exact hide_same
        · exact hide_none (un.free b u q (by rw [upd_ne z]; exact n1) hx)
      · rw [hide_ne (ne_of_none q n)]; exact un.tups b xs (up q)
      · rw [hide_ne (ne_of_none q n)]; exact un.frzs b o' u (up q)
      · rw [hide_ne (ne_of_none q n)]; exact un.tbls b ps (up q)
end
/-! ### the lambda's run -/
structure LOk (P : Program) (w : World) (K : PySem.W.Frag) (mg : Str → Option Value) (base : Heap) (k : Nat) (F : LF) (y : Str) (sp : V → Sp) : Prop where
  run : ∀ (A : Around) (outer : List Env) (s : Shared) (H : Hp) (us : List Value) (vs : List V) (v : V) (cs c' f : Addr) (o : Obj) (Q : VK), Room k A → Env0 P w K mg base A outer s H → H f = some (LamO f F y c' cs) → H c' = some (CodeO c' F.qual) →
    H cs = some (CellO cs o) → CellV o v → Vals vs us → sp v vs (hide H cs) (fun r H2 => H2 cs = none → Q r (upd H2 cs (CellO cs o))) E0 → codeAny (model P w) A (.call (.ref f) ⟨us, []⟩) (CR CX0 outer P w H s Q E0) s
abbrev LF.nf (F : LF) (cl : List (Str × Addr)) (c' : Addr) : NF := ⟨"<lambda>", F.qual, F.params, [], F.scope, cl, c'⟩
theorem lok_of {P : Program} {w : World} {K : PySem.W.Frag} {mg : Str → Option Value} {base : Heap} {k : Nat} {F : LF} {y : Str} {sp : V → Sp} {N ps : List Str} (S : NScope N ps [y] F.scope)
    (hb : ∀ (cl : List (Str × Addr)) (pm cv ctv : Value) (us : List Value), us.length = ps.length → bindArgs (PySem.W.kla_fn "<lambda>" F.qual F.params F.body F.scope cl pm cv ctv) ⟨us, []⟩ = pure (ps.zip us))
    (len : ∀ v vs H Q, sp v vs H Q E0 → vs.length = ps.length)
    (hbody : ∀ (A : Around) (outer : List Env) (s : Shared) (H : Hp) (vs : List V) (v : V) (cl : List (Str × Addr)) (c' f : Addr) (Q : VK), Room k (A.deeper (envF (F.nf cl c') f s.heap.objs.size)) → sp v vs H Q E0 →
      ∃ t, PE (ncx CX0 P w K mg base N (F.nf cl c') f A outer s H E0) F.body t ∧ t (startF N vs [some v]) H Q) : LOk P w K mg base (k + 1) F y sp := by
  refine ⟨fun A outer s H us vs v cs c' f o Q hr e0 hf hc hcs hv r hsp => ?_⟩
  obtain ⟨⟨cl, pm, ctv, ho, hy, hz⟩, _, _⟩ := e0.hok f _ hf
  have hl := len _ _ _ _ hsp
  have g := cellO_get e0.hok hcs
  refine codeAny_mono (R := CR CX0 outer P w (hide H cs) s (fun v H2 => H2 cs = none → Q v (upd H2 cs (CellO cs o))) E0) ?_ (fun r s' h => cr_hide hcs e0 h)
  have e1 := env0_hide e0 hcs
  have lim : s.heap.NoLimit := e0.mod.nolimit.keeps fun b o e => (e0.bs b o e).1
  refine PySem.W.kla_callFunE hr.depth ho rfl S.co S.gen rfl (codeO_at e0.hok hc) ?_
  rw [hb cl pm (.ref c') ctv us (by rw [← r.length]; exact hl)]
  refine wpAny_pure (wpAny_newFunctionEnv S.nocell (fun ⟨n, _⟩ hy => S.par n (List.of_mem_zip hy).1) (fun h₁ hns hsb => ⟨lim.fresh _ hsb, ?_⟩) S.kind)
  show codeAny _ _ (.expr F.body (envF (F.nf cl c') f s.heap.objs.size)) _ _
  have kp : ∀ b u, s.heap.get? b = some u → h₁.get? b = some u := fun b u e => hsb.extBut b u (Nat.ne_of_lt (Heap.lt_size e)) (Heap.get?_push_of_some _ e)
  obtain ⟨u0, hd0, ru0⟩ := hv
  have C : CellsAt cl [y] [some v] s.heap (hide H cs) := by
    refine ⟨rfl, fun z c e => ?_, fun a b c e1 e2 => (hz a c e1).trans (hz b c e2).symm, fun i z e => ?_⟩
    · have ez := hz z c e
      subst ez
      rw [hy] at e
      cases e
      exact ⟨hide_same, some u0, o, g, hd0⟩
    · match i, e with
      | 0, e =>
        cases e
        refine ⟨cs, hy, fun v' e' => ?_⟩
        cases e'
        exact ⟨u0, ru0, o, g, hd0⟩
      | i + 1, e => cases e
  obtain ⟨t, ht, hq⟩ := hbody A outer s (hide H cs) vs v cl c' f _ (hr.deeper _) hsp
  have J : Inv (ncx CX0 P w K mg base N (F.nf cl c') f A outer s (hide H cs) E0) [] (startF N vs [some v]) (hide H cs) { s with heap := h₁, toks := s.toks + (ps.zip us).length } := inv_startN S hr.hd e1 hl r C hns kp
  refine PySem.W.kla_codeExpr (wpAny_mono (ht.run [] _ _ _ _ J hq) (fun v s' hq => ?_) fun e s' hq => hq)
  obtain ⟨w', H', J', rv, q⟩ := hq
  exact ⟨w', H', J'.os, J'.bare, J'.base, J'.hok, rv, q⟩
/-! ### its call -/
def tCallLam (i : Nat) (F : LF) (y : Str) (sp : V → Sp) (t : TA) : TE := fun σ H Q => ∃ (f c' cs : Addr) (o : Obj) (v : V), σ[i]? = some (some (.ref f)) ∧ H f = some (LamO f F y c' cs) ∧
  t σ H fun vs H1 => H1 f = some (LamO f F y c' cs) ∧ H1 c' = some (CodeO c' F.qual) ∧ H1 cs = some (CellO cs o) ∧ CellV o v ∧ sp v vs (hide H1 cs) (fun r H2 => H2 cs = none → Q r (upd H2 cs (CellO cs o))) E0
section
variable {X : Cx} {k i j : Nat} {F : LF} {x y : Str} {sp : V → Sp} {p pos : Pos} {e : Expr} {es : List Expr} {t : TA}
theorem lam_at {pins : List (Addr × Obj)} {σ : L2.St} {H : Hp} {s : Shared} {f c' cs : Addr} (I : Inv X pins σ H s) (e : H f = some (LamO f F y c' cs)) : PySem.W.FnAt f s.heap := by
  obtain ⟨⟨cl, pm, ctv, ho, _⟩, _, _⟩ := I.hok f _ e
  exact ⟨_, _, _, _, ho⟩
theorem pe_callLam (L : LOk X.prog X.w X.K X.mg X.base k F y sp) (hr : Room k X.A) (hN : X.N[i]? = some x) (hv : Vis X.env.scope x) (ha : PA X (e :: es) t)
    (hd : (x == ("__debug__" : Str)) = false := by decide) (hcd : (x == ("__classdict__" : Str)) = false := by decide)
    (he : starEach (e :: es) X.env = (false, eval e X.env) :: starEach es X.env := by rfl) (hpl : (backTo pos (starEach es X.env)).any (·.1) = false := by rfl) :
    PE X (.Call (.Name x p) (e :: es) [] pos) (tCallLam i F y sp t) := by
  constructor
  rintro pins s σ H Q I ⟨f, c', cs, o, v, hs, hf, ht⟩
  refine wpAny_Call_Name_kw (thn ((pe_var (pos := p) hN hv hd hcd).run pins s σ H (fun v H1 => v = .ref f ∧ H1 = H) I ⟨.ref f, hs, rfl, rfl⟩) ?_)
  rintro u s1 ⟨v1, H1, I1, r1, rfl, rfl⟩
  obtain rfl : u = Value.ref f := r1
  refine PySem.W.callWith_F (first := []) (lam_at I1 hf) (thn (ha.run pos pins s1 σ H1 _ I1 ht) ?_) he hpl
  rintro us s2 ⟨vs, H2, I2, r, h1, h2, h3, h4, q⟩
  refine ⟨lam_at I2 h1, ?_⟩
  show wpAny _ _ (call (.ref f) us) _ _ _
  refine wpAny_call (codeAny_mono (L.run X.A X.stack s2 H2 us vs v cs c' f o Q hr I2.env0 h1 h2 h3 h4 r q) fun r s' hq => ?_)
  exact fin_call pass0 I2 hq
/-! ### a lambda as a value -/
def tLm (T : List (Addr × Str)) (F : LF) (y : Str) (cs : Addr) : TE := fun σ H Q => Tabs T H ∧ ∀ (f c' : Addr) (H1 : Hp), ExtN H H1 → (∀ b, H1 b = none → H b = none) → Tabs T H1 → H f = none → H1 f = some (LamO f F y c' cs) → H1 c' = some (CodeO c' F.qual) → Q (.ref f) H1
theorem lamO_ne {f c' cs : Addr} (ps : Array Value) : LamO f F y c' cs ≠ .tbl ps := fun z => by
  unfold LamO at z
  cases z
theorem tabs_ext {T : List (Addr × Str)} {H H' : Hp} (t : Tabs T H) (s : Same H H') : Tabs T H' := t.ext s
theorem pe_lam {T : List (Addr × Str)} {c P : Addr} {params : Arguments} {body : Expr} {scope : Scope} (TB : TabB X.base X.mg c P) (hcode : X.env.code = .ref c)
    (hm : (P, X.env.qual ++ "<lambda>") ∈ T) (hu : ∀ p ∈ T, p.1 = P → p.2 = X.env.qual ++ "<lambda>") (hdef : defaultsOf params X.env = ([], []))
    (hy : (y, NameKind.free) ∈ scope.names) (hk : X.env.scope.names.lookup y = some .cell) (only : ∀ z ∈ scope.names, z.2 = .free → z.1 = y) :
    PE X (.Lambda params body scope pos) (tLm T ⟨X.env.qual ++ "<lambda>", params, body, scope⟩ y ((X.env.cells.lookup y).getD 0)) := by
  constructor
  rintro pins s σ H Q I ⟨hT, hq⟩
  obtain ⟨ps, hP, ht, ha⟩ := hT _ hm
  have hfree : ∀ z ∈ scope.names, z.2 = .free → ∃ c, X.env.cells.lookup z.1 = some c := fun z hz e => by
    rw [only z hz e]
    exact I.ok.has y (.inl hk)
  have hl1 : (cloFrom X.env.cells scope.names []).lookup y = some ((X.env.cells.lookup y).getD 0) := by
    obtain ⟨cy, ey⟩ := I.ok.has y (.inl hk)
    rw [ey]
    exact clo_has hfree hy ey
  have hl2 : ∀ z c, (cloFrom X.env.cells scope.names []).lookup z = some c → z = y := fun z c e => by
    rcases cloFrom_mem (PySem.mem_of_lookup e) with q | ⟨q, _⟩
    · cases q
    · exact only _ q rfl
  have bP : s.heap.BuiltinsAt X.mg P := TB.bm.keeps I.bk
  have hP' : s.heap.get? P = some { cls := .none, data := .fields ps } := I.hok P _ hP
  have lamOk : ∀ (H1 : Hp) (h1 : Heap) (f c' : Addr) (pm ctv : Value), h1.get? f = some (PySem.W.kla_obj "<lambda>" (X.env.qual ++ "<lambda>") params body scope (cloFrom X.env.cells scope.names []) pm c' ctv) →
      ObjOk X.prog X.w H1 h1 f (LamO f ⟨X.env.qual ++ "<lambda>", params, body, scope⟩ y c' ((X.env.cells.lookup y).getD 0)) := fun H1 h1 f c' pm ctv e =>
    ⟨⟨_, pm, ctv, e, hl1, hl2⟩, ⟨_, e⟩, fun h2 h3 ⟨cl, pm, ctv, e, r⟩ st => ⟨cl, pm, ctv, st _ e, r⟩⟩
  refine PySem.W.kla_eval hdef ?_
  cases hc : codeAmong pos ps.toList with
  | some cv =>
    obtain ⟨c', e, hco⟩ := ha pos cv hc
    subst e
    refine PySem.W.kla_makeFunctionHit (mg := X.mg) (c := c) (P := P) (ps := ps) (closure_ok hfree) I.ok.glob (I.mod.glob.keeps I.bk) hcode (TB.code.keeps I.bk) hP' ht hc bP ?_
    intro ctv h' tk hx hsz
    have I1 : Inv X pins σ H { s with heap := h', toks := tk } := I.kept hx
    have nF : H h'.objs.size = none := I1.hok.fresh (Nat.le_refl _)
    have sm : Same H (upd H h'.objs.size (LamO h'.objs.size ⟨X.env.qual ++ "<lambda>", params, body, scope⟩ y c' ((X.env.cells.lookup y).getD 0))) := fun b o e => upd_get nF e
    have I2 := I1.laid (h' := h'.push (PySem.W.kla_obj "<lambda>" (X.env.qual ++ "<lambda>") params body scope (cloFrom X.env.cells scope.names []) ((X.mg "__name__").getD .none) c' ctv)) (t' := tk) (a := h'.objs.size)
      (fun b u e => Heap.get?_push_of_some _ e) (Nat.le_refl _) (lamOk _ _ _ _ _ _ (Heap.get?_push_size _ rfl))
    exact ⟨.ref _, _, I2, rfl, hq h'.objs.size c' _ (ExtN.of sm) (fun b e => upd_none e) (hT.ext sm) nF upd_same (sm _ _ hco)⟩
  | none =>
    refine PySem.W.kla_makeFunction (mg := X.mg) (c := c) (P := P) (ps := ps) (closure_ok hfree) I.ok.glob (I.mod.glob.keeps I.bk) hcode (TB.code.keeps I.bk) hP' ht hc TB.gP bP ?_
    intro c' ctv h' tk hx hge hlt hrec htb
    obtain ⟨c2, oc, vs, t, e2, hoc, hd, hv⟩ := hrec
    cases e2
    have nC : H c' = none := I.hok.fresh hge
    have nP : P ≠ c' := ne_of_none hP nC
    have I1 := inv_table (t' := tk) (more := #[rawInt pos.line, rawInt pos.col, .ref c']) (h' := h') I hP (fun b o hb e => hx b o hb e) htb hge ⟨oc, vs, t, hoc, hd, hv⟩
    generalize eH1 : upd (upd H P (.tbl (ps ++ #[rawInt pos.line, rawInt pos.col, .ref c']))) c' (CodeO c' (X.env.qual ++ "<lambda>")) = H1 at I1
    have atP : H1 P = some (.tbl (ps ++ #[rawInt pos.line, rawInt pos.col, .ref c'])) := by rw [← eH1, upd_ne nP, upd_same]
    have atC : H1 c' = some (CodeO c' (X.env.qual ++ "<lambda>")) := by rw [← eH1]; exact upd_same
    have rest : ∀ b o, H b = some o → b ≠ P → H1 b = some o := fun b o e hb => by
      rw [← eH1, upd_ne (ne_of_none e nC), upd_ne hb]
      exact e
    have hE : ExtN H H1 := fun b o e n => rest b o e fun z => n ps (Option.some.inj (e.symm.trans (z ▸ hP)))
    have gr : ∀ b, H1 b = none → H b = none := fun b e => by
      rw [← eH1] at e
      exact upd_none (upd_none e)
    have T1 : Tabs T H1 := by
      intro p hp
      by_cases hb : p.1 = P
      · have eL : (ps ++ #[rawInt pos.line, rawInt pos.col, .ref c']).toList = ps.toList ++ [rawInt pos.line, rawInt pos.col, .ref c'] := by simp
        rw [hu p hp hb, hb]
        refine ⟨_, atP, by rw [eL]; exact PySem.TriplesOk_snoc _ _ _ _ ht, fun p' cv hcv => ?_⟩
        rw [eL] at hcv
        rcases among_app _ ht hcv with z | z
        · obtain ⟨c0, e1, e2⟩ := ha p' cv z
          exact ⟨c0, e1, hE _ _ e2 codeO_ne⟩
        · exact ⟨c', z, atC⟩
      · obtain ⟨ps', a1, a2, a3⟩ := hT p hp
        refine ⟨ps', rest _ _ a1 hb, a2, fun p' cv hcv => ?_⟩
        obtain ⟨c0, e1, e2⟩ := a3 p' cv hcv
        exact ⟨c0, e1, hE _ _ e2 codeO_ne⟩
    have nF : H1 h'.objs.size = none := I1.hok.fresh (Nat.le_refl _)
    have sm : Same H1 (upd H1 h'.objs.size (LamO h'.objs.size ⟨X.env.qual ++ "<lambda>", params, body, scope⟩ y c' ((X.env.cells.lookup y).getD 0))) := fun b o e => upd_get nF e
    have I2 := I1.laid (h' := h'.push (PySem.W.kla_obj "<lambda>" (X.env.qual ++ "<lambda>") params body scope (cloFrom X.env.cells scope.names []) ((X.mg "__name__").getD .none) c' ctv)) (t' := tk) (a := h'.objs.size)
      (fun b u e => Heap.get?_push_of_some _ e) (Nat.le_refl _) (lamOk _ _ _ _ _ _ (Heap.get?_push_size _ rfl))
    exact ⟨.ref _, _, I2, rfl, hq h'.objs.size c' _ (hE.trans (ExtN.of sm)) (fun b e => gr b (upd_none e)) (T1.ext sm) (gr _ nF) upd_same (sm _ _ atC)⟩
/-! ### a def called while a cell is known -/
def tCalA (j : Nat) (cs : Addr) (sp : Sp) (t : TA) : TE := fun σ H Q => t σ H fun vs H1 => ∃ v, σ[j]? = some (some v) ∧ (H1 cs = none → ∀ o, CellV o v → sp vs (upd H1 cs (CellO cs o)) (fun r H' => H' cs = some (CellO cs o) ∧ Q r (hide H' cs)) E0)
theorem pe_calA {ps : List Str} {sp : Sp} (C : Cal X.prog X.w X.K X.mg X.base x k ps sp) (hr : Room k X.A) (hg : Gl X x) (ha : PA X (e :: es) t) (hN : X.N[j]? = some y) (hk : X.env.scope.names.lookup y = some .cell) (hfn : X.fn y = true)
    (hdb : (x == ("__debug__" : Str)) = false := by decide)
    (he : starEach (e :: es) X.env = (false, eval e X.env) :: starEach es X.env := by rfl)
    (hpl : (backTo pos (starEach es X.env)).any (·.1) = false := by rfl) : PE X (.Call (.Name x p) (e :: es) [] pos) (tCalA j ((X.env.cells.lookup y).getD 0) sp t) := by
  obtain ⟨fd, F, b⟩ := C.ex
  constructor
  intro pins s σ H Q I h
  refine wpAny_Call_Name_kw (ld_glob I hg C.gl ?_ hdb)
  refine PySem.W.callWith_K (h₀ := X.base) I.ok.mod.kin C.kp (thn (ha.run pos pins s σ H _ I h) ?_) he hpl
  rintro us s1 ⟨vs, H1, I1, r, v, hv, q⟩
  obtain ⟨cs, ecs⟩ := I1.ok.has y (.inl hk)
  rw [ecs] at q
  have nC : H1 cs = none := I1.freeC y cs ecs
  obtain ⟨m, hn, hl⟩ := I1.loc
  obtain ⟨u, ru, lk⟩ := hl j y v hN hv (.inr (.inl hk))
  have cell : s1.heap.IsCell cs (some u) := by
    rcases lk with ⟨z, _⟩ | ⟨_, c2, e2, z⟩
    · have z : X.env.scope.names.lookup y = some .local := z
      rw [hk] at z
      cases z
    · rw [ecs] at e2
      cases e2
      exact z
  obtain ⟨o, go, hd⟩ := cell
  have hge : X.s_0.heap.objs.size ≤ cs := I1.ok.cab y cs hfn ecs
  have nb : X.base.get? cs = none := by
    cases z : X.base.get? cs with
    | none => rfl
    | some ob =>
      have h1 := Heap.lt_size z
      have h2 := I1.ok.bsz
      exact absurd (Nat.lt_of_lt_of_le h1 (Nat.le_trans h2 hge)) (Nat.lt_irrefl _)
  have nO : cs ∉ X.fs := fun z => by
    obtain ⟨ob, e1, _⟩ := (I1.ok.funs.mem z).2
    exact absurd (Nat.lt_of_lt_of_le (Heap.lt_size e1) hge) (Nat.lt_irrefl _)
  have nf : cs ∉ frs X.stack := fun z => by
    rcases I1.ok.stk with e | ⟨e, ef⟩
    · rw [e] at z
      exact nO z
    · rw [e] at z
      have z : cs ∈ (X.env :: X.outer).filterMap (·.frame) := z
      rw [List.filterMap_cons, ef] at z
      rcases List.mem_cons.mp z with z | z
      · obtain ⟨ob, es1, ep, e1, d1, _⟩ := hn
        rw [← z, go] at e1
        cases e1
        rw [hd] at d1
        cases d1
      · exact nO z
  have q := q nC o ⟨u, hd, ru⟩
  have hl1 : us.length = ps.length := r.length.symm.trans (F.len _ _ _ _ q)
  refine ⟨I1.kIn, wpAny_call (codeAny_mono (F.run X.A X.stack s1 (upd H1 cs (CellO cs o)) ⟨us, []⟩ us vs _ _ hr (env0_adopt I1.env0 nC go nb nf) ?_ r q) fun r s' hq => ?_)⟩
  · have := b s1 us I1.kIn (by rw [List.append_nil]; exact hl1)
    rw [List.append_nil] at this
    exact this
  · exact fin_call pass0 I1 (cr_adopt nC go nf hq)
end
/-- the lambda and what it needs, as data S -/
structure LamAt (K : PySem.W.Frag) (F : LF) (y : Str) (H : Hp) (f c' cs : Addr) (o : Obj) (v : V) (S : List PyData) : Prop where
  lam : H f = some (LamO f F y c' cs)
  code : H c' = some (CodeO c' F.qual)
  cell : H cs = some (CellO cs o)
  val : CellV o v
  dat : Dp K H v (.tuple S)
theorem LamAt.mono {K : PySem.W.Frag} {F : LF} {y : Str} {H H' : Hp} {f c' cs : Addr} {o : Obj} {v : V} {S : List PyData} (h : LamAt K F y H f c' cs o v S) (s : Same H H') : LamAt K F y H' f c' cs o v S :=
  ⟨s _ _ h.lam, s _ _ h.code, s _ _ h.cell, h.val, dp_mono s _ _ h.dat⟩
mutual
theorem dp_hide {K : PySem.W.Frag} {H : Hp} {c : Addr} {o : Obj} (e : H c = some (CellO c o)) : ∀ (d : PyData) (v : V), Dp K H v d → Dp K (hide H c) v d
  | .none, _, h => by cases h; exact .non
  | .bool b, _, h => by cases h; exact .bl b
  | .int i, _, h => by cases h; exact .int i
  | .str x, _, h => by cases h; exact .str x
  | .list ds, _, h => by
    cases h with
    | lst s a =>
      refine .lst ?_ (dpAll_hide e ds _ a)
      rcases s with (s | ⟨o, s⟩) | s
      · exact .inl (.inl ((hide_ne (cell_ne (fun _ y => by cases y) e s)).trans s))
      · exact .inl (.inr ⟨o, (hide_ne (cell_ne (fun _ y => by cases y) e s)).trans s⟩)
      · exact .inr s
  | .tuple ds, _, h => by
    cases h with
    | tup s a =>
      refine .tup ?_ (dpAll_hide e ds _ a)
      rcases s with (s | ⟨o, s⟩) | s
      · exact .inl (.inl ((hide_ne (cell_ne (fun _ y => by cases y) e s)).trans s))
      · exact .inl (.inr ⟨o, (hide_ne (cell_ne (fun _ y => by cases y) e s)).trans s⟩)
      · exact .inr s
  | .dict _, _, h => by cases h
theorem dpAll_hide {K : PySem.W.Frag} {H : Hp} {c : Addr} {o : Obj} (e : H c = some (CellO c o)) : ∀ (ds : List PyData) (vs : List V), DpAll K H vs ds → DpAll K (hide H c) vs ds
  | [], _, h => by cases h; exact .nil
  | d :: ds, _, h => by
    cases h with
    | cons a b => exact .cons (dp_hide e d _ a) (dpAll_hide e ds _ b)
end
/-- back from the lambda -/
theorem same_back {H H2 : Hp} {c : Addr} {o : Obj} (e : H c = some (CellO c o)) (s : Same (hide H c) H2) : Same H (upd H2 c (CellO c o)) := fun b u q => by
  by_cases z : b = c
  · subst z
    rw [e] at q
    cases q
    exact upd_same
  · rw [upd_ne z]
    exact s _ _ ((hide_ne z).trans q)
end HG

set_option maxHeartbeats 4000000
/-! HC: the law's end and the head where some defs make lambdas: their code objects' tables are empty at the start. -/
namespace HG
open PySem PySem.Spec PyProof.Rows L2 LamX
/-! ### the law's own call, with tables -/
section
variable {P : Program} {w : World} {K : PySem.W.Frag} {mg mb : Str → Option Value} {CX : CXT} {k : Nat} {fa a : Addr} {fd : FuncData} {x : Str} {sp : Sp} {s1 : Shared} {vs : List Value} {ns : List Int} {cs : List (Addr × Addr)}
def isTab (cs : List (Addr × Addr)) (b : Addr) : Bool := cs.any fun p => p.2 == b
theorem isTab_of {p : Addr × Addr} (h : p ∈ cs) : isTab cs p.2 = true := List.any_eq_true.mpr ⟨p, h, beq_self_eq_true _⟩
theorem of_isTab {b : Addr} (h : isTab cs b = true) : ∃ p ∈ cs, p.2 = b := by
  obtain ⟨p, hp, e⟩ := List.any_eq_true.mp h
  exact ⟨p, hp, beq_iff_eq.mp e⟩
/-- the tables at first -/
def withTabs (cs : List (Addr × Addr)) (H : Hp) : Hp := fun b => if isTab cs b = true then some (.tbl #[]) else H b
theorem withTabs_at {H : Hp} {p : Addr × Addr} (h : p ∈ cs) : withTabs cs H p.2 = some (.tbl #[]) := if_pos (isTab_of h)
theorem withTabs_ne {H : Hp} {b : Addr} (h : isTab cs b = false) : withTabs cs H b = H b := if_neg (by rw [h]; decide)
theorem law_coreT (KX : K.In s1.heap) (hns : s1.heap.Ns mainGlobals mg) (hb : s1.heap.Ns builtinsNs mb)
    (hbb : ∀ x : Str, x ≠ "__name__" → mb x = bootBuiltins x) (hlim : s1.heap.NoLimit) (hg : s1.gens = #[])
    (hT : ∀ p ∈ cs, s1.heap.get? p.2 = some { cls := .none, data := .fields #[] }) (nT : ∀ p ∈ cs, K.lookup p.2 = none) (hC : ∀ p ∈ cs, PySem.W.CodeHd s1.heap p.1 p.2)
    (hbm : ∃ (bm : Addr) (ob : Obj), mg "__builtins__" = some (.ref bm) ∧ bm ≠ builtinsNs ∧ s1.heap.get? bm = some ob ∧ ob.cls = .type "module" ∧ ob.dict = some builtinsNs ∧ ob.data = .plain)
    (ha : s1.heap.get? a = some { cls := .type "list", data := .seq vs.toArray }) (hr : Room k callerA)
    (F : ∀ base : Heap, K.In base → base.Ns mainGlobals mg → (∀ p ∈ cs, TabB base mg p.1 p.2) → FnG P w K mg base CX k fa fd [x] sp)
    (hbind : ∀ (s : Shared) (u : Value), BindsTo s fd ⟨[u], []⟩ [(x, u)])
    {H0 : Hp} (only : Only H0) (hok0 : HOk P w H0 s1.heap) (hA0 : ∀ b, H0 b ≠ none → b = a) (hK : H0 a ≠ none → K.lookup a = none)
    (hsp : sp [.ref a] (withTabs cs H0) (fun v _ => v = .bl true) fun _ _ _ => False)
    (hCX : ∀ e s', CX [] (withTabs cs H0) s1 (fun _ _ _ => False) e s' → False) :
    codeAny (model P w) callerA (.call (.ref fa) ⟨[.ref a], []⟩)
      (fun r s' => r = .ok (.ret (.bool true)) ∧ OldK s1.heap s'.heap ∧ s'.os = s1.os ∧ AllBare s'.gens) s1 := by
  have tabO : ∀ {b : Addr}, isTab cs b = true → s1.heap.get? b = some { cls := .none, data := .fields #[] } := fun {b} h => by
    obtain ⟨p, hp, rfl⟩ := of_isTab h
    exact hT p hp
  have aT : isTab cs a = false := by
    cases z : isTab cs a with
    | false => rfl
    | true =>
      have q := tabO z
      rw [ha] at q
      cases q
  generalize eH : withTabs cs H0 = H at hsp hCX
  have hH : ∀ p ∈ cs, H p.2 = some (.tbl #[]) := fun p hp => by rw [← eH]; exact withTabs_at hp
  have hHn : ∀ {b : Addr}, isTab cs b = false → H b = H0 b := fun {b} h => by rw [← eH]; exact withTabs_ne h
  have tracked : ∀ {b : Addr} {u : HO}, H b = some u → b = a ∨ isTab cs b = true := by
    intro b u q
    cases z : isTab cs b with
    | true => exact .inr rfl
    | false =>
      rw [hHn z] at q
      exact .inl (hA0 b (by simp [q]))
  have hok : HOk P w H s1.heap := by
    intro b u q
    cases z : isTab cs b with
    | true =>
      obtain ⟨p, hp, rfl⟩ := of_isTab z
      rw [hH p hp] at q
      cases q
      exact hT p hp
    | false =>
      rw [hHn z] at q
      refine (hok0 b u q).stay (fun _ _ _ y => y) (fun d y => ?_) (fun d xs y => ?_)
      · have e := hA0 d (by simp [y])
        rw [hHn (by rw [e]; exact aT)]
        exact y
      · have e := hA0 d (by simp [y])
        rw [hHn (by rw [e]; exact aT)]
        exact y
  have plain : ∀ {b : Addr} {o : Obj}, s1.heap.get? b = some o → (∀ xs n, o.data ≠ .seq xs n) → o.data ≠ .fields #[] → H b = none := by
    intro b o e h1 h2
    cases q : H b with
    | none => rfl
    | some u =>
      rcases tracked q with z | z
      · rw [z, ha] at e
        cases e
        exact (h1 _ _ rfl).elim
      · rw [tabO z] at e
        cases e
        exact (h2 rfl).elim
  have nsK : ∀ {b : Addr} {m : Str → Option Value}, s1.heap.Ns b m → (hidT s1.heap H).Ns b m := by
    rintro b m ⟨o, es, ep, e, d, r⟩
    exact ⟨o, es, ep, hidT_get e (plain e (fun _ _ z => by rw [d] at z; cases z) (fun z => by rw [d] at z; cases z)), d, r⟩
  have kin : K.In (hidT s1.heap H) := by
    intro b o e
    refine hidT_get (KX b o e) ?_
    cases q : H b with
    | none => rfl
    | some u =>
      rcases tracked q with z | z
      · subst z
        rw [hHn aT] at q
        rw [hK (by simp [q])] at e
        cases e
      · obtain ⟨p, hp, rfl⟩ := of_isTab z
        rw [nT p hp] at e
        cases e
  have md : Mod K mg (hidT s1.heap H) := by
    obtain ⟨mc, l1, l2⟩ := hlim
    exact ⟨kin, nsK hns, ⟨mb, nsK hb, hbb⟩, ⟨mc, nsK l1, l2⟩⟩
  have tb : ∀ p ∈ cs, TabB (hidT s1.heap H) mg p.1 p.2 := by
    intro p hp
    constructor
    · obtain ⟨o, us, file, tf, flags, tg, inF, text, tt, e1, r1, r2, r3, rr⟩ := hC p hp
      refine ⟨o, us, file, tf, flags, tg, inF, text, tt, hidT_get e1 (plain e1 (fun _ _ z => by rw [r2] at z; cases z) fun z => ?_), r1, r2, r3, rr⟩
      rw [r2] at z
      cases z
      simp at r3
    · obtain ⟨bm, ob, b1, b2, b3, b4, b5, b6⟩ := hbm
      refine ⟨bm, ob, b1, b2, fun q => ?_, fun q => ?_, hidT_get b3 (plain b3 (fun _ _ z => by rw [b6] at z; cases z) fun z => by rw [b6] at z; cases z), b4, b5, b6⟩
      · obtain ⟨o, es, ep, e, d, _⟩ := hns
        rw [q, e] at b3
        cases b3
        rw [d] at b6
        cases b6
      · rw [q, hT p hp] at b3
        cases b3
        cases b6
    · intro z
      obtain ⟨o, es, ep, e, d, _⟩ := hns
      rw [z, hT p hp] at e
      cases e
      cases d
  have e0 : Env0 P w K mg (hidT s1.heap H) callerA [] s1 H :=
    { frames := rfl, mod := md, bs := fun b o e => of_hidT e, bsz := Nat.le_of_eq (hidT_size _ _), funs := trivial,
      frf := fun b z => absurd (show b ∈ ([] : List Addr) from z) List.not_mem_nil, hok := hok, bare := .of_eq hg }
  have go := (F _ kin (nsK hns) tb).goes callerA [] s1 H ⟨[.ref a], []⟩ [.ref a] [.ref a] _ _ hr rfl e0 (hbind s1 (.ref a)) (.cons rfl .nil) hsp
  refine codeAny_mono go fun r s' h => ?_
  cases r with
  | error e => exact (hCX e s' h).elim
  | ok fl =>
    cases fl with
    | next => exact h.elim
    | brk => exact h.elim
    | cont => exact h.elim
    | ret u =>
      obtain ⟨v, H', os, bare, un, hok', r', q⟩ := h
      have ev : v = .bl true := q
      subst ev
      have eu : u = Value.bool true := r'
      subst eu
      have key : ∀ b o, isTab cs b = false → s1.heap.get? b = some o → s'.heap.get? b = some o := by
        intro b o nb e
        rcases only b with z | ⟨ob, xs, z⟩
        · exact un.keep b o e ((hHn nb).trans z) (fun y => absurd (show b ∈ ([] : List Addr) from y) List.not_mem_nil) List.not_mem_nil
        · have z1 := (hHn nb).trans z
          obtain ⟨e1, _⟩ := hok b _ z1
          obtain ⟨e2, _⟩ := hok' b _ (un.frzs b ob _ z1)
          rw [e1] at e
          cases e
          exact e2
      have grown : ∀ p ∈ cs, ∃ more : Array Value, s'.heap.get? p.2 = some { cls := .none, data := .fields more } := by
        intro p hp
        obtain ⟨more, z⟩ := un.tbls p.2 #[] (hH p hp)
        exact ⟨_, hok' p.2 _ z⟩
      refine ⟨rfl, ⟨fun b o e => ?_, fun b o e => ?_⟩, os, bare⟩
      · cases hb : isTab cs b with
        | false => exact .inl (key b o hb e)
        | true =>
          obtain ⟨p, hp, rfl⟩ := of_isTab hb
          obtain ⟨more, hm⟩ := grown p hp
          rw [hT p hp] at e
          cases e
          refine .inr (.inl ⟨((hC p hp).tab (hT p hp)).isCodeTable, rfl, #[], more, rfl, ?_⟩)
          rw [Array.empty_append]
          exact hm
      · cases hb : isTab cs b with
        | false => exact ⟨o, key b o hb e⟩
        | true =>
          obtain ⟨p, hp, rfl⟩ := of_isTab hb
          obtain ⟨more, hm⟩ := grown p hp
          exact ⟨_, hm⟩
theorem law_callTG (KX : K.In s1.heap) (hns : s1.heap.Ns mainGlobals mg) (hb : s1.heap.Ns builtinsNs mb)
    (hbb : ∀ x : Str, x ≠ "__name__" → mb x = bootBuiltins x) (hlim : s1.heap.NoLimit) (hg : s1.gens = #[])
    (hT : ∀ p ∈ cs, s1.heap.get? p.2 = some { cls := .none, data := .fields #[] }) (nT : ∀ p ∈ cs, K.lookup p.2 = none) (hC : ∀ p ∈ cs, PySem.W.CodeHd s1.heap p.1 p.2)
    (hbm : ∃ (bm : Addr) (ob : Obj), mg "__builtins__" = some (.ref bm) ∧ bm ≠ builtinsNs ∧ s1.heap.get? bm = some ob ∧ ob.cls = .type "module" ∧ ob.dict = some builtinsNs ∧ ob.data = .plain)
    (ha : s1.heap.get? a = some { cls := .type "list", data := .seq vs.toArray }) (hi : IntsAre vs ns) (hl : ns.length ≤ sizeLine) (hr : Room k callerA)
    (F : ∀ base : Heap, K.In base → base.Ns mainGlobals mg → (∀ p ∈ cs, TabB base mg p.1 p.2) → FnG P w K mg base CX k fa fd [x] sp)
    (hbind : ∀ (s : Shared) (u : Value), BindsTo s fd ⟨[u], []⟩ [(x, u)])
    (hsp : ∀ H : Hp, (∀ p ∈ cs, H p.2 = some (.tbl #[])) → SqL K H a (ns.map V.int) → sp [.ref a] H (fun v _ => v = .bl true) fun _ _ _ => False)
    (hCX : ∀ H e s', CX [] H s1 (fun _ _ _ => False) e s' → False) :
    codeAny (model P w) callerA (.call (.ref fa) ⟨[.ref a], []⟩)
      (fun r s' => r = .ok (.ret (.bool true)) ∧ OldK s1.heap s'.heap ∧ s'.os = s1.os ∧ AllBare s'.gens) s1 := by
  have rv := vals_ints hi
  have aT : isTab cs a = false := by
    cases z : isTab cs a with
    | false => rfl
    | true =>
      obtain ⟨p, hp, e⟩ := of_isTab z
      have q := hT p hp
      rw [e, ha] at q
      cases q
  cases hk : K.lookup a with
  | some o =>
    have e := KX a o hk
    rw [ha] at e
    cases e
    have on : Only (fun _ => none) := fun _ => .inl rfl
    refine law_coreT KX hns hb hbb hlim hg hT nT hC hbm ha hr F hbind on (fun b u z => by cases z) (fun b z => absurd rfl z) (fun z => absurd rfl z) (hsp _ (fun p hp => withTabs_at hp) (.inr ?_)) (hCX _)
    exact ⟨_, vs.toArray, _, hk, rfl, rfl, rfl, by rw [List.size_toArray, hi.length]; exact hl, by simpa using rv⟩
  | none =>
    let o : Obj := { cls := .type "list", data := .seq vs.toArray }
    let H : Hp := upd (fun _ => none) a (.frz o (.lst (ns.map V.int)))
    have hH : H a = some (.frz o (.lst (ns.map V.int))) := upd_same
    have hN : ∀ b, b ≠ a → H b = none := fun b z => upd_ne z
    have on : Only H := by
      intro b
      by_cases e : b = a
      · subst e; exact .inr ⟨_, _, hH⟩
      · exact .inl (hN b e)
    refine law_coreT KX hns hb hbb hlim hg hT nT hC hbm ha hr F hbind on (fun b u z => ?_) (fun b z => ?_) (fun _ => hk) (hsp _ (fun p hp => withTabs_at hp) (.inl (.inr ⟨o, (withTabs_ne aT).trans hH⟩))) (hCX _)
    · by_cases e : b = a
      · subst e
        rw [hH] at z
        cases z
        exact ⟨ha, by rw [List.length_map]; exact hl, vs, _, rv, ha⟩
      · rw [hN b e] at z; cases z
    · by_cases e : b = a
      · exact e
      · exact absurd (hN b e) z
end
theorem walkTG {l : PySem.W.OpenLaw} {n k : Nat} {q : Program} {loose : List Str} {XP : (Str → Option Value) → Heap → Prop} {YP : World → Heap → Prop} {d : DefRec} {CX : CXT} {x : Str}
    (hn : l.most = some n) (hn2 : n ≤ sizeLine) (hdf : d.params.defaults = []) (hr : Room k callerA)
    (F : ∀ (w : World) (mg : Str → Option Value) (fa : Addr) (h : Heap), YP w h → h.Ns mainGlobals mg → mg d.name = some (.ref fa) →
      ∃ (K : PySem.W.Frag) (fd : FuncData) (cs : List (Addr × Addr)) (sp : Sp), K.In h ∧ (∀ p ∈ cs, h.get? p.2 = some { cls := .none, data := .fields #[] }) ∧ (∀ p ∈ cs, K.lookup p.2 = none) ∧ (∀ p ∈ cs, PySem.W.CodeHd h p.1 p.2) ∧
        (∀ (s : Shared) (u : Value), BindsTo s fd ⟨[u], []⟩ [(x, u)]) ∧
        (∀ (H : Hp) (a : Addr) (ns : List Int), ns.length ≤ n → (∀ z ∈ ns, Builtin.Int.intBits z ≤ 1048576) → (∀ p ∈ cs, H p.2 = some (.tbl #[])) → SqL K H a (ns.map V.int) →
          sp [.ref a] H (fun v _ => v = .bl true) fun _ _ _ => False) ∧
        ∀ base : Heap, K.In base → base.Ns mainGlobals mg → (∀ p ∈ cs, TabB base mg p.1 p.2) → FnG l.prog w K mg base CX k fa fd [x] sp)
    (hCX : ∀ (H : Hp) (s : Shared) (e : Value) (s' : Shared), CX [] H s (fun _ _ _ => False) e s' → False) :
    PySem.W.WalkO q loose XP YP l.row.toRowW d [] (fun f vs => PySem.call f vs) := by
  refine Att.attach_callB hn hdf ?_
  intro w s₀ s₁ mg mb fa o pm cd doc a vs ns G Y ho hd hcd hmg hobj hints hlen hbits hg
  obtain ⟨K, fd, cs, sp, KX, hT, nT, hC, hb, hsp, hF⟩ := F w mg fa _ Y G.T.g hmg
  exact law_callTG KX G.T.g G.T.b G.T.builtins G.T.nolimit hg hT nT hC G.T.bmain hobj hints (Nat.le_trans hlen hn2) hr hF hb (fun H hH hS => hsp H a ns hlen hbits hH hS) (fun H e s' => hCX H s₁ e s')
/-! ### the head's hook -/
def noTab (g : Addr → Option Obj) (a : Addr) : Bool := match g a with
  | some ⟨.none, _, .fields _, _⟩ => false
  | _ => true
def frT (g : Addr → Option Obj) (n : Nat) : PySem.W.Frag := He.frG g ((He.asD g n).filter (noTab g))
/-- the table of the code of the def x -/
def codB (g : Addr → Option Obj) (K : PySem.W.Frag) (x : Str) : Bool := match g (He.ga K x) with
  | some ⟨_, _, .func fd, _⟩ => match fd.code with
    | .ref c => match g c with
      | some ⟨.type t, _, .fields vs, _⟩ => decide (t = "code") && match (vs[11]? : Option Value), vs.getD 18 .none, vs.getD 7 .none, vs.getD 9 .none, vs.getD 10 .none with
        | some (Value.ref P), .str _ _, .int _ _, .bool _, .int _ _ => decide (c ≠ P) && ((K.lookup P).isNone && match g P with
          | some ⟨.none, none, .fields ps, sl⟩ => ps.isEmpty && sl.isEmpty
          | _ => false)
        | _, _, _, _, _ => false
      | _ => false
    | _ => false
  | _ => false
def tabA (g : Addr → Option Obj) (K : PySem.W.Frag) (x : Str) : Addr × Addr := match g (He.ga K x) with
  | some ⟨_, _, .func fd, _⟩ => match fd.code with
    | .ref c => match g c with
      | some ⟨_, _, .fields vs, _⟩ => match (vs[11]? : Option Value) with
        | some (Value.ref P) => (c, P)
        | _ => (0, 0)
      | _ => (0, 0)
    | _ => (0, 0)
  | _ => (0, 0)
structure CodT (K : PySem.W.Frag) (h : Heap) (x : Str) (c P : Addr) : Prop where
  fn : ∃ o fd, h.get? (He.ga K x) = some o ∧ o.data = .func fd ∧ fd.code = .ref c
  hd : PySem.W.CodeHd h c P
  tab : h.get? P = some { cls := .none, data := .fields #[] }
  no : K.lookup P = none
theorem codB_ok {h : Heap} {K : PySem.W.Frag} {x : Str} (e : codB h.get? K x = true) : CodT K h x (tabA h.get? K x).1 (tabA h.get? K x).2 := by
  suffices hs : ∃ c P, tabA h.get? K x = (c, P) ∧ CodT K h x c P by
    obtain ⟨c, P, e1, e2⟩ := hs
    rw [e1]
    exact e2
  unfold codB at e
  split at e
  · rename_i od0 od fd sl e1
    split at e
    · rename_i c e2
      split at e
      · rename_i t od2 vs sl2 e3
        obtain ⟨h1, h2⟩ := He.ba e
        have h1 := of_decide_eq_true h1
        subst h1
        split at h2
        · rename_i P z1 t1 z2 t2 z3 z4 t4 f1 f2 f3 f4 f5
          obtain ⟨h3, h4⟩ := He.ba h2
          obtain ⟨h5, h6⟩ := He.ba h4
          split at h6
          · rename_i ps sl3 e4
            obtain ⟨h7, h8⟩ := He.ba h6
            have h7 : ps = #[] := by simpa using h7
            have h8 : sl3 = #[] := by simpa using h8
            subst h7 h8
            refine ⟨c, P, by unfold tabA; simp only [e1, e2, e3, f1], ⟨_, fd, e1, rfl, e2⟩, ⟨_, vs, z1, t1, z2, t2, z3, z4, t4, e3, rfl, rfl, f1, ?_, f2, f3, f4, f5, of_decide_eq_true h3⟩, e4, by simpa using h5⟩
            rw [Array.getD_eq_getD_getElem?, f1]
            rfl
          · cases h6
        · cases h2
      · cases e
    · cases e
  · cases e
theorem CodT.keeps {K : PySem.W.Frag} {h h' : Heap} {x : Str} {c P : Addr} (t : CodT K h x c P) (k : ∀ b o, h.get? b = some o → h'.get? b = some o) : CodT K h' x c P := by
  obtain ⟨⟨o, fd, e1, e2, e3⟩, h2, h3, h4⟩ := t
  exact ⟨⟨o, fd, k _ _ e1, e2, e3⟩, h2.keeps k, k _ _ h3, h4⟩
abbrev AlC : Type := AlB × Bool
def obsCG (n : Nat) (fa : List He.Fa) (fn : List He.DefD) (ts : List He.Tab) (bx : PySem.W.Frag → Bool) (xs : List Str) (g : Addr → Option Obj) : AlC := (obsB fa fn ts bx (frT g n), xs.all (codB g (frT g n)) && decide ((xs.map fun x => (tabA g (frT g n) x).2).Nodup))
def hookC (n : Nat) (fa : List He.Fa) (fn : List He.DefD) (ts : List He.Tab) (bx : PySem.W.Frag → Bool) (xs : List Str) : PySem.W.Hook where
  α := AlC
  obs := fun s => obsCG n fa fn ts bx xs s.heap.get?
  val := fun w => ((He.valT fn ts w, true), true)
  says := fun w h => ∃ K : PySem.W.Frag, K.In h ∧ SaysB fa fn ts bx w K ∧ ∃ cp : Str → Addr × Addr, (∀ x ∈ xs, CodT K h x (cp x).1 (cp x).2) ∧ (xs.map fun x => (cp x).2).Nodup
  of := fun _ _ e => ⟨_, He.frG_in, congrArg (fun z : AlC => z.1) e, _, fun x hx => codB_ok (List.all_eq_true.mp (He.ba (congrArg (fun z : AlC => z.2) e)).1 x hx), of_decide_eq_true (He.ba (congrArg (fun z : AlC => z.2) e)).2⟩
  keeps := fun _ _ _ ⟨K, hK, c, cp, t, nd⟩ k => ⟨K, PySem.W.Frag.In.keeps hK k, c, cp, fun x hx => (t x hx).keeps k, nd⟩
theorem obsCG_eq {n : Nat} {fa : List He.Fa} {fn : List He.DefD} {ts : List He.Tab} {bx : PySem.W.Frag → Bool} {xs : List Str} {g : Addr → Option Obj} {s : Shared} (h : ∀ a, g a = s.heap.get? a) :
    obsCG n fa fn ts bx xs g = (hookC n fa fn ts bx xs).obs s := by
  have e : g = s.heap.get? := funext h
  rw [e]
  rfl
/-- a def whose code is told -/
theorem code_of {K : PySem.W.Frag} {h : Heap} {x qual : Str} {params : Arguments} {body : List Stmt} {scope : Scope} {dvs : List V} {kws : List (Str × V)} {fd : FuncData} {c P : Addr}
    (KX : K.In h) (F : FunD K x qual params body scope dvs kws (He.ga K x) fd) (t : CodT K h x c P) : fd.code = .ref c := by
  obtain ⟨oc, od, dV, kV, doc, pm, an, cdv, ct, osl, rfl, lk, hcd, _, _⟩ := F.ex
  obtain ⟨o, fd2, e1, e2, e3⟩ := t.fn
  rw [KX _ _ lk] at e1
  cases e1
  cases e2
  exact e3
/-- THE RULE for a def whose code is known -/
theorem ok_code {P : Program} {w : World} {K : PySem.W.Frag} {mg : Str → Option Value} {base : Heap} {x qual : Str} {params : Arguments} {body : List Stmt} {scope : Scope} {dvs : List V} {kws : List (Str × V)} {f : Addr} {fd : FuncData} {CX : CXT} {N ps : List Str} {k : Nat} {sp : Sp} {cv : Value}
    (F : FunD K x qual params body scope dvs kws f fd) (hc : fd.code = cv) (S : FnScope N ps scope) (len : ∀ vs H Q E, sp vs H Q E → vs.length = ps.length)
    (hbody : ∀ (A : Around) (outer : List Env) (s : Shared) (H : Hp) (vs : List V) (Q : VK) (E : XK), Room k (A.deeper (envOfC qual scope s.heap.objs.size f cv)) → sp vs H Q E →
      ∃ t, PSs (cxOf CX P w K mg base N qual scope f cv A outer s H E) body t ∧ t { nx := fun _ H' => Q .non H', rt := Q } (start N vs) H) : FnOk P w K mg base CX (k + 1) f fd ps sp := by
  obtain ⟨oc, od, dV, kV, doc, pm, an, cdv, ct, osl, rfl, lk, hcd, _, _⟩ := F.ex
  have e : cdv = cv := hc
  subst e
  exact fn_of lk hcd S len hbody
end HG

set_option maxHeartbeats 4000000
/-! HX: more rules: x is True of any value, text * int, {None: .., True: .., False: ..}[x], len(set(texts)). -/
namespace HG
open PySem PySem.Spec PyProof.Rows L2
section
variable {X : Cx}
/-- x is True, x is False -/
theorem op_isTF : OpR X (compareOp .Is) (fun x y H Q => ∃ b : Bool, y = .bl b ∧ Q (.bl (decide (x = .bl b))) H) := by
  intro pins s σ H x y v u Q I rx ry h
  obtain ⟨b, rfl, q⟩ := h
  cases (show u = Value.bool b from ry)
  by_cases e : x = .bl b
  · subst e
    cases (show v = Value.bool b from rx)
    exact wpAny_is_self rfl ⟨.bl true, H, I, rfl, by simpa using q⟩
  · have q' : Q (.bl false) H := by simpa [e] using q
    cases x with
    | non => cases rx; exact wpAny_is_other rfl (fun z => nomatch z) ⟨.bl false, H, I, rfl, q'⟩
    | bl a => cases rx; exact wpAny_is_other rfl (fun z => e (congrArg V.bl (Value.bool.inj z))) ⟨.bl false, H, I, rfl, q'⟩
    | int i => obtain ⟨t, rfl⟩ := rx; exact wpAny_is_other rfl (fun z => nomatch z) ⟨.bl false, H, I, rfl, q'⟩
    | str i => obtain ⟨t, rfl⟩ := rx; exact wpAny_is_other rfl (fun z => nomatch z) ⟨.bl false, H, I, rfl, q'⟩
    | byt i => obtain ⟨t, rfl⟩ := rx; exact wpAny_is_other rfl (fun z => nomatch z) ⟨.bl false, H, I, rfl, q'⟩
    | flt i => obtain ⟨t, rfl⟩ := rx; exact wpAny_is_other rfl (fun z => nomatch z) ⟨.bl false, H, I, rfl, q'⟩
    | ref i => cases rx; exact wpAny_is_other rfl (fun z => nomatch z) ⟨.bl false, H, I, rfl, q'⟩
    | ty i => cases rx; exact wpAny_is_other rfl (fun z => nomatch z) ⟨.bl false, H, I, rfl, q'⟩
/-- text * int -/
theorem op_mul_str : OpR X (binaryOp .Mult) (fun x y H Q => ∃ (z : Str) (n : Int), x = .str z ∧ y = .int n ∧ MulOk z n ∧ Q (.str (Txt.mul z n)) H) := by
  intro pins s σ H x y v u Q I rx ry h
  obtain ⟨z, n, rfl, rfl, ok, q⟩ := h
  obtain ⟨t, rfl⟩ := rx
  obtain ⟨t', rfl⟩ := ry
  exact SB.mul ok fun t' k => ⟨.str _, H, I.tok _, ⟨_, rfl⟩, q⟩
end
theorem mulOk_of {z : Str} {n : Int} (h0 : 0 ≤ n) (h : z.length * n.toNat ≤ 1000000) (hn : n < 2 ^ 40) (hz : z.length ≤ 1000000) : MulOk z n := by
  refine ⟨?_, fun h1 _ h2 => ?_, fun h1 _ => ?_⟩
  · rw [decide_eq_false (by omega), decide_eq_false (by omega)]
    rfl
  · have h3 : (1000000 : Int) ≤ (2 ^ 63 - 1) / n := by
      refine (Int.le_ediv_iff_mul_le (by omega)).mpr ?_
      omega
    omega
  · show decide (_ > _) = false
    refine decide_eq_false ?_
    rw [show (sizeLine : Nat) = 16777216 from sizeLine_eq]
    omega

theorem call_reprK {X : Cx} {K : PySem.W.Frag} (hK : X.K = K) (hgd : X.A.guards = some []) (hr : Room 0 X.A) : CallR X (.builtin "repr") (rRepr K) := by
  subst hK
  exact call_repr hgd hr
/-! ### keywords alone -/
theorem kbn0 {K : PySem.W.Frag} {x qual : Str} {params : Arguments} {body : List Stmt} {scope : Scope} {kws : List (Str × V)} {f : Addr} {fd : FuncData} {ks ps : List Str} {g : List Value → List Value} {gV : List V → List V}
    (F : FunD K x qual params body scope [] kws f fd)
    (h : ∀ (kV doc pm : Value) (an : Option Addr) (cdv ct : Value) (ws : List Value), ws.length = ks.length → bindArgs (PySem.W.fnOf x qual params body scope .none kV doc pm an cdv ct) ⟨[], ks.zip ws⟩ = pure (ps.zip (g ws)))
    (rel : ∀ {zs : List V} {ws : List Value}, Vals zs ws → Vals (gV zs) (g ws)) : KBn K fd ps 0 ks (fun _ ws => g ws) (fun _ zs => gV zs) := by
  obtain ⟨oc, od, dV, kV, doc, pm, an, cdv, ct, osl, rfl, lk, hcd, hD, hK⟩ := F.ex
  rcases hD with ⟨_, rfl⟩ | ⟨e, _⟩
  · refine ⟨fun s us ws _ hu hw => ?_, fun _ r => rel r⟩
    obtain rfl : us = [] := List.length_eq_zero_iff.mp hu
    exact .of_eq (h kV doc pm an cdv ct ws hw)
  · exact absurd rfl e

/-! ### objects made by a class of the top -/
structure MkC (P : Program) (w : World) (K : PySem.W.Frag) (mg : Str → Option Value) (base : Heap) (x : Str) (k : Nat) (sp : Sp) : Prop where
  ex : ∃ (f : Addr) (fd : FuncData) (ps : List Str), Mk K (He.ga K x) f ∧ FnOk P w K mg base CX0 k f fd ps sp ∧ Binds K fd ps []
  gl : mg x = some (.ref (He.ga K x))
theorem pe_mk {X : Cx} {k : Nat} {x : Str} {sp : Sp} {p pos : Pos} {e : Expr} {es : List Expr} {t : TA} (C : MkC X.prog X.w X.K X.mg X.base x k sp) (hr : Room (k + 1) X.A) (hg : Gl X x) (ha : PA X (e :: es) t)
    (hdb : (x == ("__debug__" : Str)) = false := by decide)
    (he : starEach (e :: es) X.env = (false, eval e X.env) :: starEach es X.env := by rfl)
    (hpl : (backTo pos (starEach es X.env)).any (·.1) = false := by rfl) : PE X (.Call (.Name x p) (e :: es) [] pos) (tMake (He.ga X.K x) sp [] E0 t) := by
  obtain ⟨f, fd, ps, M, F, b⟩ := C.ex
  exact pe_make M F hr hg C.gl b .nil pass0 ha hdb he hpl

/-! ### None and bools as keys -/
def nbV : Option Bool → V
  | none => .non
  | some b => .bl b
def nbIs : Option Bool → Value → Bool
  | none, .none => true
  | none, _ => false
  | some k, v => PpSet.isB k v
theorem nb_none {v : Value} (h : nbIs none v = true) : v = .none := by
  cases v with
  | none => rfl
  | _ => exact nomatch (show false = true from h)
def nbU : Option Bool → Value
  | none => .none
  | some b => .bool b
theorem nb_shape {k : Option Bool} {v : Value} (h : nbIs k v = true) : v = nbU k := by
  cases k with
  | none => exact nb_none h
  | some b => exact PpSet.isB_shape h
theorem nb_of {k : Option Bool} {v : Value} (h : RelV (nbV k) v) : nbIs k v = true := by
  cases k with
  | none => cases (show v = Value.none from h); rfl
  | some b => cases (show v = Value.bool b from h); exact beq_self_eq_true b
def nbKind (prog : Program) (w : World) : PySem.KeyKind prog w (Option Bool) where
  is := nbIs
  hash := fun k => match k with
    | none => reduceHash 0xFCA86420
    | some k => PpSet.hB k
  inj := fun v a b ha hb => by
    have e1 := nb_shape ha
    have e2 := nb_shape hb
    rw [e1] at e2
    cases a with
    | none => cases b with
      | none => rfl
      | some _ => cases e2
    | some x => cases b with
      | none => cases e2
      | some y => exact congrArg some (Value.bool.inj e2)
  byValue := fun k v h => by
    rw [nb_shape h]
    cases k <;> rfl
  pyHash := @fun A E s k v Q hv h => by
    cases k with
    | none =>
      have e := nb_none hv
      subst e
      exact PySem.W.pyHash_slot (T := "NoneType") rfl PySem.F.slot_NoneType_hash PySem.F.entry_NoneType_hash (PySem.F.args_NoneType_hash_1 _) (beq_builtin_none _) (.inl rfl) (wpAny_bind (wpAny_pure (wpAny_bind (wpAny_mkInt (wpAny_pure ⟨_, _, rfl, h⟩)))))
    | some k => exact (PpSet.boolK prog w).pyHash (k := k) hv h
  eqBool := @fun A E s a b u v Q hu hv h => by
    have e1 := nb_shape hu
    have e2 := nb_shape hv
    subst e1 e2
    cases a with
    | none =>
      cases b with
      | none =>
        rw [decide_eq_true rfl] at h
        exact SeqAt.EqAt.same _ _ _ _ _ h
      | some k =>
        rw [decide_eq_false (fun z => nomatch z)] at h
        exact SeqAt.EqAt.none_bool k _ _ _ _ h
    | some k =>
      cases b with
      | none =>
        rw [decide_eq_false (fun z => nomatch z)] at h
        exact SeqAt.EqAt.bool_none k _ _ _ _ h
      | some j =>
        have e : decide ((some k : Option Bool) = some j) = (k == j) := by cases k <;> cases j <;> rfl
        rw [e] at h
        exact SeqAt.EqAt.bool_bool k j _ _ _ _ h
  «strs» := fun k x t v h => by
    cases k with
    | none => exact nomatch (show false = true from h)
    | some k => exact absurd h Bool.false_ne_true
abbrev NB (P : Program) (w : World) (a : Addr) (vs : List (Option Bool × Value)) : HO := .ext fun h => h.DictOf (nbKind P w) a vs
theorem nb_new {P : Program} {w : World} {H : Hp} {h : Heap} {a : Addr} {vs : List (Option Bool × Value)} (R : h.DictOf (nbKind P w) a vs) : ObjOk P w H h a (NB P w a vs) := by
  refine ⟨R, ?_, fun h1 h2 p k => ?_⟩
  · obtain ⟨o, _, _, ho, _⟩ := R
    exact ⟨o, ho⟩
  · obtain ⟨o, es, ep, ho, r⟩ := p
    exact ⟨o, es, ep, k o ho, r⟩
/-- {None: 'x', True: 'y', False: 'z'}[e] -/
def tNb3 (x y z : Str) (te : TE) : TE := fun σ H Q => ∀ (p : Addr) (o : HO), H p = none → te σ (upd H p o) fun v H2 => H2 p = some o ∧ ∃ k : Option Bool, v = nbV k ∧ Q (.str (match k with | none => x | some true => y | some false => z)) H2
section
variable {X : Cx}
theorem pe_nb3 {x y z : Str} {e : Expr} {te : TE} {p1 p2 p3 p4 p5 p6 p7 pos : Pos} {k4 k5 k6 k7 k8 k9 : Nat} (he : PE X e te) (hs : NoSl e) :
    PE X (.Subscript (.Dict [some (.Constant .none k4 p1), some (.Constant (.bool true) k5 p2), some (.Constant (.bool false) k6 p3)] [.Constant (.str x) k7 p4, .Constant (.str y) k8 p5, .Constant (.str z) k9 p6] p7) e pos) (tNb3 x y z te) := by
  refine ⟨fun pins s σ H Q I h => ?_⟩
  refine subD_of PySem.F.slot_dict_getitem.lookup hs ?_
  have hn := I.hok.fresh (Nat.le_refl s.heap.objs.size)
  have I1 := I.laid (a := s.heap.objs.size) (o := NB X.prog X.w s.heap.objs.size []) (h' := s.heap.push { cls := .type "dict", data := .dict #[] }) (t' := s.toks) (fun _ _ q => Heap.get?_push_of_some _ q) (Nat.le_refl _) (nb_new (Heap.DictOf.new _))
  have PP : PPs X p7 [some (.Constant .none k4 p1), some (.Constant (.bool true) k5 p2), some (.Constant (.bool false) k6 p3)] [.Constant (.str x) k7 p4, .Constant (.str y) k8 p5, .Constant (.str z) k9 p6]
      [(tC .non, tC (.str x)), (tC (.bl true), tC (.str y)), (tC (.bl false), tC (.str z))] := pps_cons pe_non pe_str (pps_cons pe_bl pe_str (pps_cons pe_bl pe_str pps_nil))
  refine wpAny_Dict_walk (knd := nbKind X.prog X.w) rfl rfl (fun z => nomatch z) (show 3 ≤ 15 by decide) ?_
  refine thn (PP.run pins _ σ _ (fun ps H2 => ps = [(.non, .str x), (.bl true, .str y), (.bl false, .str z)] ∧ H2 = upd H s.heap.objs.size (NB X.prog X.w s.heap.objs.size [])) I1 ⟨rfl, rfl⟩) ?_
  rintro ws s2 ⟨ps, H2, I2, rel, rfl, rfl⟩
  cases rel with
  | @cons _ a1 _ _ r1 rel =>
  cases rel with
  | @cons _ a2 _ _ r2 rel =>
  cases rel with
  | @cons _ a3 _ _ r3 rel =>
  cases rel
  obtain ⟨c1, d1⟩ := a1
  obtain ⟨c2, d2⟩ := a2
  obtain ⟨c3, d3⟩ := a3
  have dd := (I2.hok _ _ upd_same).1
  refine ⟨[(none, d1), (some true, d2), (some false, d3)], ⟨nb_of (k := none) r1.1, rfl, nb_of (k := some true) r2.1, rfl, nb_of (k := some false) r3.1, rfl, trivial⟩, dd, fun h' dd' hsb => ?_⟩
  have em : merged [] [((none : Option Bool), d1), (some true, d2), (some false, d3)] = [(none, d1), (some true, d2), (some false, d3)] := rfl
  rw [em] at dd'
  have he' : ∃ q, h'.get? s.heap.objs.size = some q := let ⟨q, _, _, hq, _⟩ := dd'; ⟨q, hq⟩
  have I3 := d_write (t' := s2.toks + 3) (ob := NB X.prog X.w s.heap.objs.size [(none, d1), (some true, d2), (some false, d3)]) I2 (by rw [upd_same]; exact True.intro) hsb he' (nb_new dd')
  have eu : upd (upd H s.heap.objs.size (NB X.prog X.w s.heap.objs.size [])) s.heap.objs.size (NB X.prog X.w s.heap.objs.size [(none, d1), (some true, d2), (some false, d3)]) = upd H s.heap.objs.size (NB X.prog X.w s.heap.objs.size [(none, d1), (some true, d2), (some false, d3)]) := by
    funext b
    by_cases e : b = s.heap.objs.size
    · subst e; rw [upd_same, upd_same]
    · rw [upd_ne e, upd_ne e, upd_ne e]
  rw [eu] at I3
  refine thn (he.run pins _ σ _ _ I3 (h _ _ hn)) ?_
  rintro iv s3 ⟨v, H3, I4, rv, h3, k, rfl, q⟩
  have D3 : s3.heap.DictOf (nbKind X.prog X.w) s.heap.objs.size [(none, d1), (some true, d2), (some false, d3)] := (I4.hok _ _ h3).1
  refine ⟨D3.mapOf.typeIs, ?_⟩
  cases k with
  | none => exact wpAny_getItem_of (k := none) (nb_of rv) D3.mapOf rfl ⟨.str x, H3, I4.tok _, r1.2, q⟩
  | some b =>
    cases b with
    | true => exact wpAny_getItem_of (k := some true) (nb_of rv) D3.mapOf rfl ⟨.str y, H3, I4.tok _, r2.2, q⟩
    | false => exact wpAny_getItem_of (k := some false) (nb_of rv) D3.mapOf rfl ⟨.str z, H3, I4.tok _, r3.2, q⟩
end
end HG

set_option maxHeartbeats 4000000
/-! HA: texts of signs below 128, and what repr shows of data. -/
namespace HG
open PySem PySem.Spec PyProof.Rows L2
open TL (numL tl_num numL_digits numL_ne numL_inj numL_val numL_len)
def asc (z : Str) : Prop := ∀ c ∈ cp z, c < 128
theorem asc_app {a b : Str} (ha : asc a) (hb : asc b) : asc (a ++ b) := fun c hc => by
  rw [cp_app] at hc
  exact (List.mem_append.mp hc).elim (ha c) (hb c)
theorem asc_ok {z : Str} (h : asc z) : PyData.strOk z = true := by
  unfold PyData.strOk
  rw [← Array.all_toList]
  refine List.all_eq_true.mpr fun c hc => ?_
  have := h c hc
  exact decide_eq_true (by omega)
theorem asc_repr {z : Str} (h : asc z) : asc (reprText z) := by
  have hq : reprQuote z = 39 ∨ reprQuote z = 34 := by
    unfold reprQuote
    split
    · exact .inr rfl
    · exact .inl rfl
  have sm : ∀ q, q = 39 ∨ q = 34 → ∀ c, c < 128 → ∀ d ∈ Builtin.Str.reprChar q c, d < 128 := by
    have h1 : ∀ c : Nat, c < 128 → ∀ d ∈ Builtin.Str.reprChar 39 c, d < 128 := by decide +kernel
    have h2 : ∀ c : Nat, c < 128 → ∀ d ∈ Builtin.Str.reprChar 34 c, d < 128 := by decide +kernel
    rintro q (rfl | rfl)
    · exact h1
    · exact h2
  have key : ∀ (l : List Nat) (acc : Array Nat), (∀ c ∈ l, c < 128) → (∀ d ∈ acc.toList, d < 128) → ∀ d ∈ (l.foldl (fun out c => out ++ (Builtin.Str.reprChar (reprQuote z) c).toArray) acc).toList, d < 128 := by
    intro l
    induction l with
    | nil => intro acc _ ha; exact ha
    | cons c r ih =>
      intro acc hl ha
      rw [List.foldl_cons]
      refine ih _ (fun x hx => hl x (List.mem_cons_of_mem _ hx)) fun d hd => ?_
      rw [Array.toList_append] at hd
      rcases List.mem_append.mp hd with z | z
      · exact ha d z
      · exact sm _ hq c (hl c List.mem_cons_self) d z
  intro d hd
  unfold cp reprText at hd
  rw [Array.toList_push, ← Array.foldl_toList] at hd
  have q128 : reprQuote z < 128 := by rcases hq with e | e <;> rw [e] <;> decide
  rcases List.mem_append.mp hd with y | y
  · refine key _ _ h (fun x hx => ?_) d y
    have : x = reprQuote z := by simpa using hx
    rw [this]
    exact q128
  · rw [List.mem_singleton.mp y]
    exact q128
theorem asc_join : ∀ {l : List Str}, (∀ z ∈ l, asc z) → asc (Str.join ", " l)
  | [], _ => fun c hc => nomatch hc
  | [x], h => h x List.mem_cons_self
  | x :: y :: r, h => by
    show asc (x ++ ", " ++ Str.join ", " (y :: r))
    exact asc_app (asc_app (h x List.mem_cons_self) (by unfold asc; decide +kernel)) (asc_join fun z hz => h z (List.mem_cons_of_mem _ hz))
theorem asc_from : ∀ {l : List Str} (k : Nat) (acc : Str), asc acc → (∀ z ∈ l, asc z) → asc (textFrom k acc l)
  | [], _, _, h, _ => h
  | t :: ts, k, acc, h, hl => by
    show asc (textFrom (k + 1) (acc ++ (if k > 0 then ", " else "" : String) ++ t) ts)
    refine asc_from (k + 1) _ (asc_app (asc_app h ?_) (hl t List.mem_cons_self)) fun z hz => hl z (List.mem_cons_of_mem _ hz)
    split
    · unfold asc; decide +kernel
    · unfold asc; decide +kernel
theorem asc_list {l : List Str} (h : ∀ z ∈ l, asc z) : asc (listText l) := asc_app (asc_from 0 _ (by unfold asc; decide +kernel) h) (by unfold asc; decide +kernel)
theorem asc_tuple {l : List Str} (h : ∀ z ∈ l, asc z) : asc (tupleText l) := by
  refine asc_app (asc_app (by unfold asc; decide +kernel) (asc_join h)) ?_
  split
  · unfold asc; decide +kernel
  · unfold asc; decide +kernel
theorem asc_nat (n : Nat) : asc (Str.ofString (toString ((n : Nat) : Int))) := fun c hc => by
  have e : cp (Str.ofString (toString ((n : Nat) : Int))) = numL n := tl_num n
  rw [e] at hc
  have := numL_digits n c hc
  omega
theorem asc_int (i : Int) : asc (Str.ofString (toString i)) := by
  by_cases h : i < 0
  · rw [toString_neg h]
    obtain ⟨n, hn⟩ := Int.eq_ofNat_of_zero_le (show 0 ≤ 0 - i by omega)
    rw [hn]
    have e2 : cp (Str.ofString ("-" ++ toString ((n : Nat) : Int))) = 45 :: cp (Str.ofString (toString ((n : Nat) : Int))) := by
      unfold cp
      rw [Str.ofString_eq_toList, Str.ofString_eq_toList, String.toList_append, List.map_append]
      rfl
    intro c hc
    rw [e2] at hc
    rcases List.mem_cons.mp hc with rfl | hc
    · decide
    · exact asc_nat n c hc
  · obtain ⟨n, rfl⟩ := Int.eq_ofNat_of_zero_le (Int.not_lt.mp h)
    exact asc_nat n
theorem asc_all : ∀ {ds : List PyData}, (∀ d ∈ ds, asc d.shown) → ∀ z ∈ PyData.shownAll ds, asc z
  | [], _, z, hz => by simp only [PyData.shownAll] at hz; exact nomatch hz
  | d :: ds, h, z, hz => by
    simp only [PyData.shownAll] at hz
    rcases List.mem_cons.mp hz with rfl | hz
    · exact h d List.mem_cons_self
    · exact asc_all (fun e he => h e (List.mem_cons_of_mem _ he)) z hz
end HG

set_option maxHeartbeats 4000000
/-! HZ: data of any depth beside []; strip of signs. -/
namespace HG
open PySem PySem.Spec PyProof.Rows L2
def rNe0 (K : PySem.W.Frag) : R2 := fun x y H Q => ∃ (ds : List PyData), Dp K H x (.list ds) ∧ PyData.canLayAll0 ds = true ∧ Dp K H y (.list []) ∧ Q (.bl (!decide (ds = []))) H
theorem eqv_nil (ds : List PyData) : PyData.eqv (.list ds) (.list []) = decide (ds = []) := by
  cases ds with
  | nil => simp [PyData.eqv, PyData.eqvAll]
  | cons d ds => simp [PyData.eqv, PyData.eqvAll]
theorem op_ne0 {X : Cx} (hu : X.A.units + 64 < cLine) : OpR X (compareOp .NotEq) (rNe0 X.K) := by
  intro pins s σ H x y v u Q I rx ry h
  obtain ⟨ds, hd, hc, he, q⟩ := h
  obtain ⟨as, r1⟩ := Dp.reads I _ x v hd rx
  obtain ⟨bs, r2⟩ := Dp.reads I _ y u he ry
  have hdep : (PyData.list []).depth ≤ 64 := by simp only [PyData.depth, PyData.depthAll]; omega
  have hm : min (PyData.list ds).depth (PyData.list []).depth ≤ 64 := Nat.le_trans (Nat.min_le_right _ _) hdep
  refine SeqAt.compareNe_reads r1 r2 (by simp only [PyData.canLay0]; exact hc) (by simp only [PyData.canLay0, PyData.canLayAll0]) (by omega) ?_
  rw [eqv_nil]
  exact ⟨.bl _, H, I, rfl, q⟩
/-- strip leaves nothing just where all signs go -/
theorem strip_nil (x y : Str) : (Txt.stripChars x y).length = 0 ↔ (cp x).all (fun c => decide (c ∈ cp y)) = true := by
  have hg : ∀ c : Nat, y.cps.contains c = decide (c ∈ cp y) := fun c => by
    unfold cp
    rw [← Array.contains_toList, List.contains_eq_mem]
  have hx : ∀ k, k < x.length → x.cps.getD k 0 ∈ cp x := fun k hk => by
    have : k < x.cps.size := hk
    unfold cp
    rw [Array.getD_eq_getD_getElem?, Array.getElem?_eq_getElem this]
    exact Array.mem_toList_iff.mpr (Array.getElem_mem this)
  show (Txt.stripBy y.cps.contains true true x).length = 0 ↔ _
  rw [stripBy_eq]
  obtain ⟨l1, l2, l3⟩ := lo_facts y.cps.contains x
  obtain ⟨h1, h2, h3⟩ := hi_facts y.cps.contains x _ l1
  generalize stripLo y.cps.contains true x = lo at *
  generalize stripHi y.cps.contains true x lo = hi at *
  have hl : (Builtin.Str.strSub x lo hi).length = hi - lo := by
    show (x.cps.extract lo hi).size = hi - lo
    rw [Array.size_extract, Nat.min_eq_left (show hi ≤ x.cps.size from h2)]
  rw [hl, List.all_eq_true]
  constructor
  · intro e c hc
    obtain ⟨k, hk⟩ := List.getElem?_of_mem hc
    have hk' : k < x.length := by rw [← cp_len]; exact (List.getElem?_eq_some_iff.mp hk).1
    have e1 : c = x.cps.getD k 0 := by
      unfold cp at hk
      rw [Array.getElem?_toList] at hk
      rw [Array.getD_eq_getD_getElem?, hk]
      rfl
    rw [← hg, e1]
    by_cases q : k < lo
    · exact l2 k q
    · exact h3.1 k (by omega) hk'
  · intro h
    rcases l3 with q | q
    · omega
    · by_cases hlt : lo < x.length
      · have := h _ (hx lo hlt)
        rw [← hg, q] at this
        cases this
      · omega
end HG

set_option maxHeartbeats 4000000
/-! HB: order of tuples of ints and texts, mixed: t < u, sorted of a dict with such keys. -/
namespace HG
open PySem PySem.SeqAt PySem.W PyProof.Rows
/-- the first unequal place is of one kind -/
inductive LexR : List L2.Key → List L2.Key → Bool → Prop
  | nn : LexR [] [] false
  | nc {b : L2.Key} {s : List L2.Key} : LexR [] (b :: s) true
  | cn {a : L2.Key} {r : List L2.Key} : LexR (a :: r) [] false
  | eq {a : L2.Key} {r s : List L2.Key} {z : Bool} : LexR r s z → LexR (a :: r) (a :: s) z
  | ii {i j : Int} {r s : List L2.Key} : i ≠ j → LexR (Sum.inl i :: r) (Sum.inl j :: s) (decide (i < j))
  | ss {x y : Str} {r s : List L2.Key} : x ≠ y → LexR (Sum.inr x :: r) (Sum.inr y :: s) (decide (x.cps.toList < y.cps.toList))
inductive LexV (fin : Bool) : List (Value × Value) → Bool → Prop
  | nil : LexV fin [] fin
  | eq {p q : Value} {r : List (Value × Value)} {z : Bool} : (∀ A s, EqAt A s p q true) → LexV fin r z → LexV fin ((p, q) :: r) z
  | ne {p q : Value} {r : List (Value × Value)} {z : Bool} : (∀ A s, EqAt A s p q false) → (∀ A s, Ob.RcOp .Lt A s p q z) →
      (∀ (prog : Program) (w : World) (A : Around) (E : Value → Shared → Prop) (s : Shared) (f : Bool) (Q : Bool → Shared → Prop), Q z s → wpAny (model prog w) A (PyProof.Rows.oneLt' f p q) Q E s) → LexV fin ((p, q) :: r) z
theorem rcLt_strs (A : Around) (s : Shared) (x : Str) (t : Tok) (y : Str) (u : Tok) : Ob.RcOp .Lt A s (.str x t) (.str y u) (decide (x.cps.toList < y.cps.toList)) := fun _ _ _ _ h => PyProof.Rows.lt_str h
theorem lexV_of {ks ls : List L2.Key} {z : Bool} (h : LexR ks ls z) : ∀ {us ws : List Value}, L2.Vals (ks.map L2.kV) us → L2.Vals (ls.map L2.kV) ws → LexV (decide (us.length < ws.length)) (us.zip ws) z := by
  induction h with
  | nn =>
    intro us ws h1 h2
    cases h1
    cases h2
    exact .nil
  | nc =>
    intro us ws h1 h2
    cases h1
    cases h2 with
    | cons r1 t1 =>
      rename_i w ws
      have e : decide (([] : List Value).length < (w :: ws).length) = true := decide_eq_true (by simp)
      rw [e]
      exact .nil
  | cn =>
    intro us ws h1 h2
    cases h2
    cases h1 with
    | cons _ _ => exact .nil
  | @eq a r s z _ ih =>
    intro us ws h1 h2
    cases h1 with
    | cons r1 t1 =>
      cases h2 with
      | cons r2 t2 =>
        have h3 := ih t1 t2
        rw [List.zip_cons_cons, List.length_cons, List.length_cons]
        have e : ∀ a b : Nat, decide (a + 1 < b + 1) = decide (a < b) := fun a b => by simp
        rw [e]
        refine .eq ?_ h3
        cases a with
        | inl i =>
          obtain ⟨t, rfl⟩ := r1
          obtain ⟨u, rfl⟩ := r2
          intro A s
          have := EqAt.int_int (A := A) (s := s) i t i u
          rw [beq_self_eq_true] at this
          exact this
        | inr x =>
          obtain ⟨t, rfl⟩ := r1
          obtain ⟨u, rfl⟩ := r2
          intro A s
          have := EqAt.str_str (A := A) (s := s) x t x u
          rw [beq_self_eq_true] at this
          exact this
  | @ii i j r s hne =>
    intro us ws h1 h2
    cases h1 with
    | cons r1 t1 =>
      cases h2 with
      | cons r2 t2 =>
        obtain ⟨t, rfl⟩ := r1
        obtain ⟨u, rfl⟩ := r2
        refine .ne (fun A s => ?_) (fun A s => Ob.RcOp.lt_int i j t u) (fun prog w A E s f Q hQ => oneLt_any_int hQ)
        have := EqAt.int_int (A := A) (s := s) i t j u
        rw [show (i == j) = false from by simpa using hne] at this
        exact this
  | @ss x y r s hne =>
    intro us ws h1 h2
    cases h1 with
    | cons r1 t1 =>
      cases h2 with
      | cons r2 t2 =>
        obtain ⟨t, rfl⟩ := r1
        obtain ⟨u, rfl⟩ := r2
        refine .ne (fun A s => ?_) (fun A s => rcLt_strs A s x t y u) (fun prog w A E s f Q hQ => oneLt_any_str hQ)
        have := EqAt.str_str (A := A) (s := s) x t y u
        rw [show (x == y) = false from by simpa using hne] at this
        exact this
section
open PySem.AutoSeq1 (wpAny_loadPart')
open PySem.MeetsSeq PySem.MeetsSeq2 PySem.MeetsSeq3
theorem tuple_ltL (l b : Addr) (xs ys : Array Value) (n n2 : Nat) (dd dd2 : Option Addr) (sl sl2 : Array (Option Value)) (z : Bool) (hz : LexV (decide (xs.size < ys.size)) (xs.toList.zip ys.toList) z) :
    Meets (Builtin.«tuple.__lt__» ⟨[.ref l, .ref b], []⟩)
      (fun _ R s => s.heap.get? l = some ⟨.type "tuple", dd, .seq xs n, sl⟩ ∧ s.heap.get? b = some ⟨.type "tuple", dd2, .seq ys n2, sl2⟩ ∧ R (.ok (.ret (.bool z))) s) :=
  .of_wp fun prog w A R s h => by
    obtain ⟨hp, g, d, tk, os⟩ := s
    obtain ⟨hl, hb, h⟩ := h
    have f2 := AutoSeq1.sub_tuple_tuple
    wp_walk using wpAny_loadPart' hl, wpAny_loadPart' hb, wpAny_forIn_list _ (fun rest b s' => b.1 = none ∧ s' = ⟨hp, g, d, tk, os⟩ ∧ LexV (decide (xs.size < ys.size)) rest z) _
    case turn =>
      rintro ⟨y, x⟩ rest b s' ⟨hb', rfl, hv⟩
      cases hv with
      | eq h1 h2 =>
        refine wpAny_bind (h1 A.in1 _ prog w _ _ ?_)
        wp_walk
        exact ⟨rfl, rfl, h2⟩
      | ne h1 h2 h3 =>
        refine wpAny_bind (h1 A.in1 _ prog w _ _ ?_)
        have hri := h2 A.in1 ⟨hp, g, d, tk, os⟩ prog w
        wp_walk using hri
        exact ⟨_, rfl, by simpa using h⟩
    case fin =>
      rintro ⟨b1, b2⟩ s' ⟨hb', rfl, hv⟩
      simp only at hb'
      subst hb'
      cases hv
      wp_walk
      exact ⟨_, rfl, by simpa [Builtin.Tuple.tupleCompareSizes] using h⟩
    case h => exact ⟨rfl, rfl, hz⟩
end
end HG
namespace HG
open PySem PySem.Spec PyProof.Rows L2
section
variable {X : Cx}
/-- t < u, tuples of ints and texts -/
def rLtK (K : PySem.W.Frag) : R2 := fun x y H Q => ∃ (a b : Addr) (ks ls : List Key) (z : Bool), x = .ref a ∧ y = .ref b ∧ SqT K H a (ks.map kV) ∧ SqT K H b (ls.map kV) ∧ LexR ks ls z ∧ Q (.bl z) H
theorem op_ltK (hu : X.A.units < cLine) : OpR X (compareOp .Lt) (rLtK X.K) := by
  intro pins s σ H x y v u Q I rx ry h
  obtain ⟨a, b, ks, ls, z, rfl, rfl, ha, hb, hz, q⟩ := h
  cases rx
  cases ry
  obtain ⟨us, r1, p1, _⟩ := I.tuple ha
  obtain ⟨ws, r2, p2, _⟩ := I.tuple hb
  obtain ⟨⟨c1, d1, e1, s1⟩, ho1, hc1, n1, hd1⟩ := p1
  obtain ⟨⟨c2, d2, e2, s2⟩, ho2, hc2, n2, hd2⟩ := p2
  dsimp only at hc1 hd1 hc2 hd2
  subst hc1 hd1 hc2 hd2
  have hv := lexV_of hz r1 r2
  have hv' : LexV (decide (us.toArray.size < ws.toArray.size)) (us.toArray.toList.zip ws.toArray.toList) z := by simpa using hv
  exact richCompare_meets_room (op := .Lt) ⟨_, ho1, rfl⟩ ⟨_, ho2, rfl⟩ PySem.F.slot_tuple_lt PySem.F.entry_tuple_lt (PySem.F.args_tuple_lt_2 _ _) (tuple_ltL a b _ _ n1 n2 d1 d2 s1 s2 z hv')
    ⟨ho1, ho2, show Value.bool z ≠ Value.notImplemented ∧ EP X pins σ Q (.bool z) s from ⟨(fun y => nomatch y), ⟨.bl z, H, I, rfl, q⟩⟩⟩ hu
theorem katlex_of {prog : Program} {w : World} {A : Around} {s : Shared} {b fin z : Bool} {Q : Bool → Shared → Prop} {l : List (Value × Value)} (h : LexV fin l z) (hq : Q z s) : ∀ i, PySem.W.KatLex prog w A b fin Q l i s := by
  induction h with
  | nil => intro i; exact PySem.W.kat_nil hq
  | eq h1 _ ih => intro i; exact PySem.W.kat_cons (h1 A s prog w _ _ (PySem.W.kat_yes (ih hq (i + 1))))
  | ne h1 h2 h3 => intro i; exact PySem.W.kat_cons (h1 A s prog w _ _ (PySem.W.kat_no (h3 prog w A _ s _ Q hq)))
theorem kV_inj : ∀ {a b : Key}, kV a = kV b → a = b
  | .inl _, .inl _, h => by cases h; rfl
  | .inr _, .inr _, h => by cases h; rfl
  | .inl _, .inr _, h => by cases h
  | .inr _, .inl _, h => by cases h
theorem kVs_inj : ∀ {a b : List Key}, a.map kV = b.map kV → a = b
  | [], [], _ => rfl
  | x :: a, y :: b, h => by
    rw [List.map_cons, List.map_cons] at h
    injection h with h1 h2
    rw [kV_inj h1, kVs_inj h2]
  | [], _ :: _, h => by simp at h
  | _ :: _, [], h => by simp at h
/-- sorted(d), d a dict with tuples of ints and texts as keys, each with a text ahead -/
def rSortDT : List V → Hp → VK → Prop := fun vs H Q => ∃ (a : Addr) (kvs : List (List Key × V)) (ρ : List Key → Int), vs = [.ref a] ∧ H a = some (.dT kvs) ∧ kvs.length < 64 ∧ (∀ k ∈ kvs.map (·.1), ∃ x r, k = Sum.inr x :: r) ∧
  (∀ k ∈ kvs.map (·.1), ∀ k' ∈ kvs.map (·.1), LexR k k' (decide (ρ k < ρ k'))) ∧
  ∀ (l : Addr) (ps : List (Addr × List Key)), H l = none → (ps.map (·.2)).Perm (kvs.map (·.1)) → (ps.map (·.2)).Pairwise (fun e f => ρ e ≤ ρ f) → (∀ z ∈ ps, H z.1 = some (.tup (z.2.map kV))) → Q (.ref l) (upd H l (.lst (ps.map fun z => V.ref z.1)))
theorem cr_sortedDT (hc : X.calm = true) (hu : X.A.units + 64 < cLine) : CallR X (.builtin "sorted") rSortDT := by
  intro pins s σ H xs us Q I r h
  obtain ⟨a, kvs, ρ, rfl, ha, h64, hhd, hlx, q⟩ := h
  obtain rfl := Vals.ref1 r
  obtain ⟨_, lo, xs', rel, o, es, ep, ho, hx, hdat, hes, his, hnd⟩ := dt_of I.hok ha
  have l1 : kvs.length = xs'.length := Paired.length rel
  have l2 : es.size = xs'.length := size_of_entries hes
  have keys : kvs.map (·.1) = xs'.map (·.1) := by
    have key : ∀ {A : List (List Key × V)} {B : List (List Key × Addr × Value)}, KT H A B → A.map (·.1) = B.map (·.1) := by
      intro A B rel
      induction rel with
      | nil => rfl
      | cons h _ ih => rw [List.map_cons, List.map_cons, ih, h.1]
    exact key rel
  have trk : ∀ x ∈ xs', H x.2.1 = some (.tup (x.1.map kV)) := by
    intro x hx'
    obtain ⟨j, hj⟩ := List.getElem?_of_mem hx'
    obtain ⟨e0, _, r1, r2, _⟩ := DX.pget rel hj
    rw [← r1]
    exact r2
  -- the rank of a value
  let rk : Value → Int := fun v => match xs'.find? (fun x => Value.ref x.2.1 == v) with
    | some x => ρ x.1
    | none => 0
  have rk_is : ∀ x ∈ xs', rk (.ref x.2.1) = ρ x.1 := by
    intro x hx'
    show (match xs'.find? (fun y => Value.ref y.2.1 == Value.ref x.2.1) with | some y => ρ y.1 | none => 0) = ρ x.1
    cases hf : xs'.find? (fun y => Value.ref y.2.1 == Value.ref x.2.1) with
    | none =>
      have := List.find?_eq_none.mp hf x hx'
      simp at this
    | some y =>
      have h1 := List.mem_of_find?_eq_some hf
      have h2 := List.find?_some hf
      have h3 : y.2.1 = x.2.1 := by simpa using h2
      have h4 := trk y h1
      rw [h3, trk x hx'] at h4
      have h5 : x.1.map kV = y.1.map kV := by injection (Option.some.inj h4)
      rw [kVs_inj h5]
  refine Calls.call_function_entry PyProof.Rows.kind_sorted PyProof.Rows.plain_sorted PyProof.Rows.entry_sorted (PyProof.Rows.args_sorted1 _) ?_
  unfold Builtin.«sorted»
  refine wpAny_bind (m := checkCount "sorted" 1 1 _) (wpAny_pure ?_)
  refine wpAny_bind (PySem.W.kdu_collect (A := X.A.in1) (PySem.KdlSrc.rawDict (es := es) (ep := ep) lo) (I.ok.hd hc) ⟨o, ho, hx, hdat⟩ (by rw [l2, ← l1, sizeLine_eq]; omega) fun h' tk acc hk hacc => ?_)
  have hal : acc.toList.length = xs'.length := by rw [Array.length_toList, hacc.1, l2]
  have hav : acc.toList = xs'.map fun x => Value.ref x.2.1 := by
    refine List.ext_getElem? fun j => ?_
    rw [List.getElem?_map]
    cases hxj : xs'[j]? with
    | none =>
      show acc.toList[j]? = none
      rw [List.getElem?_eq_none_iff] at hxj ⊢
      omega
    | some x =>
      have hj : j < acc.toList.length := by rw [hal]; exact (List.getElem?_eq_some_iff.mp hxj).1
      obtain ⟨v, hv⟩ : ∃ v, acc.toList[j]? = some v := ⟨_, List.getElem?_eq_getElem hj⟩
      rw [hv]
      obtain ⟨hi, rfl⟩ := hacc.2 j v (by rw [← Array.getElem?_toList]; exact hv)
      have e1 := entry_at hes j
      rw [hxj, Array.getElem?_eq_getElem hi] at e1
      have e2 : es[j] = entryOfKey (tupleKind (mixKind X.prog X.w)) x := Option.some.inj e1
      rw [e2]
      rfl
  refine wpAny_bind (wpAny_newList ?_ (by rw [hal, ← l1, sizeLine_eq]; omega))
  have hob : (h'.push (seqObj "list" acc.toList.toArray 0)).get? h'.objs.size = some (seqObj "list" acc.toList.toArray 0) := Heap.get?_push_size _ rfl
  show wpAny _ _ _ _ _ { s with heap := h'.push (seqObj "list" acc.toList.toArray 0), toks := tk }
  have kb : ∀ b u, s.heap.get? b = some u → b ≠ h'.objs.size ∧ (h'.push (seqObj "list" acc.toList.toArray 0)).get? b = some u := fun b u e => ⟨Nat.ne_of_lt (Heap.lt_size (hk b u e)), Heap.get?_push_of_some _ (hk b u e)⟩
  have ka : ∀ b u, h'.get? b = some u → b ≠ h'.objs.size ∧ (h'.push (seqObj "list" acc.toList.toArray 0)).get? b = some u := fun b u e => ⟨Nat.ne_of_lt (Heap.lt_size e), Heap.get?_push_of_some _ e⟩
  have I1 : Inv X pins σ H { s with heap := h', toks := tk } := I.kept hk
  generalize hh2 : h'.push (seqObj "list" acc.toList.toArray 0) = h2 at hob kb ka ⊢
  -- the tuples in the heap of the sort
  have tup : ∀ x ∈ xs', ∃ (ot : Obj) (its : List Value) (nt : Nat), Vals (x.1.map kV) its ∧ (TS.midHeap h2 h'.objs.size acc.toList).get? x.2.1 = some ot ∧ ot.cls = .type "tuple" ∧ ot.data = .seq its.toArray nt := by
    intro x hx'
    obtain ⟨_, its, rv, ot, hot, hct, nt, hdt⟩ := (show ObjOk X.prog X.w H s.heap x.2.1 (.tup (x.1.map kV)) from I.hok _ _ (trk x hx'))
    obtain ⟨k1, k2⟩ := kb _ _ hot
    exact ⟨ot, its, nt, rv, TS.midHeap_old k1 k2, hct, hdt⟩
  have mem : ∀ v ∈ acc.toList, ∃ x ∈ xs', v = .ref x.2.1 := by
    intro v hv
    rw [hav] at hv
    obtain ⟨x, hx', e⟩ := List.mem_map.mp hv
    exact ⟨x, hx', e.symm⟩
  have inK : ∀ x ∈ xs', x.1 ∈ kvs.map (·.1) := fun x hx' => by rw [keys]; exact List.mem_map_of_mem hx'
  have firsts : ∀ vs : List Value, (∀ v ∈ vs, ∃ x ∈ xs', v = .ref x.2.1) → ∃ fs : List Value, PySem.W.KatTups (TS.midHeap h2 h'.objs.size acc.toList) vs fs ∧ fs.length = vs.length ∧ ∀ f ∈ fs, ∃ x t, f = Value.str x t := by
    intro vs
    induction vs with
    | nil => intro _; exact ⟨[], .nil, rfl, fun _ h => nomatch h⟩
    | cons v vs ih =>
      intro hm
      obtain ⟨fs, k1, k2, k3⟩ := ih fun u hu' => hm u (List.mem_cons_of_mem _ hu')
      obtain ⟨x, hx', rfl⟩ := hm v List.mem_cons_self
      obtain ⟨ot, its, nt, rv, ho', hc', hd'⟩ := tup x hx'
      obtain ⟨y, rr, ey⟩ := hhd x.1 (inK x hx')
      rw [ey] at rv
      cases rv with
      | cons r1 r2 =>
        obtain ⟨t, rfl⟩ := r1
        refine ⟨.str y t :: fs, .cons ho' hc' hd' rfl k1, by rw [List.length_cons, List.length_cons, k2], fun f hf => ?_⟩
        rcases List.mem_cons.mp hf with rfl | hf
        · exact ⟨y, t, rfl⟩
        · exact k3 f hf
  refine wpAny_bind (wpAny_holding (wpAny_call_entry PyProof.Rows.slot_list_sort ⟨_, hob, rfl⟩ PyProof.Rows.entry_list_sort
    (SK.plain_sort (s := { s with heap := h2, toks := tk }) (r := rk) hob (by rw [hal, ← l1]; exact h64) (fun h2' Qk hQk => ?_) fun ps out o1 o2 o3 => ⟨.none, rfl, ?_⟩) (PyProof.Rows.args_list_sort _)))
  · obtain ⟨fs, k1, k2, k3⟩ := firsts acc.toList mem
    refine PySem.W.kat_kind (T := Value.type "str") k1 (by omega) (fun f hf => ?_) rfl (hQk _ ?_)
    · obtain ⟨x, t, rfl⟩ := k3 f hf
      exact .now
    · intro p q' hp hq Q' E' hQ
      rw [pairsOf_toList] at hp hq
      have mp := (mem_zip_self hp).2
      have mq := (mem_zip_self hq).2
      obtain ⟨x, hx1, e1⟩ := mem _ mp
      obtain ⟨y, hy1, e2⟩ := mem _ mq
      obtain ⟨ot, its, nt, rv, ho1, _, hd1⟩ := tup x hx1
      obtain ⟨ot2, its2, nt2, rv2, ho2, _, hd2⟩ := tup y hy1
      rw [e1, e2, rk_is x hx1, rk_is y hy1] at hQ
      rw [e1, e2]
      refine PySem.W.kat_lt ho1 hd1 ho2 hd2 (katlex_of ?_ hQ 0)
      have hv := lexV_of (hlx x.1 (inK x hx1) y.1 (inK y hy1)) rv rv2
      simpa using hv
  · have hzip : (xs'.map fun x => (x.2.1, x.1)).map (fun z : Addr × List Key => (Value.ref z.1, Value.ref z.1)) = acc.toList.zip acc.toList := by
      have zs0 : ∀ l : List Value, l.zip l = l.map fun v => (v, v) := fun l => by
        induction l with
        | nil => rfl
        | cons v l ih => rw [List.zip_cons_cons, ih]; rfl
      rw [zs0, hav, List.map_map, List.map_map]
      rfl
    obtain ⟨zs, pz, ez⟩ := perm_lift (fun z : Addr × List Key => (Value.ref z.1, Value.ref z.1)) o2 _ hzip
    have hout : out.toList = zs.map fun z => Value.ref z.1 := by
      rw [o1, ← ez, List.map_map]
      rfl
    have hin : ∀ z ∈ zs, ∃ x ∈ xs', z = (x.2.1, x.1) := fun z hz => by
      obtain ⟨x, hx', e⟩ := List.mem_map.mp (pz.mem_iff.mp hz)
      exact ⟨x, hx', e.symm⟩
    have hperm : (zs.map (·.2)).Perm (kvs.map (·.1)) := by
      have e := pz.map (·.2)
      rw [List.map_map] at e
      rw [keys]
      exact e
    have hsort : (zs.map (·.2)).Pairwise (fun e f => ρ e ≤ ρ f) := by
      rw [← ez, List.pairwise_map] at o3
      rw [List.pairwise_map]
      refine List.Pairwise.imp_of_mem (fun {u v} hu' hv' h => ?_) o3
      obtain ⟨x, hx', rfl⟩ := hin u hu'
      obtain ⟨y, hy', rfl⟩ := hin v hv'
      have h3 : rk (.ref x.2.1) ≤ rk (.ref y.2.1) := h
      rw [rk_is x hx', rk_is y hy'] at h3
      exact h3
    obtain ⟨eF, heF⟩ := PyProof.Rows.sortedHeap_at (vs := acc.toList) (out := out) hob
    have hlen : (zs.map fun z => V.ref z.1).length ≤ sizeLine := by
      have e := hperm.length_eq
      rw [List.length_map, List.length_map] at e
      rw [List.length_map, sizeLine_eq]
      omega
    have rv : Vals (zs.map fun z => V.ref z.1) out.toList := by
      rw [hout]
      clear hout hin hperm hsort pz ez hlen
      induction zs with
      | nil => exact .nil
      | cons z zs ih => exact .cons rfl ih
    refine wpAny_pure ⟨_, rfl, .ref h'.objs.size, upd H h'.objs.size (.lst (zs.map fun z => V.ref z.1)), I1.laid (t' := tk) (fun b u e => ?_) (Nat.le_refl _) ⟨hlen, out.toList, eF, rv, heF⟩, rfl, q _ zs (I1.hok.fresh (Nat.le_refl _)) hperm hsort fun z hz => ?_⟩
    · obtain ⟨k1, k2⟩ := ka b u e
      exact (PyProof.Rows.sortedHeap_old k1 (Heap.lt_size k2)).trans k2
    · obtain ⟨x, hx', rfl⟩ := hin z hz
      exact trk x hx'
end
end HG

set_option maxHeartbeats 0
namespace K52
open PySem PySem.Spec PyProof.Rows L2 HG
def top (i : Nat) : Stmt := PySem.Challenge.pw_wholeapart_k52_code_of_graphs.main.body.getD i (.Pass ⟨0, 0, 0, 0⟩)
def dd (x : Str) (i : Nat) : He.DefD := ⟨(x, none), x, x, defArgs (top i), defBody (top i), defScope (top i), [], []⟩
def dm (C m q : Str) (i j : Nat) : He.DefD := ⟨(C, some m), m, q, defArgs (inClass (top i) j), defBody (inClass (top i) j), defScope (inClass (top i) j), [], []⟩
def fn : List He.DefD := [dd "set_by" 2, dd "operands_of" 3, dd "with_operands" 4, dd "with_set" 5, dd "operands_of_end" 6, dd "end_with_operands" 7, dd "in_slots" 9, dd "operand_in_slots" 10, dd "end_code" 11, dd "with_place" 12, dd "code_of" 13, dd "_law_deck" 15, dd "_law_draw" 16, dd "_law_pick" 17, dd "_law_names" 18, dd "_law_world" 19, dd "_law_word" 20, dd "_law_operand" 21, dd "_law_first" 22, dd "_law_other_row" 23, dd "_law_row" 24, dd "_law_end" 25, dd "_law_graph" 26, dd "_law_near_end" 27, dd "_law_nearer" 28, dd "_law_operands" 29, dd "_law_variables" 30, dd "_law_sets" 31, dd "_law_occur" 32, dd "_law_slots" 33, dd "_law_in_slots" 34, dd "_law_row_in_slots" 35, dd "_law_end_rows" 36, dd "_law_due" 37, dd "_law_same" 38, dd "law" 39]
def fa : List He.Fa := [.free "bool", .free "enumerate", .free "int", .free "isinstance", .free "len", .free "list", .free "max", .free "min", .free "range", .free "repr", .free "set", .free "sorted", .free "str", .free "sum", .free "tuple", .glo "set_by", .glo "operands_of", .glo "with_operands", .glo "with_set", .glo "operands_of_end", .glo "end_with_operands", .glo "in_slots", .glo "operand_in_slots", .glo "end_code", .glo "with_place", .glo "code_of", .glo "_law_deck", .glo "_law_draw", .glo "_law_pick", .glo "_law_names", .glo "_law_world", .glo "_law_word", .glo "_law_operand", .glo "_law_first", .glo "_law_other_row", .glo "_law_row", .glo "_law_end", .glo "_law_graph", .glo "_law_near_end", .glo "_law_nearer", .glo "_law_operands", .glo "_law_variables", .glo "_law_sets", .glo "_law_occur", .glo "_law_slots", .glo "_law_in_slots", .glo "_law_row_in_slots", .glo "_law_end_rows", .glo "_law_due", .glo "_law_same", .glo "law", .glo "SETTERS"]
def ts : List He.Tab := []
def bx (K : PySem.W.Frag) : Bool := tupB K "SETTERS" [.str "const", .str "copy", .str "op", .str "load", .str "read", .str "call", .str "apply"] && (true)
abbrev R : PySem.W.OpenRow := PySem.W.OpenLaw.row PySem.Challenge.rw_wholeapart_k52_code_of_graphs
def lams : List Str := ["in_slots", "code_of"]
abbrev hk : PySem.W.Hook := hookC 5 fa fn ts bx lams
def ob (s : PySem.W.SharedT) : AlC := obsCG 5 fa fn ts bx lams (HandSHeadRun.getT s)
theorem ob_eq (s : PySem.W.SharedT) : ob s = hk.obs s.abs := obsCG_eq (HandSHeadRun.getT_eq s)
def loose : List Str := (["SETTERS", "set_by", "operands_of", "with_operands", "with_set", "operands_of_end", "end_with_operands", "in_slots", "operand_in_slots", "end_code", "with_place", "code_of", "_law_deck", "_law_draw", "_law_pick", "_law_names", "_law_world", "_law_word", "_law_operand", "_law_first", "_law_other_row", "_law_row", "_law_end", "_law_graph", "_law_near_end", "_law_nearer", "_law_operands", "_law_variables", "_law_sets", "_law_occur"] : List Str) ++ (["_law_slots", "_law_in_slots", "_law_row_in_slots", "_law_end_rows", "_law_due", "_law_same"] : List Str)
theorem run (w : World) : HandSHeadRun.RunEq R (PySem.W.view R.prog [39]) hk ob 6000 loose w := by
  intro os
  kernel_rfl
abbrev FnP (K : PySem.W.Frag) (x : Str) (st : Stmt) : Prop := ∃ fd, FunD K x x (defArgs st) (defBody st) (defScope st) [] [] (He.ga K x) fd
abbrev s_set_by : Stmt := top 2
abbrev N_set_by : List Str := ["instruction"]
theorem sc_set_by : FnScope N_set_by ["instruction"] (defScope s_set_by) := ⟨rfl, rfl, rfl, by decide +kernel, rfl, by decide +kernel, by decide +kernel⟩
abbrev s_operands_of : Stmt := top 3
abbrev N_operands_of : List Str := ["instruction", "word"]
theorem sc_operands_of : FnScope N_operands_of ["instruction"] (defScope s_operands_of) := ⟨rfl, rfl, rfl, by decide +kernel, rfl, by decide +kernel, by decide +kernel⟩
abbrev s_with_operands : Stmt := top 4
abbrev N_with_operands : List Str := ["instruction", "change", "changed", "word", "operand"]
theorem sc_with_operands : FnScope N_with_operands ["instruction", "change"] (defScope s_with_operands) := ⟨rfl, rfl, rfl, by decide +kernel, rfl, by decide +kernel, by decide +kernel⟩
abbrev s_with_set : Stmt := top 5
abbrev N_with_set : List Str := ["instruction", "variable"]
theorem sc_with_set : FnScope N_with_set ["instruction", "variable"] (defScope s_with_set) := ⟨rfl, rfl, rfl, by decide +kernel, rfl, by decide +kernel, by decide +kernel⟩
abbrev s_operands_of_end : Stmt := top 6
abbrev N_operands_of_end : List Str := ["terminator"]
theorem sc_operands_of_end : FnScope N_operands_of_end ["terminator"] (defScope s_operands_of_end) := ⟨rfl, rfl, rfl, by decide +kernel, rfl, by decide +kernel, by decide +kernel⟩
abbrev s_end_with_operands : Stmt := top 7
abbrev N_end_with_operands : List Str := ["terminator", "change"]
theorem sc_end_with_operands : FnScope N_end_with_operands ["terminator", "change"] (defScope s_end_with_operands) := ⟨rfl, rfl, rfl, by decide +kernel, rfl, by decide +kernel, by decide +kernel⟩
abbrev s_in_slots : Stmt := top 9
abbrev N_in_slots : List Str := ["instruction", "slots", "v", "changed"]
theorem sc_in_slots : FnScope N_in_slots ["instruction", "slots"] (defScope s_in_slots) := ⟨rfl, rfl, rfl, by decide +kernel, rfl, by decide +kernel, by decide +kernel⟩
abbrev s_operand_in_slots : Stmt := top 10
abbrev N_operand_in_slots : List Str := ["operand", "slots"]
theorem sc_operand_in_slots : FnScope N_operand_in_slots ["operand", "slots"] (defScope s_operand_in_slots) := ⟨rfl, rfl, rfl, by decide +kernel, rfl, by decide +kernel, by decide +kernel⟩
abbrev s_end_code : Stmt := top 11
abbrev N_end_code : List Str := ["terminator", "following", "word", "operand", "one", "other"]
theorem sc_end_code : FnScope N_end_code ["terminator", "following"] (defScope s_end_code) := ⟨rfl, rfl, rfl, by decide +kernel, rfl, by decide +kernel, by decide +kernel⟩
abbrev s_with_place : Stmt := top 12
abbrev N_with_place : List Str := ["instruction", "places"]
theorem sc_with_place : FnScope N_with_place ["instruction", "places"] (defScope s_with_place) := ⟨rfl, rfl, rfl, by decide +kernel, rfl, by decide +kernel, by decide +kernel⟩
abbrev s_code_of : Stmt := top 13
abbrev N_code_of : List Str := ["graph", "kept", "returns", "slots", "code", "places", "number", "instructions", "terminator", "end", "instruction", "v", "one"]
theorem sc_code_of : FnScope N_code_of ["graph", "kept", "returns", "slots"] (defScope s_code_of) := ⟨rfl, rfl, rfl, by decide +kernel, rfl, by decide +kernel, by decide +kernel⟩
abbrev s__law_deck : Stmt := top 15
abbrev N__law_deck : List Str := ["_law_script", "_law_cells", "_law_total", "_law_cell"]
theorem sc__law_deck : FnScope N__law_deck ["_law_script"] (defScope s__law_deck) := ⟨rfl, rfl, rfl, by decide +kernel, rfl, by decide +kernel, by decide +kernel⟩
abbrev s__law_draw : Stmt := top 16
abbrev N__law_draw : List Str := ["_law_deck_here", "_law_many", "_law_turn", "_law_cell", "_law_mixed"]
theorem sc__law_draw : FnScope N__law_draw ["_law_deck_here", "_law_many"] (defScope s__law_draw) := ⟨rfl, rfl, rfl, by decide +kernel, rfl, by decide +kernel, by decide +kernel⟩
abbrev s__law_pick : Stmt := top 17
abbrev N__law_pick : List Str := ["_law_deck_here", "_law_some"]
theorem sc__law_pick : FnScope N__law_pick ["_law_deck_here", "_law_some"] (defScope s__law_pick) := ⟨rfl, rfl, rfl, by decide +kernel, rfl, by decide +kernel, by decide +kernel⟩
abbrev s__law_names : Stmt := top 18
abbrev N__law_names : List Str := ["_law_deck_here", "_law_many", "_law_words", "_law_found", "_law_k", "_law_word_here"]
theorem sc__law_names : FnScope N__law_names ["_law_deck_here", "_law_many"] (defScope s__law_names) := ⟨rfl, rfl, rfl, by decide +kernel, rfl, by decide +kernel, by decide +kernel⟩
abbrev s__law_world : Stmt := top 19
abbrev N__law_world : List Str := ["_law_deck_here", "_law_w", "_law_some", "_law_lengths"]
theorem sc__law_world : FnScope N__law_world ["_law_deck_here"] (defScope s__law_world) := ⟨rfl, rfl, rfl, by decide +kernel, rfl, by decide +kernel, by decide +kernel⟩
abbrev s__law_word : Stmt := top 20
abbrev N__law_word : List Str := ["_law_deck_here"]
theorem sc__law_word : FnScope N__law_word ["_law_deck_here"] (defScope s__law_word) := ⟨rfl, rfl, rfl, by decide +kernel, rfl, by decide +kernel, by decide +kernel⟩
abbrev s__law_operand : Stmt := top 21
abbrev N__law_operand : List Str := ["_law_deck_here", "_law_kit"]
theorem sc__law_operand : FnScope N__law_operand ["_law_deck_here", "_law_kit"] (defScope s__law_operand) := ⟨rfl, rfl, rfl, by decide +kernel, rfl, by decide +kernel, by decide +kernel⟩
abbrev s__law_first : Stmt := top 22
abbrev N__law_first : List Str := ["_law_deck_here", "_law_world_here", "_law_kit", "_law_rows", "_law_v"]
theorem sc__law_first : FnScope N__law_first ["_law_deck_here", "_law_world_here", "_law_kit"] (defScope s__law_first) := ⟨rfl, rfl, rfl, by decide +kernel, rfl, by decide +kernel, by decide +kernel⟩
abbrev s__law_other_row : Stmt := top 23
abbrev N__law_other_row : List Str := ["_law_deck_here", "_law_world_here", "_law_kit", "_law_one", "_law_two", "_law_way", "_law_f", "_law_g", "_law_some"]
theorem sc__law_other_row : FnScope N__law_other_row ["_law_deck_here", "_law_world_here", "_law_kit", "_law_one", "_law_two"] (defScope s__law_other_row) := ⟨rfl, rfl, rfl, by decide +kernel, rfl, by decide +kernel, by decide +kernel⟩
abbrev s__law_row : Stmt := top 24
abbrev N__law_row : List Str := ["_law_deck_here", "_law_world_here", "_law_kit", "_law_way", "_law_one", "_law_two", "_law_v", "_law_f", "_law_row_here", "_law_name", "_law_size"]
theorem sc__law_row : FnScope N__law_row ["_law_deck_here", "_law_world_here", "_law_kit"] (defScope s__law_row) := ⟨rfl, rfl, rfl, by decide +kernel, rfl, by decide +kernel, by decide +kernel⟩
abbrev s__law_end : Stmt := top 25
abbrev N__law_end : List Str := ["_law_deck_here", "_law_kit", "_law_many", "_law_way", "_law_one", "_law_some"]
theorem sc__law_end : FnScope N__law_end ["_law_deck_here", "_law_kit", "_law_many"] (defScope s__law_end) := ⟨rfl, rfl, rfl, by decide +kernel, rfl, by decide +kernel, by decide +kernel⟩
abbrev s__law_graph : Stmt := top 26
abbrev N__law_graph : List Str := ["_law_deck_here", "_law_world_here", "_law_most", "_law_count", "_law_kit", "_law_many", "_law_blocks", "_law_number", "_law_rows", "_law_k"]
theorem sc__law_graph : FnScope N__law_graph ["_law_deck_here", "_law_world_here", "_law_most"] (defScope s__law_graph) := ⟨rfl, rfl, rfl, by decide +kernel, rfl, by decide +kernel, by decide +kernel⟩
abbrev s__law_near_end : Stmt := top 27
abbrev N__law_near_end : List Str := ["_law_deck_here", "_law_end_here", "_law_number", "_law_many", "_law_after", "_law_way"]
theorem sc__law_near_end : FnScope N__law_near_end ["_law_deck_here", "_law_end_here", "_law_number", "_law_many"] (defScope s__law_near_end) := ⟨rfl, rfl, rfl, by decide +kernel, rfl, by decide +kernel, by decide +kernel⟩
abbrev s__law_nearer : Stmt := top 28
abbrev N__law_nearer : List Str := ["_law_deck_here", "_law_shape", "_law_blocks", "_law_number", "_law_block", "_law_rows"]
theorem sc__law_nearer : FnScope N__law_nearer ["_law_deck_here", "_law_shape"] (defScope s__law_nearer) := ⟨rfl, rfl, rfl, by decide +kernel, rfl, by decide +kernel, by decide +kernel⟩
abbrev s__law_operands : Stmt := top 29
abbrev N__law_operands : List Str := ["_law_row_here", "_law_word_here", "_law_first_here"]
theorem sc__law_operands : FnScope N__law_operands ["_law_row_here"] (defScope s__law_operands) := ⟨rfl, rfl, rfl, by decide +kernel, rfl, by decide +kernel, by decide +kernel⟩
abbrev s__law_variables : Stmt := top 30
abbrev N__law_variables : List Str := ["_law_row_here", "_law_one"]
theorem sc__law_variables : FnScope N__law_variables ["_law_row_here"] (defScope s__law_variables) := ⟨rfl, rfl, rfl, by decide +kernel, rfl, by decide +kernel, by decide +kernel⟩
abbrev s__law_sets : Stmt := top 31
abbrev N__law_sets : List Str := ["_law_row_here"]
theorem sc__law_sets : FnScope N__law_sets ["_law_row_here"] (defScope s__law_sets) := ⟨rfl, rfl, rfl, by decide +kernel, rfl, by decide +kernel, by decide +kernel⟩
abbrev s__law_occur : Stmt := top 32
abbrev N__law_occur : List Str := ["_law_shape", "_law_found", "_law_rows", "_law_end_here", "_law_row_here", "_law_v"]
theorem sc__law_occur : FnScope N__law_occur ["_law_shape"] (defScope s__law_occur) := ⟨rfl, rfl, rfl, by decide +kernel, rfl, by decide +kernel, by decide +kernel⟩
abbrev s__law_slots : Stmt := top 33
abbrev N__law_slots : List Str := ["_law_deck_here", "_law_shape", "_law_held", "_law_occur_here", "_law_many", "_law_step", "_law_first_here", "_law_found", "_law_left", "_law_v", "_law_slot", "_law_k"]
theorem sc__law_slots : FnScope N__law_slots ["_law_deck_here", "_law_shape", "_law_held"] (defScope s__law_slots) := ⟨rfl, rfl, rfl, by decide +kernel, rfl, by decide +kernel, by decide +kernel⟩
abbrev s__law_in_slots : Stmt := top 34
abbrev N__law_in_slots : List Str := ["_law_operand_here", "_law_rooms"]
theorem sc__law_in_slots : FnScope N__law_in_slots ["_law_operand_here", "_law_rooms"] (defScope s__law_in_slots) := ⟨rfl, rfl, rfl, by decide +kernel, rfl, by decide +kernel, by decide +kernel⟩
abbrev s__law_row_in_slots : Stmt := top 35
abbrev N__law_row_in_slots : List Str := ["_law_row_here", "_law_rooms", "_law_word_here", "_law_first_here", "_law_head", "_law_one"]
theorem sc__law_row_in_slots : FnScope N__law_row_in_slots ["_law_row_here", "_law_rooms"] (defScope s__law_row_in_slots) := ⟨rfl, rfl, rfl, by decide +kernel, rfl, by decide +kernel, by decide +kernel⟩
abbrev s__law_end_rows : Stmt := top 36
abbrev N__law_end_rows : List Str := ["_law_end_here", "_law_number", "_law_rooms", "_law_operand_here"]
theorem sc__law_end_rows : FnScope N__law_end_rows ["_law_end_here", "_law_number", "_law_rooms"] (defScope s__law_end_rows) := ⟨rfl, rfl, rfl, by decide +kernel, rfl, by decide +kernel, by decide +kernel⟩
abbrev s__law_due : Stmt := top 37
abbrev N__law_due : List Str := ["_law_shape", "_law_held", "_law_gives", "_law_rooms", "_law_parts", "_law_number", "_law_block", "_law_rows", "_law_starts", "_law_found", "_law_row_here", "_law_part", "_law_v"]
theorem sc__law_due : FnScope N__law_due ["_law_shape", "_law_held", "_law_gives", "_law_rooms"] (defScope s__law_due) := ⟨rfl, rfl, rfl, by decide +kernel, rfl, by decide +kernel, by decide +kernel⟩
abbrev s__law_same : Stmt := top 38
abbrev N__law_same : List Str := ["_law_found", "_law_due_here", "_law_k"]
theorem sc__law_same : FnScope N__law_same ["_law_found", "_law_due_here"] (defScope s__law_same) := ⟨rfl, rfl, rfl, by decide +kernel, rfl, by decide +kernel, by decide +kernel⟩
abbrev s_law : Stmt := top 39
abbrev N_law : List Str := ["_law_script", "_law_deck_here", "_law_turn", "_law_world_here", "_law_shape", "_law_held", "_law_rooms", "_law_shown", "_law_gives", "_law_found", "_law_k"]
theorem sc_law : FnScope N_law ["_law_script"] (defScope s_law) := ⟨rfl, rfl, rfl, by decide +kernel, rfl, by decide +kernel, by decide +kernel⟩
def gnames : List Str := (["set_by", "operands_of", "with_operands", "with_set", "operands_of_end", "end_with_operands", "in_slots", "operand_in_slots", "end_code", "with_place", "code_of", "_law_deck", "_law_draw", "_law_pick", "_law_names", "_law_world", "_law_word", "_law_operand", "_law_first", "_law_other_row", "_law_row", "_law_end", "_law_graph", "_law_near_end", "_law_nearer", "_law_operands", "_law_variables", "_law_sets", "_law_occur", "_law_slots"] : List Str) ++ (["_law_in_slots", "_law_row_in_slots", "_law_end_rows", "_law_due", "_law_same", "law", "SETTERS"] : List Str)
structure Txt (w : World) (K : PySem.W.Frag) (mg : Str → Option Value) : Prop where
  d_set_by : FnP K "set_by" s_set_by
  d_operands_of : FnP K "operands_of" s_operands_of
  d_with_operands : FnP K "with_operands" s_with_operands
  d_with_set : FnP K "with_set" s_with_set
  d_operands_of_end : FnP K "operands_of_end" s_operands_of_end
  d_end_with_operands : FnP K "end_with_operands" s_end_with_operands
  d_in_slots : FnP K "in_slots" s_in_slots
  d_operand_in_slots : FnP K "operand_in_slots" s_operand_in_slots
  d_end_code : FnP K "end_code" s_end_code
  d_with_place : FnP K "with_place" s_with_place
  d_code_of : FnP K "code_of" s_code_of
  d__law_deck : FnP K "_law_deck" s__law_deck
  d__law_draw : FnP K "_law_draw" s__law_draw
  d__law_pick : FnP K "_law_pick" s__law_pick
  d__law_names : FnP K "_law_names" s__law_names
  d__law_world : FnP K "_law_world" s__law_world
  d__law_word : FnP K "_law_word" s__law_word
  d__law_operand : FnP K "_law_operand" s__law_operand
  d__law_first : FnP K "_law_first" s__law_first
  d__law_other_row : FnP K "_law_other_row" s__law_other_row
  d__law_row : FnP K "_law_row" s__law_row
  d__law_end : FnP K "_law_end" s__law_end
  d__law_graph : FnP K "_law_graph" s__law_graph
  d__law_near_end : FnP K "_law_near_end" s__law_near_end
  d__law_nearer : FnP K "_law_nearer" s__law_nearer
  d__law_operands : FnP K "_law_operands" s__law_operands
  d__law_variables : FnP K "_law_variables" s__law_variables
  d__law_sets : FnP K "_law_sets" s__law_sets
  d__law_occur : FnP K "_law_occur" s__law_occur
  d__law_slots : FnP K "_law_slots" s__law_slots
  d__law_in_slots : FnP K "_law_in_slots" s__law_in_slots
  d__law_row_in_slots : FnP K "_law_row_in_slots" s__law_row_in_slots
  d__law_end_rows : FnP K "_law_end_rows" s__law_end_rows
  d__law_due : FnP K "_law_due" s__law_due
  d__law_same : FnP K "_law_same" s__law_same
  d_law : FnP K "law" s_law
  u_SETTERS : ∀ H, SqT K H (He.ga K "SETTERS") [.str "const", .str "copy", .str "op", .str "load", .str "read", .str "call", .str "apply"]
  n_bool : mg "bool" = none
  n_enumerate : mg "enumerate" = none
  n_int : mg "int" = none
  n_isinstance : mg "isinstance" = none
  n_len : mg "len" = none
  n_list : mg "list" = none
  n_max : mg "max" = none
  n_min : mg "min" = none
  n_range : mg "range" = none
  n_repr : mg "repr" = none
  n_set : mg "set" = none
  n_sorted : mg "sorted" = none
  n_str : mg "str" = none
  n_sum : mg "sum" = none
  n_tuple : mg "tuple" = none
  g : ∀ x ∈ gnames, mg x = some (.ref (He.ga K x))
theorem glos {K : PySem.W.Frag} {h : Heap} {mg : Str → Option Value} (X : K.In h) (G : h.Ns mainGlobals mg) : ∀ {l : List Str}, (∀ x ∈ l, (He.Fa.glo x).ok K = true) → ∀ x ∈ l, mg x = some (.ref (He.ga K x)) := fun h x hx => He.glo_ok X G (h x hx)
theorem txt {w : World} {K : PySem.W.Frag} {h : Heap} {mg : Str → Option Value} (X : K.In h) (G : h.Ns mainGlobals mg) (c : SaysB fa fn ts bx w K) : Txt w K mg where
  d_set_by := c.d.def_ 0 (d := dd "set_by" 2) rfl
  d_operands_of := c.d.def_ 1 (d := dd "operands_of" 3) rfl
  d_with_operands := c.d.def_ 2 (d := dd "with_operands" 4) rfl
  d_with_set := c.d.def_ 3 (d := dd "with_set" 5) rfl
  d_operands_of_end := c.d.def_ 4 (d := dd "operands_of_end" 6) rfl
  d_end_with_operands := c.d.def_ 5 (d := dd "end_with_operands" 7) rfl
  d_in_slots := c.d.def_ 6 (d := dd "in_slots" 9) rfl
  d_operand_in_slots := c.d.def_ 7 (d := dd "operand_in_slots" 10) rfl
  d_end_code := c.d.def_ 8 (d := dd "end_code" 11) rfl
  d_with_place := c.d.def_ 9 (d := dd "with_place" 12) rfl
  d_code_of := c.d.def_ 10 (d := dd "code_of" 13) rfl
  d__law_deck := c.d.def_ 11 (d := dd "_law_deck" 15) rfl
  d__law_draw := c.d.def_ 12 (d := dd "_law_draw" 16) rfl
  d__law_pick := c.d.def_ 13 (d := dd "_law_pick" 17) rfl
  d__law_names := c.d.def_ 14 (d := dd "_law_names" 18) rfl
  d__law_world := c.d.def_ 15 (d := dd "_law_world" 19) rfl
  d__law_word := c.d.def_ 16 (d := dd "_law_word" 20) rfl
  d__law_operand := c.d.def_ 17 (d := dd "_law_operand" 21) rfl
  d__law_first := c.d.def_ 18 (d := dd "_law_first" 22) rfl
  d__law_other_row := c.d.def_ 19 (d := dd "_law_other_row" 23) rfl
  d__law_row := c.d.def_ 20 (d := dd "_law_row" 24) rfl
  d__law_end := c.d.def_ 21 (d := dd "_law_end" 25) rfl
  d__law_graph := c.d.def_ 22 (d := dd "_law_graph" 26) rfl
  d__law_near_end := c.d.def_ 23 (d := dd "_law_near_end" 27) rfl
  d__law_nearer := c.d.def_ 24 (d := dd "_law_nearer" 28) rfl
  d__law_operands := c.d.def_ 25 (d := dd "_law_operands" 29) rfl
  d__law_variables := c.d.def_ 26 (d := dd "_law_variables" 30) rfl
  d__law_sets := c.d.def_ 27 (d := dd "_law_sets" 31) rfl
  d__law_occur := c.d.def_ 28 (d := dd "_law_occur" 32) rfl
  d__law_slots := c.d.def_ 29 (d := dd "_law_slots" 33) rfl
  d__law_in_slots := c.d.def_ 30 (d := dd "_law_in_slots" 34) rfl
  d__law_row_in_slots := c.d.def_ 31 (d := dd "_law_row_in_slots" 35) rfl
  d__law_end_rows := c.d.def_ 32 (d := dd "_law_end_rows" 36) rfl
  d__law_due := c.d.def_ 33 (d := dd "_law_due" 37) rfl
  d__law_same := c.d.def_ 34 (d := dd "_law_same" 38) rfl
  d_law := c.d.def_ 35 (d := dd "law" 39) rfl
  u_SETTERS := fun H => tupB_ok (ds := [.str "const", .str "copy", .str "op", .str "load", .str "read", .str "call", .str "apply"]) (He.ba c.b).1 H
  n_bool := He.free_ok X G (c.d.fact 0 (f := .free "bool") rfl)
  n_enumerate := He.free_ok X G (c.d.fact 1 (f := .free "enumerate") rfl)
  n_int := He.free_ok X G (c.d.fact 2 (f := .free "int") rfl)
  n_isinstance := He.free_ok X G (c.d.fact 3 (f := .free "isinstance") rfl)
  n_len := He.free_ok X G (c.d.fact 4 (f := .free "len") rfl)
  n_list := He.free_ok X G (c.d.fact 5 (f := .free "list") rfl)
  n_max := He.free_ok X G (c.d.fact 6 (f := .free "max") rfl)
  n_min := He.free_ok X G (c.d.fact 7 (f := .free "min") rfl)
  n_range := He.free_ok X G (c.d.fact 8 (f := .free "range") rfl)
  n_repr := He.free_ok X G (c.d.fact 9 (f := .free "repr") rfl)
  n_set := He.free_ok X G (c.d.fact 10 (f := .free "set") rfl)
  n_sorted := He.free_ok X G (c.d.fact 11 (f := .free "sorted") rfl)
  n_str := He.free_ok X G (c.d.fact 12 (f := .free "str") rfl)
  n_sum := He.free_ok X G (c.d.fact 13 (f := .free "sum") rfl)
  n_tuple := He.free_ok X G (c.d.fact 14 (f := .free "tuple") rfl)
  g := by
    refine glos X G (l := gnames) ?_
    intro x hx
    obtain ⟨i, hi⟩ := List.getElem?_of_mem hx
    have e : fa[15 + i]? = some (He.Fa.glo x) := by
      have : (gnames.map He.Fa.glo)[i]? = some (He.Fa.glo x) := by rw [List.getElem?_map, hi]; rfl
      have h2 : fa.drop 15 = gnames.map He.Fa.glo := rfl
      rw [← h2, List.getElem?_drop] at this
      exact this
    exact c.d.fact (15 + i) e
end K52

set_option maxHeartbeats 4000000
/-! HK: rules that name the written part K, for use in comprehensions. -/
namespace HG
open PySem PySem.Spec PyProof.Rows L2
section
variable {X : Cx} {K : PySem.W.Frag}
theorem isiK (h : X.K = K) : CallR X (.builtin "isinstance") (rIsi K) := h ▸ call_isi
theorem isiTK (h : X.K = K) : CallR X (.builtin "isinstance") (rIsiT K) := h ▸ call_isiT
def rLenK (K : PySem.W.Frag) : List V → Hp → VK → Prop := fun xs H Q => ∃ x n, xs = [x] ∧ LenV K x H n ∧ Q (.int (n : Nat)) H
theorem lenK (h : X.K = K) : CallR X (.builtin "len") (rLenK K) := h ▸ call_len
theorem ix_listK (h : X.K = K) : IxR X (rIxL K) := h ▸ ix_list
theorem ix_tupK (h : X.K = K) : IxR X (rIxT K) := h ▸ ix_tup
theorem ix_seqK (h : X.K = K) : IxR X (rIx K) := h ▸ ix_seq
theorem sl_tupK (h : X.K = K) : SlR X (rSlT K) := h ▸ sl_tup
theorem sl_listK (h : X.K = K) : SlR X (rSlL K) := h ▸ sl_list
theorem op_catTK (h : X.K = K) : OpR X (binaryOp .Add) (rCatT K) := h ▸ op_catT
theorem op_in_seqK (h : X.K = K) : OpR X (compareOp .In) (rIn K false) := h ▸ op_in_seq
theorem op_ltKK (h : X.K = K) (hu : X.A.units < cLine) : OpR X (compareOp .Lt) (rLtK K) := h ▸ op_ltK hu
theorem op_eqDK (h : X.K = K) (hu : X.A.units + 64 < cLine) : OpR X (compareOp .Eq) (rEqD K) := h ▸ op_eqD hu
theorem op_neDK (h : X.K = K) (hu : X.A.units + 64 < cLine) : OpR X (compareOp .NotEq) (rNeD K) := h ▸ op_neD hu
/-- x < y: ints, texts, tuples of both -/
theorem op_lt3 (h : X.K = K) (hu : X.A.units + 64 < cLine) : OpR X (compareOp .Lt) (fun x y H Q => (rI0 (fun i j => .bl (decide (i < j)))) x y H Q ∨ (∃ i j, x = .str i ∧ y = .str j ∧ Q (.bl (decide (i.cps.toList < j.cps.toList))) H) ∨ rLtK K x y H Q) :=
  op_lt.or (op_lt_str.or (op_ltKK h (Nat.lt_of_le_of_lt (Nat.le_add_right _ 64) hu)))
end
end HG

set_option maxHeartbeats 4000000
/-! HJ: tuples as data: t + u, t[a:b], t[::-1], t[i]. -/
namespace HG
open PySem PySem.Spec PyProof.Rows L2
section
variable {prog : Program} {w : World} {A : Around} {E : Value → Shared → Prop} {s : Shared}
theorem places_rev (n : Nat) : Builtin.Slice.slicePlaces ((n : Int) - 1) (-1) (-1) = n := by
  unfold Builtin.Slice.slicePlaces
  have h1 : ¬ ((-1 : Int) > 0) := by omega
  simp only [h1, if_false]
  split
  · rename_i h
    rw [show (- (-1 : Int)) = 1 from rfl, Int.ediv_one]
    omega
  · omega
theorem adjust_rev (n : Nat) : Builtin.Slice.sliceAdjust none none (-1) (n : Int) = ((n : Int) - 1, -1) := by
  unfold Builtin.Slice.sliceAdjust
  have h1 : ((-1 : Int) < 0) := by omega
  simp only [h1, if_true]
theorem sliceApplied_rev {sl : Addr} {vl vu vs : Value} {n : Nat} {Q : Int × Int × Nat → Shared → Prop} (hs : s.heap.IsSliceOf sl vl vu vs) (pl : IsPart vl none) (pu : IsPart vu none) (ps : IsPart vs (some (-1)))
    (h : Q ((n : Int) - 1, -1, n) s) : wpAny (model prog w) A (Builtin.Slice.sliceApplied (.ref sl) (pure (n : Int))) Q E s := by
  obtain ⟨os, hos, hcs, hds⟩ := id hs
  unfold Builtin.Slice.sliceApplied Builtin.Slice.sliceFields
  refine wpAny_bind (wpAny_bind (wpAny_field hos hds (x := vl) rfl (wpAny_bind (wpAny_field hos hds (x := vu) rfl (wpAny_bind (wpAny_field hos hds (x := vs) rfl (wpAny_pure ?_)))))))
  refine wpAny_bind (HT.slicePart_ ps ?_)
  show wpAny _ _ (if ((-1 : Int) == 0) = true then _ else _) _ _ s
  rw [if_neg (by decide)]
  refine wpAny_bind (HT.slicePart_ pl (wpAny_bind (HT.slicePart_ pu (wpAny_bind (wpAny_pure ?_)))))
  show wpAny _ _ (match Builtin.Slice.sliceAdjust none none (-1) (n : Int) with | (lo, hi) => pure (lo, (-1 : Int), Builtin.Slice.slicePlaces lo hi (-1))) _ _ s
  rw [adjust_rev n]
  show wpAny _ _ (pure ((n : Int) - 1, (-1 : Int), Builtin.Slice.slicePlaces ((n : Int) - 1) (-1) (-1))) _ _ s
  rw [places_rev]
  exact wpAny_pure h
theorem pick_rev (xs : Array Value) : ((List.range xs.size).filterMap fun (m : Nat) => xs[(((xs.size : Int) - 1) + (m : Int) * (-1)).toNat]?).toArray = xs.toList.reverse.toArray := by
  congr 1
  apply List.ext_getElem?
  intro i
  have e : (List.range xs.size).filterMap (fun (m : Nat) => xs[(((xs.size : Int) - 1) + (m : Int) * (-1)).toNat]?) = (List.range xs.size).map (fun m => xs.getD (xs.size - 1 - m) .none) := by
    have : ∀ l : List Nat, (∀ m ∈ l, m < xs.size) → l.filterMap (fun (m : Nat) => xs[(((xs.size : Int) - 1) + (m : Int) * (-1)).toNat]?) = l.map (fun m => xs.getD (xs.size - 1 - m) .none) := by
      intro l
      induction l with
      | nil => intro _; rfl
      | cons m l ih =>
        intro hm
        have h1 := hm m List.mem_cons_self
        have e1 : (((xs.size : Int) - 1) + (m : Int) * (-1)).toNat = xs.size - 1 - m := by omega
        have h2 : xs.size - 1 - m < xs.size := by omega
        rw [List.filterMap_cons, e1, Array.getElem?_eq_getElem h2, List.map_cons, ih fun k hk => hm k (List.mem_cons_of_mem _ hk)]
        simp [Array.getD, h2]
    exact this _ fun m hm => List.mem_range.mp hm
  rw [e, List.getElem?_map]
  by_cases hi : i < xs.size
  · rw [List.getElem?_range hi]
    rw [List.getElem?_reverse (by simpa using hi)]
    have h2 : xs.size - 1 - i < xs.size := by omega
    simp [Array.getD, h2]
  · rw [List.getElem?_eq_none (by simp; omega), List.getElem?_eq_none (by simp; omega)]
    rfl
theorem getItem_tuple_rev {t sl : Addr} {items : Array Value} {vl vu vs : Value} {Q : Value → Shared → Prop} (ht : IsTup s.heap t items) (hs : s.heap.IsSliceOf sl vl vu vs) (pl : IsPart vl none) (pu : IsPart vu none) (ps : IsPart vs (some (-1)))
    (h : Q (.ref s.heap.objs.size) { s with heap := s.heap.push { cls := .type "tuple", data := .seq items.toList.reverse.toArray } })
    (hsz : items.size ≤ sizeLine) : wpAny (model prog w) A (getItem (.ref t) (.ref sl)) Q E s := by
  have htake : sizeOk (.seq items.toList.reverse.toArray) := by
    show items.toList.reverse.toArray.size ≤ sizeLine
    simpa using hsz
  obtain ⟨os, hos, hcs, hds⟩ := id hs
  have hTs : s.TypeIs (.ref sl) "slice" := ⟨os, hos, hcs⟩
  unfold getItem
  try with_reducible refine wpAny_holding ?_
  first | refine wpAny_bind (wpAny_pure ?_) | skip
  refine wpAny_bind (wpAny_sequenceKey ht.typeIs (by decide) ?_)
  refine wpAny_bind (wpAny_callSpecial?_slot (name := Str.ofString "__getitem__") ht.typeIs PyProof.Rows.slot_tuple_getitem
    (wpAny_call_entry PyProof.Rows.slot_tuple_getitem ht.typeIs PyProof.Rows.entry_tuple_getitem ?_ (PyProof.Rows.args_tuple_getitem _ _)))
  show wpAny _ _ (Builtin.Tuple.tupleItemsOf (.ref t) >>= _) _ _ s
  refine wpAny_bind (PyProof.Rows.tupleItemsOf_ ht ?_)
  refine wpAny_bind (wpAny_typeOf hTs ?_)
  rw [if_pos (by decide)]
  refine wpAny_bind (sliceApplied_rev hs pl pu ps ?_)
  have hno : ¬ ((((items.size : Int) - 1) == 0 && (-1 : Int) == 1 && items.size == items.size) = true) := by
    intro q
    rw [Bool.and_eq_true, Bool.and_eq_true] at q
    exact absurd q.1.2 (by decide)
  show wpAny _ _ (if (((items.size : Int) - 1) == 0 && (-1 : Int) == 1 && items.size == items.size) = true then _ else _) _ _ s
  rw [if_neg hno, pick_rev]
  first
    | exact wpAny_bind (m := Builtin.Tuple.tupleExact _) (wpAny_newObj_type (wpAny_pure ⟨_, rfl, wpAny_pure h⟩) htake)
    | exact wpAny_bind (m := Builtin.Tuple.tupleExact _) (wpAny_newObj_type (wpAny_bind (wpAny_pure (wpAny_pure ⟨_, rfl, wpAny_pure h⟩))) htake)
    | exact wpAny_bind (wpAny_bind (m := Builtin.Tuple.tupleExact _) (wpAny_newObj_type (wpAny_pure (wpAny_pure ⟨_, rfl, wpAny_pure h⟩)) htake))
    | exact wpAny_bind (wpAny_bind (m := Builtin.Tuple.tupleExact _) (wpAny_newObj_type (wpAny_pure ⟨_, rfl, wpAny_pure h⟩) htake))
end
section
variable {X : Cx} {K : PySem.W.Frag}
/-! ### data -/
theorem dpAll_drop {H : Hp} : ∀ {vs : List V} {ds : List PyData} (n : Nat), DpAll K H vs ds → DpAll K H (vs.drop n) (ds.drop n)
  | _, _, 0, h => h
  | _, _, n + 1, .nil => by rw [List.drop_nil, List.drop_nil]; exact .nil
  | _, _, n + 1, .cons _ h => dpAll_drop n h
theorem dpAll_take {H : Hp} : ∀ {vs : List V} {ds : List PyData} (n : Nat), DpAll K H vs ds → DpAll K H (vs.take n) (ds.take n)
  | _, _, 0, h => .nil
  | _, _, n + 1, .nil => by rw [List.take_nil, List.take_nil]; exact .nil
  | _, _, n + 1, .cons a h => .cons a (dpAll_take n h)
theorem dpAll_rev {H : Hp} : ∀ {vs : List V} {ds : List PyData}, DpAll K H vs ds → DpAll K H vs.reverse ds.reverse
  | _, _, .nil => .nil
  | _, _, .cons a h => by
    rw [List.reverse_cons, List.reverse_cons]
    exact dpAll_app (dpAll_rev h) (.cons a .nil)
def cutP (ds : List PyData) (lo hi : Option Int) : List PyData := (ds.drop (HT.sIx ds.length 0 lo)).take (HT.sIx ds.length ds.length hi - HT.sIx ds.length 0 lo)
theorem dpAll_cut {H : Hp} {vs : List V} {ds : List PyData} (lo hi : Option Int) (h : DpAll K H vs ds) : DpAll K H (cutV vs lo hi) (cutP ds lo hi) := by
  have e := dpAll_len h
  unfold cutV cutP
  rw [e]
  exact dpAll_take _ (dpAll_drop _ h)
theorem dp_tupN {H : Hp} {p : Addr} {vs : List V} {ds : List PyData} (hp : H p = none) (h : DpAll K H vs ds) : Dp K (upd H p (.tup vs)) (.ref p) (.tuple ds) :=
  .tup (.inl (.inl upd_same)) (dpAll_mono (fun b o e => upd_get hp e) _ _ h)
theorem dp_lstN {H : Hp} {p : Addr} {vs : List V} {ds : List PyData} (hp : H p = none) (h : DpAll K H vs ds) : Dp K (upd H p (.lst vs)) (.ref p) (.list ds) :=
  .lst (.inl (.inl upd_same)) (dpAll_mono (fun b o e => upd_get hp e) _ _ h)
theorem same_new {H : Hp} {p : Addr} {o : HO} (hp : H p = none) : Same H (upd H p o) := fun b u e => upd_get hp e
theorem pg_tupK {es : List Expr} {k : Nat} {t : TGs} {n : Nat} {pos : Pos} (hK : X.K = K) (hc : X.calm = true) (h : PGs X es t)
    (hn : (assignEach es X.env).length = n := by rfl) (hst : (assignEach es X.env).findIdx? (·.1) = none := by rfl) : PG X (.Tuple es k pos) (gTup K n t) := hK ▸ pg_tup hc h hn hst
/-- t + u -/
def rCatP (K : PySem.W.Frag) : R2 := fun x y H Q => ∃ ds es, Dp K H x (.tuple ds) ∧ Dp K H y (.tuple es) ∧ ds.length + es.length ≤ sizeLine ∧ ∀ z H', Same H H' → Dp K H' z (.tuple (ds ++ es)) → Q z H'
theorem op_catP (hK : X.K = K) : OpR X (binaryOp .Add) (rCatP K) := by
  subst hK
  intro pins s σ H x y v u Q I rx ry h
  obtain ⟨ds, es, hx, hy, hz, q⟩ := h
  cases hx with
  | @tup a xs _ sa ha =>
    cases hy with
    | @tup b ys _ sb hb =>
      have l1 := dpAll_len ha
      have l2 := dpAll_len hb
      refine op_catA pins s σ H _ _ v u Q I rx ry ⟨a, b, xs, ys, rfl, rfl, sa, sb, by omega, fun e => ?_, fun _ e => ?_, fun _ _ p hp => ?_⟩
      · subst e
        cases ha
        exact q _ _ (Same.refl _) (.tup sb hb)
      · subst e
        cases hb
        rw [List.append_nil] at q
        exact q _ _ (Same.refl _) (.tup sa ha)
      · exact q _ _ (same_new hp) (dp_tupN hp (dpAll_app ha hb))
/-- t[lo:hi] -/
def rSlP (K : PySem.W.Frag) : V → Option Int → Option Int → Hp → VK → Prop := fun x lo hi H Q => ∃ ds, Dp K H x (.tuple ds) ∧ ∀ z H', Same H H' → Dp K H' z (.tuple (cutP ds lo hi)) → Q z H'
theorem cutD_all (ds : List PyData) (lo hi : Option Int) (h : HT.sIx ds.length 0 lo = 0 ∧ HT.sIx ds.length ds.length hi = ds.length) : cutP ds lo hi = ds := by
  unfold cutP
  rw [h.1, h.2, List.drop_zero, Nat.sub_zero, List.take_length]
theorem sl_P (hK : X.K = K) : SlR X (rSlP K) := by
  subst hK
  intro pins s σ H x v vl vu lo hi sl Q I rx hs pl pu h
  obtain ⟨ds, hx, q⟩ := h
  cases hx with
  | @tup a xs _ sa ha =>
    have l1 := dpAll_len ha
    refine sl_tupA pins s σ H _ v vl vu lo hi sl Q I rx hs pl pu ⟨a, xs, rfl, sa, fun e => ?_, fun _ p hp => ?_⟩
    · rw [l1] at e
      rw [cutD_all ds lo hi e] at q
      exact q _ _ (Same.refl _) (.tup sa ha)
    · exact q _ _ (same_new hp) (dp_tupN hp (dpAll_cut lo hi ha))
/-- t[i] -/
def rIxP (K : PySem.W.Frag) : R2 := fun x y H Q => ∃ ds i d, Dp K H x (.tuple ds) ∧ y = .int (i : Nat) ∧ ds[i]? = some d ∧ ∀ z, Dp K H z d → Q z H
theorem dpAll_getD {H : Hp} : ∀ {vs : List V} {ds : List PyData}, DpAll K H vs ds → ∀ {i : Nat} {d : PyData}, ds[i]? = some d → ∃ v, vs[i]? = some v ∧ Dp K H v d
  | _, _, .nil, i, d, e => by simp at e
  | _, _, .cons a h, 0, d, e => by simp at e; subst e; exact ⟨_, rfl, a⟩
  | _, _, .cons a h, i + 1, d, e => by
    obtain ⟨v, h1, h2⟩ := dpAll_getD h (i := i) (d := d) (by simpa using e)
    exact ⟨v, by simpa using h1, h2⟩
theorem ix_P (hK : X.K = K) : IxR X (rIxP K) := by
  subst hK
  intro value slice pins s σ H x y v u Q I rx ry h hs
  obtain ⟨ds, i, d, hx, rfl, hd, q⟩ := h
  cases hx with
  | @tup a xs _ sa ha =>
    obtain ⟨z, hz, hzd⟩ := dpAll_getD ha hd
    exact ix_tup value slice pins s σ H _ _ v u Q I rx ry ⟨a, xs, i, z, rfl, rfl, sa, atI_nat hz, q z hzd⟩ hs
/-- t[::-1] -/
def tRevP (K : PySem.W.Frag) (te : TE) : TE := fun σ H Q => te σ H fun x H1 => ∃ ds, Dp K H1 x (.tuple ds) ∧ ∀ z H', Same H1 H' → Dp K H' z (.tuple ds.reverse) → Q z H'
theorem pe_revP {e : Expr} {te : TE} {k : Nat} {p1 p2 p3 pos : Pos} (he : PE X e te) : PE X (.Subscript e (.Slice none none (some (.UnaryOp .USub (.Constant (.int 1) k p1) p2)) p3) pos) (tRevP X.K te) := by
  refine ⟨fun pins s σ H Q I h => ?_⟩
  refine Subscript_ (thn (he.run pins s σ H _ I h) fun v s1 ⟨x, H1, I1, r1, q1⟩ => ?_)
  obtain ⟨ds, hx, q⟩ := q1
  cases hx with
  | @tup a xs _ sa ha =>
    cases r1
    have hst : PO X (some (.UnaryOp .USub (.Constant (.int 1) k p1) p2)) (tPart (tUn (rU fun i => .int (-i)) (tC (.int 1)))) := po_some (pe_un un_neg pe_int)
    refine wpAny_Slice (thn (po_none.run pins s1 σ H1 (fun o H2 => o = none ∧ H2 = H1) I1 ⟨rfl, rfl⟩) fun vl s2 ⟨l, H2, I2, pl, el, e2⟩ => ?_)
    subst el e2
    refine thn (po_none.run pins s2 σ H2 (fun o H3 => o = none ∧ H3 = H2) I2 ⟨rfl, rfl⟩) fun vu s3 ⟨u, H3, I3, pu, eu, e3⟩ => ?_
    subst eu e3
    refine thn (hst.run pins s3 σ H3 (fun o H4 => o = some (-1) ∧ H4 = H3) I3 ⟨1, rfl, -1, rfl, rfl, rfl⟩) fun vs s4 ⟨o, H4, I4, ps, eo, e4⟩ => ?_
    subst eo e4
    have I5 : Inv X pins σ H4 { s4 with heap := s4.heap.push { cls := .type "slice", data := .fields #[vl, vu, vs] } } := I4.kept (t' := s4.toks) fun b ob q => Heap.get?_push_of_some _ q
    obtain ⟨its, r, ht, hz⟩ := I5.tuple sa
    have hlen := r.length
    show wpAny (model X.prog X.w) X.A (subscriptTail e (.Slice none none (some (.UnaryOp .USub (.Constant (.int 1) k p1) p2)) p3) (.ref a) (.ref s4.heap.objs.size)) (EP X pins σ Q) X.xe { s4 with heap := s4.heap.push { cls := .type "slice", data := .fields #[vl, vu, vs] } }
    refine tail_any (ops := [.ref a, .ref s4.heap.objs.size]) ht.typeIs (PyProof.Rows.slot_tuple_getitem.lookup) ?_ (by with_unfolding_all rfl)
    refine getItem_tuple_rev ht (Heap.IsSliceOf.new _ vl vu vs) pl pu ps ?_ (by rw [List.size_toArray]; omega)
    refine ⟨.ref _, _, I5.laid (t' := s4.toks) (o := .tup xs.reverse) (fun b ob q => Heap.get?_push_of_some _ q) (Nat.le_refl _) ?_, rfl, q _ _ (same_new (I5.hok.fresh (Nat.le_refl _))) (dp_tupN (I5.hok.fresh (Nat.le_refl _)) (dpAll_rev ha))⟩
    exact ⟨by rw [List.length_reverse]; exact hz, _, r.reverse, IsTup.new _ _⟩
end
end HG

set_option maxHeartbeats 4000000
/-! HM: for k, x in enumerate(tuple). -/
namespace HG
open PySem PySem.Spec PyProof.Rows L2
theorem meets_enumerate_newT (t : Addr) (items : Array Value) (n : Nat) (dct : Option Addr) (sl : Array (Option Value)) :
    Meets (Builtin.«enumerate.__new__» ⟨[.type "enumerate", .ref t], []⟩) (fun _ R s => s.heap.get? t = some { cls := .type "tuple", dict := dct, data := .seq items n, slots := sl } ∧
      R (.ok (.ret (.ref (s.heap.push { cls := .type "tuple_iterator", data := .fields #[.ref t, .int 0 0] }).objs.size)))
        { s with heap := (s.heap.push { cls := .type "tuple_iterator", data := .fields #[.ref t, .int 0 0] }).push { cls := .type "enumerate", data := .fields #[.none, .bool false, .ref s.heap.objs.size, rawInt 0, .none, .none] } }) :=
  .of_wp fun prog w A R s h => by
    obtain ⟨hp, g, d, tk, os⟩ := s; obtain ⟨hl, h⟩ := h
    have hsub := sub_enumerate
    have hT : Heap.IsTuple (Shared.heap ⟨hp, g, d, tk, os⟩) t items := ⟨_, hl, rfl, n, rfl⟩
    have q1 : ∀ {A' : Around} {E : Value → Shared → Prop} {Q : Value → Shared → Prop}, Q (.ref hp.objs.size) ⟨hp.push { cls := .type "tuple_iterator", data := .fields #[.ref t, .int 0 0] }, g, d, tk, os⟩ → wpAny (model prog w) A' (pyIter (.ref t)) Q E ⟨hp, g, d, tk, os⟩ :=
      fun q => wpAny_pyIter_tuple hT q
    wp_walk using q1
    refine wpAny_stack_any fun st => wpAny_pure ?_
    split
    · rename_i c _ _ _ _ _
      cases (c == Value.type "enumerate")
      · wp_walk using q1
        exact ⟨_, rfl, h⟩
      · wp_walk using q1
        exact ⟨_, rfl, h⟩
    · wp_walk using q1
      exact ⟨_, rfl, h⟩
theorem call_enumerate_tup {prog : Program} {w : World} {A : Around} {E : Value → Shared → Prop} {s : Shared} {l : Addr} {items : Array Value} {Q : Value → Shared → Prop} (hL : s.heap.IsTuple l items)
    (h : ∀ h', IsEnum h' (s.heap.objs.size + 1) s.heap.objs.size 0 .none → h'.IsTupleIter s.heap.objs.size l 0 → h'.objs.size = s.heap.objs.size + 2 →
      (∀ b o, s.heap.get? b = some o → h'.get? b = some o) → Q (.ref (s.heap.objs.size + 1)) { s with heap := h' }) :
    wpAny (model prog w) A (call (.type "enumerate") [.ref l]) Q E s := by
  obtain ⟨⟨c, dct, dt, sl⟩, hl, hc, n, hd⟩ := hL
  replace hc : c = .type "tuple" := hc
  replace hd : dt = .seq items n := hd
  subst hc hd
  refine callType_new F.called_enumerate (by decide) (F.typeCall_enumerate_1 _) (F.newCall_enumerate_1 _) (fun obj => F.args_object_init_2 obj _) F.entry_enumerate_new
    (meets_enumerate_newT l items n dct sl) ⟨hl, ?_⟩
  have hz : (s.heap.push { cls := .type "tuple_iterator", data := .fields #[.ref l, .int 0 0] }).objs.size = s.heap.objs.size + 1 := Heap.size_push ..
  show _ ∧ _
  rw [hz]
  have he : IsEnum ((s.heap.push { cls := .type "tuple_iterator", data := .fields #[.ref l, .int 0 0] }).push
      { cls := .type "enumerate", data := .fields #[.none, .bool false, .ref s.heap.objs.size, rawInt 0, .none, .none] }) (s.heap.objs.size + 1) s.heap.objs.size 0 .none := by
    have := Heap.get?_push_size (s.heap.push { cls := .type "tuple_iterator", data := .fields #[.ref l, .int 0 0] })
      (o := { cls := .type "enumerate", data := .fields #[.none, .bool false, .ref s.heap.objs.size, rawInt 0, .none, .none] }) rfl
    rw [hz] at this; exact this
  refine ⟨⟨_, he, rfl⟩, h _ he ⟨_, Heap.get?_push_of_some _ (Heap.get?_push_size _ rfl), rfl, rfl⟩ (by rw [Heap.size_push, hz]) fun b o x => Heap.get?_push_of_some _ (Heap.get?_push_of_some _ x)⟩
def IteT (K : PySem.W.Frag) (a : Addr) : It :=
  ⟨fun i H => ∃ (xs : List V) (x : V), SqT K H a xs ∧ xs[i]? = some x, fun i H v H' => ∃ T x, v = .ref T ∧ H T = none ∧ H' = upd H T (.tup [.int (i : Nat), x]) ∧ ∀ xs, SqT K H a xs → xs[i]? = some x, fun i H => ∃ xs : List V, SqT K H a xs ∧ xs.length ≤ i⟩
theorem turn_enumT {P : Program} {w : World} {K : PySem.W.Frag} {elts : List Expr} {kk : Nat} {tpos : Pos} (a e it : Addr) :
    Turn P w K (.Tuple elts kk tpos) (IteT K a) [e, it] e (fun i h => (∃ old, IsEnum h e it ((i : Nat) : Int) old) ∧ h.IsTupleIter it a i ∧ e ≠ it) where
  mem := by simp
  obj := fun i h st b hb => by
    obtain ⟨⟨old, he⟩, ⟨o, ho, hc, hd⟩, _⟩ := st
    have e' : b = e ∨ b = it := by simpa using hb
    rcases e' with z | z
    · rw [z]; exact ⟨_, he, fun v q => nomatch q⟩
    · rw [z]; exact ⟨o, ho, fun v q => by rw [hd] at q; cases q⟩
  keep := fun i h h' st k => let ⟨⟨old, he⟩, hi, hne⟩ := st; ⟨⟨old, k e (by simp) _ he⟩, hi.at fun o q => k it (by simp) o q, hne⟩
  item := by
    intro X hP hw hK hc i pins s σ H E I hf st hg
    subst hP hw hK
    obtain ⟨⟨old, he⟩, hit, hne⟩ := st
    obtain ⟨xs, x, hq, hx⟩ := hg
    obtain ⟨its, rv, p, hz⟩ := I.tuple hq
    obtain ⟨u, hu, ru⟩ := rv.get hx
    have hel : e < s.heap.objs.size := Heap.lt_size he
    have hil : it < s.heap.objs.size := by obtain ⟨_, q, _⟩ := hit; exact Heap.lt_size q
    have hai : a ≠ it := fun z => by
      obtain ⟨o, q, c1, _⟩ := hit
      obtain ⟨o2, q2, c2, _⟩ := p
      rw [z] at q2
      rw [q] at q2
      cases q2
      rw [c1] at c2
      exact absurd c2 (by decide)
    have hae : a ≠ e := fun z => by
      obtain ⟨o2, q2, c2, _⟩ := p
      rw [z] at q2
      have he' : s.heap.get? e = some _ := he
      rw [he'] at q2
      cases q2
      exact absurd (show Value.type "enumerate" = Value.type "tuple" from c2) (by decide)
    have hlt : i < its.toArray.size := by
      have := (List.getElem?_eq_some_iff.mp hu).1
      simpa using this
    refine wpAny_pyNext_enum_itemD (Draws.tuple (A := X.A.in1) (I.ok.hd hc) it a hai its.toArray) he ⟨hit, p⟩ hlt hne (by simp; exact ⟨hne, fun z => hae z.symm⟩) fun u' h' tk hu' ho hst hT hsz hk => ?_
    obtain ⟨hit', _⟩ := hst
    have eu : u' = u := by
      have h1 : its.toArray[i]? = some u' := hu'
      have h2 : its.toArray[i]? = some u := by simpa using hu
      rw [h2] at h1
      cases h1
      rfl
    subst eu
    refine ⟨_, rfl, wpAny_letOwnedTupleGo_enum (s := { s with heap := h', toks := tk + 1 }) ho fun h'' he' sb => ?_⟩
    have hT2 : h''.get? s.heap.objs.size = some { cls := .type "tuple", data := .seq #[.int i tk, u'] } := (sb.2 _ (Nat.ne_of_gt hel)).trans hT
    have new : ObjOk X.prog X.w (upd H s.heap.objs.size (.tup [.int (i : Nat), x])) h'' s.heap.objs.size (.tup [.int (i : Nat), x]) :=
      ⟨by show 2 ≤ sizeLine; decide, [.int i tk, u'], .cons ⟨_, rfl⟩ (.cons ru .nil), ⟨_, hT2, rfl, _, rfl⟩⟩
    have I1 : Inv X pins σ (upd H s.heap.objs.size (.tup [.int (i : Nat), x])) { s with heap := h'', toks := tk + 1 } :=
      I.turnedNew (ch := [e, it]) (fun b ob hb q => (sb.2 b (fun z => hb (by simp [z]))).trans (hk b ob (fun z => hb (by simp [z])) (fun z => hb (by simp [z])) q)) hf (Nat.le_refl _) new
    refine ⟨.ref s.heap.objs.size, _, I1, rfl, ⟨_, x, rfl, I.hok.fresh (Nat.le_refl _), rfl, fun ys hy => by rw [I.tuple_inj hy hq]; exact hx⟩, ⟨⟨u', ?_⟩, hit'.at fun o q => (sb.2 it (Ne.symm hne)).trans q, hne⟩, fun b hb => ?_⟩
    · have e1 : ((i + 1 : Nat) : Int) = (i : Int) + 1 := by omega
      rw [e1]; exact he'
    · have hb' : b < s.heap.objs.size := by
        have e' : b = e ∨ b = it := by simpa using hb
        rcases e' with z | z
        · rw [z]; exact hel
        · rw [z]; exact hil
      rw [upd_ne (Nat.ne_of_lt hb')]
      exact (hf b hb).1
  done := by
    intro X hP hw hK hc i pins s σ H E I hf st hg
    subst hP hw hK
    obtain ⟨⟨old, he⟩, hit, hne⟩ := st
    obtain ⟨xs, hq, hx⟩ := hg
    obtain ⟨its, rv, p, hz⟩ := I.tuple hq
    obtain ⟨f0, f1, f2, f3, f4, f5⟩ := hf it (by simp)
    have hl := rv.length
    have hT : s.TypeIs (.ref e) "enumerate" := ⟨_, he, rfl⟩
    unfold pyNext
    refine wpAny_bind (wpAny_attempt (wpAny_callSpecial?_slot (name := Str.ofString "__next__") hT F.slot_enumerate_next
      (wpAny_call_entry F.slot_enumerate_next hT F.entry_enumerate_next ?_ (F.args_enumerate_next_1 _))))
    show wpAny _ _ (field (.ref e) 2 >>= _) _ _ _
    refine wpAny_bind (wpAny_field he rfl (x := .ref it) rfl ?_)
    refine wpAny_bind (wpAny_nextOf_tuple_end (I.ok.hd hc) hit p (by simp; omega) fun h' x he' hx' => ?_)
    obtain ⟨o, ho, hc⟩ := hx'
    refine wpAny_bind (wpAny_isInstance (T := "StopIteration") (b := true) ⟨o, ho, hc⟩ isSubtype_stop ?_)
    exact wpAny_pure ⟨rfl, I.turned (t' := s.toks) (fun b o hb q => he' b o hb q) f0 f1 f3 f4 f5⟩
  self := fun A i s Q E st h => let ⟨⟨_, he⟩, _⟩ := st; wpAny_pyIter_enum he h
def iEnumT (K : PySem.W.Frag) (ta : TA) : TI := fun σ H R => ta σ H fun vs H1 => ∃ a xs, vs = [.ref a] ∧ SqT K H1 a xs ∧ R (IteT K a) H1
theorem pi_enumT {X : Cx} {e : Expr} {ta : TA} {p pos tpos : Pos} {elts : List Expr} {kk : Nat} (hg : Gl X "enumerate") (hm : X.mg "enumerate" = none) (ha : PA X [e] ta) (hs : starEach [e] X.env = [(false, eval e X.env)] := by rfl) :
    PI X (.Tuple elts kk tpos) (.Call (.Name "enumerate" p) [e] [] pos) (iEnumT X.K ta) := by
  refine ⟨fun pins s σ H R I h => ?_⟩
  refine Call_ (ld_blt I hg hm boot_enumerate (PyProof.Rows.callWith_type1 (thn (ha.run pos pins s σ H _ I h) fun us s1 ⟨vs, H1, I1, r1, q1⟩ => ?_) hs rfl))
  obtain ⟨a, xs, ex, hq, q⟩ := q1
  subst ex
  cases r1 with
  | cons r rr =>
    cases rr
    cases r
    obtain ⟨its, rv, p', hz⟩ := I1.tuple hq
    refine call_enumerate_tup p' fun h' he hit hsz hk => wpAny_pyIter_enum he ?_
    have I2 : Inv X pins σ H1 { s1 with heap := h' } := I1.kept (t' := s1.toks) hk
    refine ⟨s1.heap.objs.size + 1, [s1.heap.objs.size + 1, s1.heap.objs.size], _, _, H1, rfl, I2, turn_enumT a (s1.heap.objs.size + 1) s1.heap.objs.size, ⟨⟨.none, he⟩, hit, Nat.succ_ne_self _⟩, fun b hb => ?_, q⟩
    have e' : b = s1.heap.objs.size + 1 ∨ b = s1.heap.objs.size := by simpa using hb
    have hle : s1.heap.objs.size ≤ b := by
      rcases e' with z | z
      · rw [z]; exact Nat.le_add_right _ _
      · rw [z]; exact Nat.le_refl _
    exact I1.fpOk hle (I1.hok.fresh hle)
theorem walk_enumT {K : PySem.W.Frag} {a : Addr} {xs : List V} : Walk (IteT K a) xs.length (fun H => SqT K H a xs) (YPair (fun i => some (.int (i : Nat))) (fun i => xs[i]?)) := by
  refine ⟨fun i _ hi q => ⟨xs, xs[i], q, by simp [hi]⟩, fun _ q => ⟨xs, q, Nat.le_refl _⟩, fun i H v H' _ q y => ?_⟩
  obtain ⟨T, x, h1, h2, h3, h4⟩ := y
  exact ⟨T, .int (i : Nat), x, h1, h2, h3, rfl, h4 xs q⟩
theorem walk_zipT {K : PySem.W.Frag} {a b : Addr} {xs ys : List V} {n : Nat} (hn : n = min xs.length ys.length) : Walk (RZ.ItzT K a b) n (fun H => SqT K H a xs ∧ SqT K H b ys) (YPair (fun i => xs[i]?) (fun i => ys[i]?)) := by
  subst hn
  refine ⟨fun i _ hi q => ?_, fun _ q => ⟨xs, ys, q.1, q.2, by omega⟩, fun i H v H' _ q y => ?_⟩
  · have h1 : i < xs.length := by omega
    have h2 : i < ys.length := by omega
    exact ⟨xs, ys, xs[i], ys[i], q.1, q.2, by simp [h1], by simp [h2]⟩
  · obtain ⟨T, x, z, h1, h2, h3, h4, h5⟩ := y
    exact ⟨T, x, z, h1, h2, h3, h4 xs q.1, h5 ys q.2⟩
end HG

set_option maxHeartbeats 4000000
/-! HL: ints and bools alike: x + i, x - i, int(x), str(x). -/
namespace HG
open PySem PySem.Spec PyProof.Rows L2
def b2I (b : Bool) : Int := if b = true then 1 else 0
section
variable {X : Cx}
def rB (g : Int → Int → V) : R2 := fun x y H Q => ∃ b j, x = .bl b ∧ y = .int j ∧ Q (g (b2I b) j) H
theorem op_addBI : OpR X (binaryOp .Add) (rB fun i j => .int (i + j)) := by
  intro pins s σ H x y v u Q I rx ry h
  obtain ⟨b, j, rfl, rfl, q⟩ := h
  obtain rfl : v = .bool b := rx
  obtain ⟨t, rfl⟩ := ry
  exact PySem.IntBool.add_bool_int ⟨.int _, H, I.tok _, ⟨_, rfl⟩, q⟩
theorem op_subBI : OpR X (binaryOp .Sub) (rB fun i j => .int (i - j)) := by
  intro pins s σ H x y v u Q I rx ry h
  obtain ⟨b, j, rfl, rfl, q⟩ := h
  obtain rfl : v = .bool b := rx
  obtain ⟨t, rfl⟩ := ry
  exact PySem.IntBool.sub_bool_int ⟨.int _, H, I.tok _, ⟨_, rfl⟩, q⟩
theorem op_addIB : OpR X (binaryOp .Add) (fun x y H Q => (rI0 fun i j => .int (i + j)) x y H Q ∨ (rB fun i j => .int (i + j)) x y H Q) := op_add.or op_addBI
theorem op_subIB : OpR X (binaryOp .Sub) (fun x y H Q => (rI0 fun i j => .int (i - j)) x y H Q ∨ (rB fun i j => .int (i - j)) x y H Q) := op_sub.or op_subBI
def rIntIB : List V → Hp → VK → Prop := fun xs H Q => (∃ i, xs = [.int i] ∧ Q (.int i) H) ∨ ∃ b, xs = [.bl b] ∧ Q (.int (b2I b)) H
theorem call_intIB : CallR X (.type "int") rIntIB := by
  intro pins s σ H xs us Q I r h
  rcases h with ⟨i, rfl, q⟩ | ⟨b, rfl, q⟩
  · obtain ⟨u, rfl, t, rfl⟩ := vals1 r
    exact PySem.call_int_int ⟨.int _, H, I, ⟨_, rfl⟩, q⟩
  · obtain ⟨u, rfl, r1⟩ := vals1 r
    obtain rfl : u = .bool b := r1
    exact PySem.call_int_bool ⟨.int _, H, I.tok _, ⟨_, rfl⟩, q⟩
def bText (b : Bool) : Str := if b then "True" else "False"
def rStrIB : List V → Hp → VK → Prop := fun xs H Q => (∃ i, xs = [.int i] ∧ i.natAbs.log2 < 1920 ∧ Q (.str (toString i)) H) ∨ ∃ b, xs = [.bl b] ∧ Q (.str (bText b)) H
theorem call_strIB : CallR X (.type "str") rStrIB := by
  intro pins s σ H xs us Q I r h
  rcases h with h | ⟨b, rfl, q⟩
  · exact call_str_int pins s σ H xs us Q I r h
  · obtain ⟨u, rfl, r1⟩ := vals1 r
    obtain rfl : u = .bool b := r1
    exact PySem.P.str_of_bool ⟨.str _, H, I.tok _, ⟨_, rfl⟩, q⟩
end
end HG

set_option maxHeartbeats 4000000
/-! HD: data without lists stays, whatever lists and dicts do. -/
namespace HG
open PySem PySem.Spec PyProof.Rows L2 LamX
mutual
def noL : PyData → Bool
  | .list _ => false
  | .dict _ => false
  | .tuple ds => noLAll ds
  | _ => true
def noLAll : List PyData → Bool
  | [] => true
  | d :: ds => noL d && noLAll ds
end
theorem noLAll_mem : ∀ {ds : List PyData}, noLAll ds = true ↔ ∀ d ∈ ds, noL d = true
  | [] => by simp [noLAll]
  | d :: ds => by
    simp only [noLAll, Bool.and_eq_true, List.mem_cons, forall_eq_or_imp, noLAll_mem (ds := ds)]
theorem noL_tup {ds : List PyData} : noL (.tuple ds) = true ↔ ∀ d ∈ ds, noL d = true := by
  simp only [noL]
  exact noLAll_mem
/-- what never changes stays -/
structure KT (H H' : Hp) : Prop where
  t : ∀ b xs, H b = some (.tup xs) → H' b = some (.tup xs)
  f : ∀ b o u, H b = some (.frz o u) → H' b = some (.frz o u)
section
variable {K : PySem.W.Frag} {H H1 H2 : Hp} {a : Addr}
theorem KT.refl (H : Hp) : KT H H := ⟨fun _ _ h => h, fun _ _ _ h => h⟩
theorem KT.trans (x : KT H H1) (y : KT H1 H2) : KT H H2 := ⟨fun b xs h => y.t b xs (x.t b xs h), fun b o u h => y.f b o u (x.f b o u h)⟩
theorem KT.of (s : Same H H1) : KT H H1 := ⟨fun b xs h => s _ _ h, fun b o u h => s _ _ h⟩
theorem KT.ext (s : ExtN H H1) : KT H H1 := ⟨fun b xs h => s _ _ h (fun _ z => by cases z), fun b o u h => s _ _ h (fun _ z => by cases z)⟩
theorem KT.lst {l : List V} {o : HO} (h : H a = some (.lst l)) : KT H (upd H a o) :=
  ⟨fun b xs e => by rw [upd_ne (fun z => by rw [z, h] at e; cases e)]; exact e, fun b o u e => by rw [upd_ne (fun z => by rw [z, h] at e; cases e)]; exact e⟩
theorem KT.dK {l : List (Key × V)} {o : HO} (h : H a = some (.dK l)) : KT H (upd H a o) :=
  ⟨fun b xs e => by rw [upd_ne (fun z => by rw [z, h] at e; cases e)]; exact e, fun b o u e => by rw [upd_ne (fun z => by rw [z, h] at e; cases e)]; exact e⟩
theorem KT.new {o : HO} (h : H a = none) : KT H (upd H a o) := KT.of fun b u e => upd_get h e
mutual
theorem dp_kt (k : KT H H1) : ∀ (D : PyData) (v : V), noL D = true → Dp K H v D → Dp K H1 v D
  | .none, _, _, h => by cases h; exact .non
  | .bool b, _, _, h => by cases h; exact .bl b
  | .int i, _, _, h => by cases h; exact .int i
  | .str x, _, _, h => by cases h; exact .str x
  | .list _, _, n, _ => by simp [noL] at n
  | .dict _, _, n, _ => by simp [noL] at n
  | .tuple ds, _, n, h => by
    cases h with
    | tup s a =>
      refine .tup ?_ (dpAll_kt k ds _ (by simpa only [noL] using n) a)
      rcases s with (s | ⟨o, s⟩) | s
      · exact .inl (.inl (k.t _ _ s))
      · exact .inl (.inr ⟨o, k.f _ _ _ s⟩)
      · exact .inr s
theorem dpAll_kt (k : KT H H1) : ∀ (ds : List PyData) (vs : List V), noLAll ds = true → DpAll K H vs ds → DpAll K H1 vs ds
  | [], _, _, h => by cases h; exact .nil
  | d :: ds, _, n, h => by
    simp only [noLAll, Bool.and_eq_true] at n
    cases h with
    | cons x y => exact .cons (dp_kt k d _ n.1 x) (dpAll_kt k ds _ n.2 y)
end
theorem sqT_kt {xs : List V} (k : KT H H1) (h : SqT K H a xs) : SqT K H1 a xs := by
  rcases h with (s | ⟨o, s⟩) | s
  · exact .inl (.inl (k.t _ _ s))
  · exact .inl (.inr ⟨o, k.f _ _ _ s⟩)
  · exact .inr s
/-- the frames of a function that reads and makes: all that was there stays, but for tables -/
theorem extN_same {H H1 H2 : Hp} (x : ExtN H H1) (y : Same H1 H2) : ExtN H H2 := x.trans (ExtN.of y)
end
theorem cutP_to (ds : List PyData) (i : Nat) : cutP ds none (some (i : Int)) = ds.take i := by
  unfold cutP
  have e1 : HT.sIx ds.length 0 none = 0 := rfl
  rw [e1, HT.sIx_nat, List.drop_zero, Nat.sub_zero]
  by_cases h : i ≤ ds.length
  · rw [Nat.min_eq_left h]
  · rw [Nat.min_eq_right (by omega), List.take_length, List.take_of_length_le (by omega)]
theorem cutP_from (ds : List PyData) (i : Nat) : cutP ds (some (i : Int)) none = ds.drop i := by
  unfold cutP
  have e1 : HT.sIx ds.length ds.length none = ds.length := rfl
  rw [e1, HT.sIx_nat]
  by_cases h : i ≤ ds.length
  · rw [Nat.min_eq_left h, List.take_of_length_le (by rw [List.length_drop]; omega)]
  · rw [Nat.min_eq_right (by omega), List.drop_length, List.drop_of_length_le (by omega), List.take_nil]
section
variable {X : Cx} {K : PySem.W.Frag}
/-- t[-1] -/
def rLastP (K : PySem.W.Frag) : R2 := fun x y H Q => ∃ ds d, Dp K H x (.tuple ds) ∧ y = .int (-1) ∧ ds.getLast? = some d ∧ ∀ z, Dp K H z d → Q z H
theorem ix_lastP (hK : X.K = K) : IxR X (rLastP K) := by
  subst hK
  intro value slice pins s σ H x y v u Q I rx ry h hs
  obtain ⟨ds, d, hx, rfl, hd, q⟩ := h
  cases hx with
  | @tup a xs _ sa ha =>
    have hl := dpAll_len ha
    have hne : 0 < ds.length := by
      cases ds with
      | nil => cases hd
      | cons => simp
    rw [List.getLast?_eq_getElem?] at hd
    obtain ⟨z, hz, hzd⟩ := dpAll_getD ha hd
    refine ix_tup value slice pins s σ H _ _ v u Q I rx ry ⟨a, xs, -1, z, rfl, rfl, sa, ?_, q z hzd⟩ hs
    unfold atI
    have e : ixN xs.length (-1) = some (ds.length - 1) := by
      unfold ixN
      rw [hl]
      have h1 : ¬ (0 ≤ (-1 : Int)) := by omega
      simp
      omega
    rw [e]
    exact hz
end
end HG

set_option maxHeartbeats 4000000
/-! HI: lists made of data by comprehensions. -/
namespace HG
open PySem PySem.Spec PyProof.Rows L2
abbrev LcC (J : It) (g : TG) (tt : TT) (te : TE) (vs : List Nat) (σ : L2.St) (H1 : Hp) (D : Addr) (Qd : Hp → Prop) : Prop :=
  ∃ W : Nat → Nat → Hp → Prop, (∃ m, W 0 m (upd H1 D (.lst []))) ∧ ∀ i m H, W i m H → (J.stop i H ∧ Qd H) ∨ (J.go i H ∧ ∃ Nx : Hp → Prop, (∀ H', Nx H' → ∃ m', m' < m ∧ W (i + 1) m' H') ∧ ∀ x H', J.yld i H x H' →
    g x (wipe σ vs) H' fun σ2 H2 => wipe σ2 vs = wipe σ vs ∧ tt σ2 H2 fun b H3 => if b = true then te σ2 H3 fun y H4 => ∃ acc, H4 D = some (.lst acc) ∧ acc.length < sizeLine ∧ Nx (upd H4 D (.lst (acc ++ [y]))) else Nx H3)
theorem small_line {n : Nat} (h : n ≤ 1000000) : n < sizeLine := by rw [sizeLine_eq]; omega
theorem sqT_same {K : PySem.W.Frag} {H H' : Hp} {a : Addr} {xs : List V} (s : Same H H') (h : SqT K H a xs) : SqT K H' a xs := sqT_kt (KT.of s) h
theorem dpAll_map_get {K : PySem.W.Frag} {H : Hp} {α : Type} {f : α → PyData} {xs : List V} {as : List α} {i : Nat} {x : V} (h : DpAll K H xs (as.map f)) (hx : xs[i]? = some x) : ∃ a, as[i]? = some a ∧ Dp K H x (f a) := by
  obtain ⟨d, hd, hxd⟩ := dpAll_get h hx
  rw [List.getElem?_map] at hd
  obtain ⟨a, ha, rfl⟩ := Option.map_eq_some_iff.mp hd
  exact ⟨a, ha, hxd⟩
theorem noLAll_map {α : Type} {f : α → PyData} {as : List α} (h : ∀ a ∈ as, noL (f a) = true) : noLAll (as.map f) = true := noLAll_mem.mpr fun d hd => by
  obtain ⟨a, ha, rfl⟩ := List.mem_map.mp hd
  exact h a ha
section
variable {K : PySem.W.Frag} {H : Hp} {a D : Addr} {xs : List V} {α : Type} {as : List α} {g0 f : α → PyData} {g : TG} {tt : TT} {te : TE} {vs : List Nat} {σ : L2.St} {Qd : Hp → Prop}
/-- one more of new data -/
theorem mk_step {H3 H4 : Hp} {ys : List V} {ds : List PyData} {y : V} {d : PyData} (hD : H D = none) (hD3 : H3 D = some (.lst ys)) (hY : DpAll K H3 ys ds) (hn : noLAll ds = true) (s3 : Same H H3) (s4 : Same H3 H4) (hy : Dp K H4 y d) (hnd : noL d = true) :
    H4 D = some (.lst ys) ∧ DpAll K (upd H4 D (.lst (ys ++ [y]))) (ys ++ [y]) (ds ++ [d]) ∧ Same H (upd H4 D (.lst (ys ++ [y]))) := by
  have hD4 := s4 _ _ hD3
  refine ⟨hD4, dpAll_app (dpAll_kt ((KT.of s4).trans (KT.lst hD4)) _ _ hn hY) (.cons (dp_kt (KT.lst hD4) _ _ hnd hy) .nil), fun b o h => ?_⟩
  rw [upd_ne (ne_of_none h hD)]
  exact s4 _ _ (s3 _ _ h)
/-- [f(x) for x in tuple] -/
theorem lc_mk (sq : SqT K H a xs) (hA : DpAll K H xs (as.map g0)) (hl : as.length ≤ 1000000) (hD : H D = none) (hn : ∀ e ∈ as, noL (f e) = true)
    (hs : ∀ (x : V) (e : α) (H3 : Hp) (QQ : VK) (R : Hp → Prop), e ∈ as → Dp K H x (g0 e) → Same H H3 → (∀ y H4, Dp K H4 y (f e) → Same H3 H4 → QQ y H4) →
      g x (wipe σ vs) H3 fun σ2 H2 => wipe σ2 vs = wipe σ vs ∧ tt σ2 H2 fun b H3 => if b = true then te σ2 H3 QQ else R H3)
    (hd : ∀ H3 ys, H3 D = some (.lst ys) → DpAll K H3 ys (as.map f) → Same H H3 → Qd H3) : LcC (Itt K a) g tt te vs σ H D Qd := by
  have hlen := dpAll_len hA
  rw [List.length_map] at hlen
  refine lc_tup (xs := xs) (fun i H3 => ∃ ys, H3 D = some (.lst ys) ∧ DpAll K H3 ys ((as.take i).map f) ∧ Same H H3) ⟨[], upd_same, .nil, fun b o h => upd_get hD h⟩ ?_ ?_ ?_
  · rintro i H3 _ ⟨_, _, _, s3⟩
    exact sqT_same s3 sq
  · rintro i x H3 hx ⟨ys, hD3, hY, s3⟩
    obtain ⟨e, he, hxe⟩ := dpAll_map_get hA hx
    have hi : i < as.length := (List.getElem?_eq_some_iff.mp he).1
    refine hs x e H3 _ _ (List.mem_of_getElem? he) hxe s3 fun y H4 hy s4 => ?_
    have hyl := dpAll_len hY
    rw [List.length_map, List.length_take] at hyl
    obtain ⟨m1, m2, m3⟩ := mk_step hD hD3 hY (noLAll_map fun e he => hn e (List.mem_of_mem_take he)) s3 s4 hy (hn e (List.mem_of_getElem? he))
    refine ⟨_, m1, small_line (by omega), _, upd_same, ?_, m3⟩
    have e2 : (as.take (i + 1)).map f = (as.take i).map f ++ [f e] := by
      rw [List.take_add_one, he, List.map_append]
      rfl
    rw [e2]
    exact m2
  · rintro H3 ⟨ys, hD3, hY, s3⟩
    rw [hlen, List.take_length] at hY
    exact hd H3 ys hD3 hY s3
/-- [f(x) for x in list] -/
theorem lc_mkL (sq : SqL K H a xs) (hA : DpAll K H xs (as.map g0)) (hl : as.length ≤ 1000000) (hD : H D = none) (hn : ∀ e ∈ as, noL (f e) = true)
    (hs : ∀ (x : V) (e : α) (H3 : Hp) (QQ : VK) (R : Hp → Prop), e ∈ as → Dp K H x (g0 e) → Same H H3 → (∀ y H4, Dp K H4 y (f e) → Same H3 H4 → QQ y H4) →
      g x (wipe σ vs) H3 fun σ2 H2 => wipe σ2 vs = wipe σ vs ∧ tt σ2 H2 fun b H3 => if b = true then te σ2 H3 QQ else R H3)
    (hd : ∀ H3 ys, H3 D = some (.lst ys) → DpAll K H3 ys (as.map f) → Same H H3 → Qd H3) : LcC (Itl K a) g tt te vs σ H D Qd := by
  have hlen := dpAll_len hA
  rw [List.length_map] at hlen
  refine lc_list (xs := xs) (fun i H3 => ∃ ys, H3 D = some (.lst ys) ∧ DpAll K H3 ys ((as.take i).map f) ∧ Same H H3) ⟨[], upd_same, .nil, fun b o h => upd_get hD h⟩ ?_ ?_ ?_
  · rintro i H3 _ ⟨_, _, _, s3⟩
    exact Same.seq s3 sq
  · rintro i x H3 hx ⟨ys, hD3, hY, s3⟩
    obtain ⟨e, he, hxe⟩ := dpAll_map_get hA hx
    have hi : i < as.length := (List.getElem?_eq_some_iff.mp he).1
    refine hs x e H3 _ _ (List.mem_of_getElem? he) hxe s3 fun y H4 hy s4 => ?_
    have hyl := dpAll_len hY
    rw [List.length_map, List.length_take] at hyl
    obtain ⟨m1, m2, m3⟩ := mk_step hD hD3 hY (noLAll_map fun e he => hn e (List.mem_of_mem_take he)) s3 s4 hy (hn e (List.mem_of_getElem? he))
    refine ⟨_, m1, small_line (by omega), _, upd_same, ?_, m3⟩
    have e2 : (as.take (i + 1)).map f = (as.take i).map f ++ [f e] := by
      rw [List.take_add_one, he, List.map_append]
      rfl
    rw [e2]
    exact m2
  · rintro H3 ⟨ys, hD3, hY, s3⟩
    rw [hlen, List.take_length] at hY
    exact hd H3 ys hD3 hY s3
end
end HG

set_option maxHeartbeats 4000000
/-! HSum: sum(lists, []). -/
namespace HG
open PySem PySem.Spec PyProof.Rows L2
def LAt (h : Heap) (b : Addr) (xs : List Value) : Prop := ∃ n, h.get? b = some { cls := .type "list", dict := none, data := .seq xs.toArray n, slots := #[] }
def restF (ls : Nat → List Value) (i : Nat) : Nat → List Value
  | 0 => []
  | k + 1 => ls i ++ restF ls (i + 1) k
section
variable {prog : Program} {w : World} {A : Around} {R : Result → Shared → Prop}
theorem sumL_loop (hh : A.handled = none) {I ax : Addr} (hne : ax ≠ I) (items : Array Value) (bs : Nat → Addr) (ls : Nat → List Value) (hval : ∀ (i : Nat) (v : Value), items[i]? = some v → v = .ref (bs i)) (S B : Addr) (hSI : S ≠ I) (hSa : S ≠ ax) (hB : B ≤ S) :
    ∀ (k i : Nat) (s : Shared) (t : Addr) (cur : List Value) (c : Nat), items.size - i = k → i ≤ items.size → (s.heap.IsListIter I ax i ∧ s.heap.IsList ax items) → s.heap.get? S = some { cls := .type "list", dict := none, data := .seq #[.ref t] c, slots := #[] } →
    LAt s.heap t cur → t ≠ I → t ≠ S → (∀ j, j < items.size → LAt s.heap (bs j) (ls j) ∧ bs j ≠ I ∧ bs j ≠ S) → cur.length + (restF ls i k).length ≤ sizeLine →
    (∀ h' tk t', (∀ b o, b ≠ I → b ≠ S → s.heap.get? b = some o → h'.get? b = some o) → LAt h' t' (cur ++ restF ls i k) → (t' = t ∧ k = 0 ∨ B ≤ t') → R (.ok (.ret (.ref t'))) { s with heap := h', toks := tk }) →
    codeAny (model prog w) A (.builtin "sum.loop" ⟨[.ref I, .ref S, rawInt 2, rawInt 0], []⟩) R s := by
  have W := Walks.list (prog := prog) (w := w) (A := A.in1) hh I ax hne items
  intro k
  induction k with
  | zero =>
    intro i s t cur c hk hi hst hS ht tI tS hb hz hR
    have hin : i = items.size := by omega
    subst hin
    refine codeAny_builtin F.entry_sum_loop ?_
    rw [Around.under_plainId F.plain_sum_loop _]
    show wpAny _ A.in1 (seqItems? (.ref S) >>= _) _ _ s
    refine wpAny_bind (wpAny_seqItems hS rfl ?_)
    show wpAny _ A.in1 (tryCatch (pyNext (.ref I)) _ >>= _) _ _ s
    refine wpAny_bind (wpAny_tryCatch (W.done s _ _ hst fun h' tk hk' => ?_))
    refine wpAny_pure (hR h' tk t (fun b o hb1 _ e => hk' b o (by simpa using hb1) e) ?_ (.inl ⟨rfl, rfl⟩))
    obtain ⟨m, e⟩ := ht
    refine ⟨m, ?_⟩
    show h'.get? t = some { cls := .type "list", dict := none, data := .seq (cur ++ []).toArray m, slots := #[] }
    rw [List.append_nil]
    exact hk' _ _ (by simpa using tI) e
  | succ k ih =>
    intro i s t cur c hk hi hst hS ht tI tS hb hz hR
    have hlt : i < items.size := by omega
    refine codeAny_builtin F.entry_sum_loop ?_
    rw [Around.under_plainId F.plain_sum_loop _]
    show wpAny _ A.in1 (seqItems? (.ref S) >>= _) _ _ s
    refine wpAny_bind (wpAny_seqItems hS rfl ?_)
    show wpAny _ A.in1 (tryCatch (pyNext (.ref I)) _ >>= _) _ _ s
    refine wpAny_bind (wpAny_tryCatch (W.item i s _ _ hlt hst fun v h' tk hP hst' hk' => ?_))
    have ev := hval i v hP
    subst ev
    have kp : ∀ b o, b ≠ I → s.heap.get? b = some o → h'.get? b = some o := fun b o hbI e => hk' b o (by simpa using hbI) e
    obtain ⟨mt, et⟩ := ht
    obtain ⟨⟨mb, eb⟩, bI, bS⟩ := hb i hlt
    have et' := kp _ _ tI et
    have eb' := kp _ _ bI eb
    have hS' := kp _ _ hSI hS
    have hz2 : cur.length + ((ls i).length + (restF ls (i + 1) k).length) ≤ sizeLine := by
      have e : (restF ls i (k + 1)).length = (ls i).length + (restF ls (i + 1) k).length := by simp [restF]
      rw [e] at hz
      exact hz
    show wpAny _ A.in1 (Sem.attempt (holding [.ref (bs i)] (binaryOp .Add (.ref t) (.ref (bs i)))) >>= _) _ _ _
    refine wpAny_bind (wpAny_attempt (wpAny_holding (PySem.P.add_list (s := { s with heap := h', toks := tk }) et' eb' ?_ (by simp; omega))))
    have hSl : S < h'.objs.size := Heap.lt_size hS'
    have hS2 : (h'.push { cls := .type "list", data := .seq (cur.toArray ++ (ls i).toArray) }).get? S = some { cls := .type "list", dict := none, data := .seq #[.ref t] c, slots := #[] } := Heap.get?_push_of_some _ hS'
    have hIl : I < h'.objs.size := by
      obtain ⟨o, e, _⟩ := hst'.1
      exact Heap.lt_size e
    have hal : ax < h'.objs.size := by
      obtain ⟨o, e, _⟩ := hst'.2
      exact Heap.lt_size e
    show wpAny _ A.in1 (updateSeq S (fun _ => #[.ref h'.objs.size]) >>= _) _ _ _
    refine wpAny_bind (wpAny_updateSeq hS2 rfl (wpAny_bind (wpAny_letGo ?_)))
    show wpAny _ A.in1 (updateSeq S (fun _ => #[.ref h'.objs.size]) >>= _) _ _ _
    refine wpAny_bind (wpAny_updateSeq (Heap.get?_update_self _ hS2 rfl) rfl (wpAny_pure ⟨plainId_quiet F.plain_sum_loop _, ?_⟩))
    have old : ∀ b o, b ≠ S → h'.get? b = some o → ∀ (f1 f2 : Obj → Obj), (((h'.push { cls := .type "list", data := .seq (cur.toArray ++ (ls i).toArray) }).update S f1).update S f2).get? b = some o := fun b o hbS e f1 f2 =>
      (Heap.get?_update_other _ _ (Ne.symm hbS)).trans ((Heap.get?_update_other _ _ (Ne.symm hbS)).trans (Heap.get?_push_of_some _ e))
    have newL : ∀ (f1 f2 : Obj → Obj), (((h'.push { cls := .type "list", data := .seq (cur.toArray ++ (ls i).toArray) }).update S f1).update S f2).get? h'.objs.size = some { cls := .type "list", data := .seq (cur.toArray ++ (ls i).toArray) } := fun f1 f2 =>
      (Heap.get?_update_other _ _ (Nat.ne_of_lt hSl)).trans ((Heap.get?_update_other _ _ (Nat.ne_of_lt hSl)).trans (Heap.get?_push_size _ rfl))
    refine ih (i + 1) _ h'.objs.size (cur ++ ls i) _ (by omega) hlt ⟨hst'.1.at fun o e => old _ _ (Ne.symm hSI) e _ _, hst'.2.at fun o e => old _ _ (Ne.symm hSa) e _ _⟩ (Heap.get?_update_self _ (Heap.get?_update_self _ hS2 rfl) rfl) ⟨0, ?_⟩ (Nat.ne_of_gt hIl) (Nat.ne_of_gt hSl) (fun j hj => ?_) ?_ fun h2 tk2 t2 hk2 hL2 hn2 => ?_
    · have := newL (Obj.mapSeq fun _ => #[.ref h'.objs.size]) (Obj.mapSeq fun _ => #[.ref h'.objs.size])
      simpa using this
    · obtain ⟨⟨mj, ej⟩, jI, jS⟩ := hb j hj
      exact ⟨⟨mj, old _ _ jS (kp _ _ jI ej) _ _⟩, jI, jS⟩
    · rw [List.length_append]
      omega
    · refine hR h2 tk2 t2 (fun b o hbI hbS e => hk2 b o hbI hbS (old _ _ hbS (kp _ _ hbI e) _ _)) ?_ (.inr ?_)
      · obtain ⟨m, e⟩ := hL2
        refine ⟨m, ?_⟩
        show h2.get? t2 = some { cls := .type "list", dict := none, data := .seq (cur ++ (ls i ++ restF ls (i + 1) k)).toArray m, slots := #[] }
        rw [← List.append_assoc]
        exact e
      · rcases hn2 with ⟨z, _⟩ | z
        · rw [z]
          exact Nat.le_of_lt (Nat.lt_of_le_of_lt hB hSl)
        · exact z
end
theorem sub_list_str : isSubtype (.type "list") (.type "str") = pure false := by rw [isSubtype_type]; kernel_rfl
theorem sub_list_bytes : isSubtype (.type "list") (.type "bytes") = pure false := by rw [isSubtype_type]; kernel_rfl
theorem sub_list_bytearray : isSubtype (.type "list") (.type "bytearray") = pure false := by rw [isSubtype_type]; kernel_rfl
theorem args_sum2 (a b : Value) : argsOk "sum" ⟨[a, b], []⟩ := by unfold argsOk; kernel_rfl
section
variable {prog : Program} {w : World} {A : Around} {E : Value → Shared → Prop} {s : Shared}
theorem sum_lists_raw (hh : A.handled = none) {l z : Addr} {items : Array Value} (hl : s.heap.IsList l items) (hz0 : LAt s.heap z []) (bs : Nat → Addr) (ls : Nat → List Value) (hval : ∀ (i : Nat) (v : Value), items[i]? = some v → v = .ref (bs i))
    (hb : ∀ j, j < items.size → LAt s.heap (bs j) (ls j)) (h0 : 0 < items.size) (hz : (restF ls 0 items.size).length ≤ sizeLine) {Q : Value → Shared → Prop}
    (h : ∀ h' tk t', (∀ b o, s.heap.get? b = some o → h'.get? b = some o) → s.heap.objs.size ≤ t' → LAt h' t' (restF ls 0 items.size) → Q (.ref t') { s with heap := h', toks := tk }) :
    wpAny (model prog w) A (call (.builtin "sum") [.ref l, .ref z]) Q E s := by
  refine call_function_tree F.kind_sum F.plain_sum F.entry_sum (args_sum2 _ _) ?_
  unfold Builtin.«sum»
  simp only [List.length_cons, List.length_nil]
  rw [if_neg (by decide)]
  refine wpAny_bind (wpAny_of_eq (show Builtin.Builtins.bindParams "sum" ["start"] 0 ⟨[.ref z], []⟩ = pure [some (.ref z)] from rfl) ?_)
  refine wpAny_bind (wpAny_pyIter_list hl ?_)
  refine wpAny_bind (wpAny_pure ?_)
  obtain ⟨mz, ez⟩ := hz0
  have hT : Shared.TypeIs { s with heap := s.heap.push { cls := .type "list_iterator", data := .fields #[.ref l, .int 0 0] } } (.ref z) "list" := ⟨_, Heap.get?_push_of_some _ ez, rfl⟩
  simp only [List.forIn_cons, List.forIn_nil]
  refine wpAny_bind (wpAny_bind (wpAny_bind (wpAny_isInstance (T := "list") (b := false) hT sub_list_str ?_)))
  simp only [Bool.false_eq_true, if_false]
  refine wpAny_pure (wpAny_bind (wpAny_bind (wpAny_isInstance (T := "list") (b := false) hT sub_list_bytes ?_)))
  simp only [Bool.false_eq_true, if_false]
  refine wpAny_pure (wpAny_bind (wpAny_bind (wpAny_isInstance (T := "list") (b := false) hT sub_list_bytearray ?_)))
  simp only [Bool.false_eq_true, if_false]
  refine wpAny_pure (wpAny_pure ?_)
  refine wpAny_bind (wpAny_newObj_type ?_)
  have hll : l < s.heap.objs.size := by
    obtain ⟨o, e, _⟩ := hl
    exact Heap.lt_size e
  have hsz : (s.heap.push { cls := .type "list_iterator", data := .fields #[.ref l, .int 0 0] }).objs.size = s.heap.objs.size + 1 := Heap.size_push ..
  have lt : ∀ {b : Addr} {o : Obj}, s.heap.get? b = some o → b ≠ s.heap.objs.size ∧ b ≠ (s.heap.push { cls := .type "list_iterator", data := .fields #[.ref l, .int 0 0] }).objs.size := fun {b o} e => by
    have := Heap.lt_size e
    rw [hsz]
    exact ⟨Nat.ne_of_lt this, Nat.ne_of_lt (Nat.lt_succ_of_lt this)⟩
  refine wpAny_pure ⟨plainId_quiet F.plain_sum_loop _, sumL_loop hh (I := s.heap.objs.size) (ax := l) (Nat.ne_of_lt hll) items bs ls hval _ s.heap.objs.size (by rw [hsz]; exact Nat.succ_ne_self _) (by rw [hsz]; exact Nat.ne_of_gt (Nat.lt_succ_of_lt hll)) (by rw [hsz]; exact Nat.le_succ _) items.size 0 _ z [] 0 (by omega) (Nat.zero_le _)
    ⟨?_, ?_⟩ (Heap.get?_push_size _ rfl) ⟨mz, Heap.get?_push_of_some _ (Heap.get?_push_of_some _ ez)⟩ (lt ez).1 (lt ez).2 (fun j hj => ?_) (by simpa using hz) fun h' tk t' hk hL hn => ?_⟩
  · exact ⟨_, Heap.get?_push_of_some _ (Heap.get?_push_size _ rfl), rfl, rfl⟩
  · exact hl.at fun o e => Heap.get?_push_of_some _ (Heap.get?_push_of_some _ e)
  · obtain ⟨m, e⟩ := hb j hj
    exact ⟨⟨m, Heap.get?_push_of_some _ (Heap.get?_push_of_some _ e)⟩, (lt e).1, (lt e).2⟩
  · refine h h' tk t' (fun b o e => hk b o (lt e).1 (lt e).2 (Heap.get?_push_of_some _ (Heap.get?_push_of_some _ e))) ?_ hL
    rcases hn with ⟨_, z⟩ | z
    · omega
    · exact z
end
/-! ### as a rule -/
def rSumL : List V → Hp → VK → Prop := fun vs H Q => ∃ (a z : Addr) (bs : List Addr) (xss : List (List V)), vs = [.ref a, .ref z] ∧ H a = some (.lst (bs.map V.ref)) ∧ H z = some (.lst []) ∧ bs.length = xss.length ∧ 0 < bs.length ∧ xss.flatten.length ≤ sizeLine ∧
  (∀ (i : Nat) (b : Addr), bs[i]? = some b → ∃ xs, xss[i]? = some xs ∧ H b = some (.lst xs)) ∧ ∀ p, H p = none → Q (.ref p) (upd H p (.lst xss.flatten))
section
variable {X : Cx}
theorem vals_flat : ∀ {xss : List (List V)} {uss : List (List Value)}, Paired (fun xs us => Vals xs us) xss uss → Vals xss.flatten uss.flatten
  | [], _, .nil => .nil
  | _ :: _, _ :: _, .cons r t => by
    rw [List.flatten_cons, List.flatten_cons]
    exact r.append (vals_flat t)
theorem restF_eq (g : Nat → List Value) : ∀ (uss : List (List Value)) (i : Nat), (∀ (j : Nat) (us : List Value), uss[j]? = some us → g (i + j) = us) → restF g i uss.length = uss.flatten
  | [], _, _ => rfl
  | us :: uss, i, h => by
    have h0 := h 0 us rfl
    show g i ++ restF g (i + 1) uss.length = us ++ uss.flatten
    rw [show g i = us from h0, restF_eq g uss (i + 1) fun j u hu => by
      have := h (j + 1) u (by simpa using hu)
      rw [show i + 1 + j = i + (j + 1) by omega]
      exact this]
theorem cr_sumL (hc : X.calm = true) : CallR X (.builtin "sum") rSumL := by
  intro pins s σ H vs us Q I r h
  obtain ⟨a, z, bs, xss, rfl, ha, hz, hlen, h0, hsz, hb, q⟩ := h
  cases r with
  | cons r1 r2 =>
    cases r2 with
    | cons r3 r4 =>
      cases r4
      cases r1
      cases r3
      obtain ⟨_, its, n, rv, hl, e⟩ := I.lstM ha
      obtain ⟨_, itz, nz, rz, hlz, ez⟩ := I.lstM hz
      cases rz
      have hb2 : ∀ i, i < bs.length → ∃ (b : Addr) (us : List Value) (xs : List V), bs[i]? = some b ∧ xss[i]? = some xs ∧ Vals xs us ∧ LAt s.heap b us := fun i hi => by
        have e1 : bs[i]? = some bs[i] := List.getElem?_eq_getElem hi
        obtain ⟨xs, e2, e3⟩ := hb i _ e1
        obtain ⟨_, ui, ni, ri, _, ei⟩ := I.lstM e3
        exact ⟨_, ui, xs, e1, e2, ri, ni, ei⟩
      have hlen2 := rv.length
      rw [List.length_map] at hlen2
      let us : Nat → List Value := fun i => if h : i < bs.length then (hb2 i h).choose_spec.choose else []
      have hus : ∀ i (h : i < bs.length), ∃ (xs : List V), xss[i]? = some xs ∧ Vals xs (us i) ∧ LAt s.heap (bs.getD i 0) (us i) := fun i h => by
        obtain ⟨xs, h1, h2, h3, h4⟩ := (hb2 i h).choose_spec.choose_spec
        have e : us i = (hb2 i h).choose_spec.choose := dif_pos h
        have eb : bs.getD i 0 = (hb2 i h).choose := (List.getD_eq_getElem?_getD ..).trans (congrArg (fun o => Option.getD o 0) h1)
        rw [e, eb]
        exact ⟨xs, h2, h3, h4⟩
      have hP : ∀ (m : Nat) (ys : List (List V)) (i : Nat), i + ys.length = bs.length → (∀ j xs, ys[j]? = some xs → xss[i + j]? = some xs) → Vals ys.flatten (restF us i ys.length) := by
        intro m ys
        induction ys with
        | nil => intro i _ _; exact .nil
        | cons y ys ih =>
          intro i hi hj
          rw [List.length_cons] at hi
          obtain ⟨xs, h1, h2, _⟩ := hus i (by omega)
          have h3 := hj 0 y rfl
          rw [Nat.add_zero, h1] at h3
          cases h3
          show Vals (y :: ys).flatten (us i ++ restF us (i + 1) ys.length)
          rw [List.flatten_cons]
          refine h2.append (ih (i + 1) (by omega) fun j zs hz => ?_)
          have := hj (j + 1) zs (by simpa using hz)
          rw [show i + 1 + j = i + (j + 1) by omega]
          exact this
      have hall := hP 0 xss 0 (by omega) fun j xs h => by rw [Nat.zero_add]; exact h
      have hsize : its.toArray.size = xss.length := by rw [List.size_toArray]; omega
      refine sum_lists_raw (I.ok.hd hc) (items := its.toArray) ⟨_, e, rfl, n, rfl⟩ ⟨nz, ez⟩ (fun i => bs.getD i 0) us (fun i v hv => ?_) (fun j hj => ?_) (by omega) (by rw [hsize, ← hall.length]; exact hsz) fun h' tk t' hk ht hL => ?_
      · have hv : its[i]? = some v := by simpa using hv
        have hi : i < its.length := (List.getElem?_eq_some_iff.mp hv).1
        have e1 : (bs.map V.ref)[i]? = some (.ref (bs.getD i 0)) := by
          rw [List.getElem?_map, List.getElem?_eq_getElem (by omega : i < bs.length), List.getD_eq_getElem?_getD, List.getElem?_eq_getElem (by omega : i < bs.length)]
          rfl
        obtain ⟨u, hu, ru⟩ := rv.get e1
        rw [hv] at hu
        cases hu
        cases ru
        rfl
      · obtain ⟨_, _, _, h4⟩ := hus j (by omega)
        exact h4
      · rw [hsize] at hL
        obtain ⟨m, eL⟩ := hL
        refine ⟨.ref t', _, I.laid (a := t') (h' := h') (t' := tk) hk ht ?_, rfl, q t' (I.hok.fresh ht)⟩
        exact ⟨hsz, _, m, hall, eL⟩
end
end HG

set_option maxHeartbeats 4000000
/-! HSet: set(list of ints), in order. -/
namespace HG
open PySem PySem.Spec PyProof.Rows L2
section
variable {P : Program} {w : World} {A : Around} {E : Value → Shared → Prop} {s : Shared}
set_option maxRecDepth 100000 in
set_option maxHeartbeats 3200000 in
theorem set_listI {l : Addr} {items : Array Value} (ns : List Int) {Q : Value → Shared → Prop} (hh : A.handled = none) (hl : s.heap.IsList l items) (hit : IntsAre items.toList ns) (hb : ns.length + 1 < scanBound)
    (h : ∀ (h' : Heap) (tk c : Nat), SetR w h' s.heap.objs.size (fun j => decide (j ∈ ns)) c → c ≤ ns.length → (∀ b o, s.heap.get? b = some o → h'.get? b = some o) → Q (.ref s.heap.objs.size) { s with heap := h', toks := tk }) :
    wpAny (model P w) A (call (.type "set") [.ref l]) Q E s := by
  have hisz : items.size = ns.length := by
    have q := IntsAre.length hit
    rw [Array.length_toList] at q
    exact q
  obtain ⟨c, tl, hmro⟩ := F.called_set.mro
  have hmade := F.called_set.made
  have hsub := F.called_set.sub
  refine wpAny_call (codeAny_of_tree ?_)
  show wpAny _ _ (callAny (.type "set") _) _ _ _
  refine wpAny_pure ⟨Code.quiet_builtin _ (by decide +kernel), codeAny_builtin F.entry_type_call ?_⟩
  rw [Around.under_plain (weight_type_call_type "set" [.ref l] []) rfl]
  have h1 := F.called_set.notType
  have h2 := F.called_set.canCreate
  have hct := F.typeCall_set_1 (.ref l)
  repeat (any_goals (first | assumption | wp_step))

  refine codeAny_mono (code_set_led1 (.ref l) (E := E) (Q₁ := fun obj s₁ => obj = .ref s.heap.objs.size ∧ s₁ = { s with heap := s.heap.push { cls := .type "set", dict := none, data := .set #[] 0 (.fresh 0 0 (!w.params.followText "set-order")) } }) ⟨rfl, rfl⟩) fun r s₁ hr => ?_
  cases r with
  | error e => exact hr
  | ok fl =>
    cases fl with
    | ret obj =>
      obtain ⟨rfl, rfl⟩ := hr
      have hS : (s.heap.push { cls := .type "set", dict := none, data := .set #[] 0 (.fresh 0 0 (!w.params.followText "set-order")) }).get? s.heap.objs.size = some { cls := .type "set", dict := none, data := .set #[] 0 (.fresh 0 0 (!w.params.followText "set-order")) } := Heap.get?_push_size _ rfl
      have hT : Shared.TypeIs { s with heap := s.heap.push { cls := .type "set", dict := none, data := .set #[] 0 (.fresh 0 0 (!w.params.followText "set-order")) } } (.ref s.heap.objs.size) "set" := ⟨_, hS, rfl⟩
      have hli := F.called_set.init.lookup
      have hbi := F.called_set.init.bind (.ref s.heap.objs.size)
      repeat (any_goals (first | assumption | wp_step))

      refine codeAny_mono (codeAny_call_builtin (R := wants (fun r s₂ => r = .none ∧ ∃ h' tk c, s₂ = { s with heap := h', toks := tk } ∧ SetR w h' s.heap.objs.size (fun j => decide (j ∈ ns)) c ∧ c ≤ ns.length ∧
          (∀ b o, s.heap.get? b = some o → h'.get? b = some o)) E) F.called_set.init.plain F.entry_set_init (check_set_init_1 hT ?_)) fun r₂ s₂ hr₂ => ?_
      · obtain ⟨ol, hol, hcl, nl, hdl⟩ := hl
        obtain ⟨ocls, odict, odata, oslots⟩ := ol
        simp only at hcl hdl
        subst hcl; subst hdl
        have hol' : (s.heap.push { cls := .type "set", dict := none, data := .set #[] 0 (.fresh 0 0 (!w.params.followText "set-order")) }).get? l = some { cls := .type "list", dict := odict, data := .seq items nl, slots := oslots } := Heap.get?_push_of_some _ hol
        have hsls := F.sub_list_set
        have hslf := F.sub_list_frozenset
        have hne : (Value.type "list" == Value.type "dict") = false := by decide
        have hl1 : (s.heap.push { cls := .type "set", dict := none, data := .set #[] 0 (.fresh 0 0 (!w.params.followText "set-order")) }).IsList l items := ⟨_, hol', rfl, nl, rfl⟩
        unfold Builtin.«set.__init__» noKeywords Builtin.Frozenset.updateFrom
        generalize hPI : pyIter = PI
        wp_walk
        subst hPI

        refine wpAny_pyIter_list hl1 ?_
        refine wpAny_bind (wpAny_runValue ?_)
        have hlS : l < s.heap.objs.size := Heap.lt_size hol
        have hh3 : A.in1.in1.in1.handled = none := by simp [hh]
        have hz1 : (s.heap.push { cls := .type "set", dict := none, data := .set #[] 0 (.fresh 0 0 (!w.params.followText "set-order")) }).objs.size = s.heap.objs.size + 1 := Heap.size_push ..
        have hneI : l ≠ (s.heap.push { cls := .type "set", dict := none, data := .set #[] 0 (.fresh 0 0 (!w.params.followText "set-order")) }).objs.size := by
          rw [Heap.size_push]; exact Nat.ne_of_lt (Nat.lt_succ_of_lt hlS)
        have hSf : s.heap.objs.size ∉ [(s.heap.push { cls := .type "set", dict := none, data := .set #[] 0 (.fresh 0 0 (!w.params.followText "set-order")) }).objs.size, l] := by
          rw [Heap.size_push]; simp only [List.mem_cons, List.mem_singleton, List.not_mem_nil, or_false, not_or]
          exact ⟨Nat.ne_of_lt (Nat.lt_succ_self _), Nat.ne_of_gt hlS⟩
        have hval : ∀ (i : Nat) (v : Value), items[i]? = some v → ∃ k t, ns[i]? = some k ∧ v = .int k t := fun i v hv => by
          have hi : i < ns.length := by rw [← hisz]; exact (Array.getElem?_eq_some_iff.mp hv).1
          obtain ⟨t, e⟩ := PyProof.Rows.IntsAre.int_at hit i v (by rw [Array.getElem?_toList]; exact hv)
          refine ⟨ns[i], t, List.getElem?_eq_getElem hi, ?_⟩
          rw [e, List.getD_eq_getElem?_getD, List.getElem?_eq_getElem hi] <;> rfl
        refine set_update_ints ((Walks.list hh3 _ l hneI items).toS) s.heap.objs.size
          hSf ns hisz hb hval (items.size - 0) 0 _ (by omega) (Nat.zero_le _)
          ⟨⟨_, Heap.get?_push_size _ rfl, rfl, rfl⟩, (hl1.push _)⟩ ?hS0 ?hR
        case hS0 =>
          have hget : ((s.heap.push { cls := .type "set", dict := none, data := .set #[] 0 (.fresh 0 0 (!w.params.followText "set-order")) }).push { cls := .type "list_iterator", data := .fields #[.ref l, .int 0 0] }).get? s.heap.objs.size
              = some { cls := .type "set", dict := none, data := .set #[] 0 (.fresh 0 0 (!w.params.followText "set-order")) } := Heap.get?_push_of_some _ hS
          exact ⟨0, Nat.le_refl 0, setR_new_at hget⟩
        case hR =>
          intro s' c' hm hc' hS'
          obtain ⟨h', g2, d', tk', os'⟩ := s'
          have eg : g2 = s.gens := hm.gens
          have ed : d' = s.drawn := hm.drawn
          have eo : os' = s.os := hm.os
          subst eg; subst ed; subst eo
          show wpAny _ _ _ _ _ _
          refine wpAny_pure ?_
          show wpAny _ _ (ret Value.none) _ _ _
          rw [hisz] at hc'
          refine wpAny_pure ⟨rfl, h', tk', c', rfl, hS', hc', fun b o e => ?_⟩
          have hb0 : b < s.heap.objs.size := Heap.lt_size e
          have hb1 : b ≠ s.heap.objs.size := Nat.ne_of_lt hb0
          have hb2 : b ≠ (s.heap.push { cls := .type "set", dict := none, data := .set #[] 0 (.fresh 0 0 (!w.params.followText "set-order")) }).objs.size := by
            rw [Heap.size_push]; exact Nat.ne_of_lt (Nat.lt_succ_of_lt hb0)
          exact hm.heap b o (by simp only [List.mem_cons, List.mem_singleton, List.not_mem_nil, or_false, not_or]; exact ⟨hb1, hb2⟩) (Heap.get?_push_of_some _ (Heap.get?_push_of_some _ e))

      · cases r₂ with
        | error e => exact hr₂
        | ok fl₂ =>
          cases fl₂ with
          | ret r =>
            obtain ⟨rfl, h', tk, c', rfl, hS', hc', hk'⟩ := hr₂
            repeat (any_goals (first | assumption | wp_step))
            exact h _ _ _ hS' hc' hk'
          | _ => exact hr₂.elim
    | _ => exact hr.elim

end
theorem nodup_len : ∀ (n : Nat) (l : List Int), l.Nodup → (∀ k ∈ l, 0 ≤ k ∧ k < (n : Int)) → l.length ≤ n
  | 0, l, _, h => by
    cases l with
    | nil => exact Nat.le_refl _
    | cons a r =>
      have := h a List.mem_cons_self
      omega
  | n + 1, l, hn, h => by
    have h1 := nodup_len n (l.erase (n : Int)) (hn.erase _) fun k hk => by
      have h2 := (hn.mem_erase_iff).mp hk
      have h3 := h k h2.2
      have h4 := h2.1
      omega
    have h2 := List.le_length_erase (a := (n : Int)) (l := l)
    omega
/-- set(l) of a list of ints -/
def rSetLI (K : PySem.W.Frag) (w : World) : List V → Hp → VK → Prop := fun xs H Q => ∃ (l : Addr) (ns : List Int), xs = [V.ref l] ∧ SqL K H l (ns.map V.int) ∧ ns.length + 1 < scanBound ∧
  ∀ (p : Addr) (ks : List Int), H p = none → ks.Nodup → (∀ k, k ∈ ks ↔ k ∈ ns) → Q (.ref p) (upd H p (SetO w p (fun j => decide (j ∈ ns)) ks.length))
theorem cr_setLI {X : Cx} (hc : X.calm = true) : CallR X (.type "set") (rSetLI X.K X.w) := by
  intro pins s σ H vs us Q I r h
  obtain ⟨l, ns, rfl, hq, hb, q⟩ := h
  rw [Vals.ref1 r]
  obtain ⟨its, rv, pl, hz⟩ := I.list hq
  have hi : IntsAre its.toArray.toList ns := ints_of_vals rv
  refine set_listI ns (I.ok.hd hc) pl.isList hi hb fun h' tk c R1 hcn k => ?_
  have ⟨o, es, ep, t, ho, hex, hdt, g, nd, hm2, hb, hf, hn, hr, hl2⟩ := R1
  have hlen : (es.toList.map keyOf).length = c := by rw [List.length_map, Array.length_toList, hn]
  have q2 := q s.heap.objs.size (es.toList.map keyOf) (I.hok.fresh (Nat.le_refl _)) nd fun k => by rw [← hm2 k, decide_eq_true_eq]
  rw [hlen] at q2
  exact ⟨.ref _, _, I.laid (t' := tk) k (Nat.le_refl _) (setO_new R1), rfl, q2⟩
end HG

set_option maxHeartbeats 4000000
/-! P54: objects as data: what is_object says. -/
namespace P54
open PySem HG
abbrev byName : List Str := ["definer", "body", "length", "live", "taken", "writes", "prints", "traps", "ends", "pure", "recursive", "constant", "unread", "result", "signature", "importable"]
abbrev byNum : List Str := ["targets", "writes_by", "pure_by"]
abbrev byPar : List Str := ["unused", "argument"]
def isN : PyData → Bool
  | .int _ => true
  | _ => false
def isNat : PyData → Bool
  | .int i => decide (0 ≤ i)
  | _ => false
def items : PyData → List PyData
  | .tuple ds => ds
  | _ => []
def at_ (d : PyData) (i : Nat) : PyData := (items d).getD i .none
/-- is_question -/
def isQ : PyData → Bool
  | .tuple [.str a, x] => if a ∈ byNum then isN x else decide (a ∈ byName) && isS x
  | .tuple [.str a, y, x] => decide (a ∈ byPar) && (isS y && isN x)
  | _ => false
/-- one key of a question's tuple -/
def key : PyData → L2.Key
  | .int i => Sum.inl i
  | .str z => Sum.inr z
  | _ => Sum.inl 0
def keys (d : PyData) : List L2.Key := (items d).map key
def ltK : L2.Key → L2.Key → Bool
  | .inl i, .inl j => decide (i < j)
  | .inr x, .inr y => decide (x.cps.toList < y.cps.toList)
  | _, _ => false
def lexB : List L2.Key → List L2.Key → Bool
  | [], [] => false
  | [], _ :: _ => true
  | _ :: _, [] => false
  | a :: r, b :: s => if a = b then lexB r s else ltK a b
/-- the three orders that are asked -/
def ltD : PyData → PyData → Bool
  | .int i, .int j => decide (i < j)
  | .str x, .str y => decide (x.cps.toList < y.cps.toList)
  | .tuple xs, .tuple ys => lexB (xs.map key) (ys.map key)
  | _, _ => false
def asc : List PyData → Bool
  | a :: b :: r => ltD a b && asc (b :: r)
  | _ => true
def isSig : PyData → Bool
  | .tuple [.tuple ds, b] => ds.all isNat && (asc ds && isB b)
  | _ => false
def isNamed (n : Nat) (d : PyData) : Bool := isT d && (decide ((items d).length = n) && (isS (at_ d 0) && isSig (at_ d 1)))
def isDer : PyData → Bool
  | .tuple [.tuple _, .tuple _] => true
  | _ => false
def areNamed (n : Nat) (d : PyData) : Bool := isT d && ((items d).all (isNamed n) && asc ((items d).map fun e => at_ e 0))
def areDefs (d : PyData) : Bool := areNamed 4 d && (items d).all fun e => isDer (at_ e 3)
def isFact (d : PyData) : Bool := isT d && (decide ((items d).length = 2) && isQ (at_ d 0))
def areFacts (d : PyData) : Bool := isT d && ((items d).all isFact && asc ((items d).map fun e => at_ e 0))
def isObj (d : PyData) : Bool := isT d && (decide ((items d).length = 5) && (isS (at_ d 0) && (isS (at_ d 1) && (areDefs (at_ d 2) && (areNamed 2 (at_ d 3) && areFacts (at_ d 4))))))
/-! ### questions and their order -/
inductive QS : PyData → Prop
  | num {a : Str} {i : Int} : a ∈ byNum → QS (.tuple [.str a, .int i])
  | name {a z : Str} : a ∈ byName → QS (.tuple [.str a, .str z])
  | par {a z : Str} {i : Int} : a ∈ byPar → QS (.tuple [.str a, .str z, .int i])
theorem qs_of {d : PyData} (h : isQ d = true) : QS d := by
  unfold isQ at h
  split at h
  · rename_i a x
    split at h
    · rename_i ha
      cases x with
      | int i => exact .num ha
      | none => simp [isN] at h
      | bool _ => simp [isN] at h
      | str _ => simp [isN] at h
      | list _ => simp [isN] at h
      | tuple _ => simp [isN] at h
      | dict _ => simp [isN] at h
    · simp only [Bool.and_eq_true, decide_eq_true_eq] at h
      cases x with
      | str z => exact .name h.1
      | none => simp [isS] at h
      | bool _ => simp [isS] at h
      | int _ => simp [isS] at h
      | list _ => simp [isS] at h
      | tuple _ => simp [isS] at h
      | dict _ => simp [isS] at h
  · rename_i a y x
    simp only [Bool.and_eq_true, decide_eq_true_eq] at h
    obtain ⟨ha, hy, hx⟩ := h
    cases y <;> simp [isS] at hy
    cases x <;> simp [isN] at hx
    exact .par ha
  · cases h
theorem isQ_of {d : PyData} (h : QS d) : isQ d = true := by
  cases h with
  | num ha => simp only [isQ, if_pos ha, isN]
  | @name a z ha =>
    have : a ∉ byNum := by
      intro h2
      revert a
      decide +kernel
    simp only [isQ, if_neg this, isS, decide_eq_true ha, Bool.and_self]
  | par ha => simp only [isQ, isS, isN, decide_eq_true ha, Bool.and_self]
theorem num_name {a : Str} (h : a ∈ byNum) : a ∉ byName := by
  revert a
  decide +kernel
theorem num_par {a : Str} (h : a ∈ byNum) : a ∉ byPar := by
  revert a
  decide +kernel
theorem name_par {a : Str} (h : a ∈ byName) : a ∉ byPar := by
  revert a
  decide +kernel
theorem lex_int (i j : Int) (r : List L2.Key) : LexR (Sum.inl i :: r) (Sum.inl j :: r) (lexB (Sum.inl i :: r) (Sum.inl j :: r)) ∨ r ≠ [] := by
  by_cases hr : r = []
  · subst hr
    left
    by_cases h : i = j
    · subst h
      have : lexB [Sum.inl i] [Sum.inl i] = false := by simp [lexB]
      rw [this]
      exact .eq .nn
    · have : lexB [Sum.inl i] [Sum.inl j] = decide (i < j) := by simp [lexB, h, ltK]
      rw [this]
      exact .ii h
  · exact .inr hr
theorem lex_head {a b : Str} (h : a ≠ b) (r s : List L2.Key) : LexR (Sum.inr a :: r) (Sum.inr b :: s) (lexB (Sum.inr a :: r) (Sum.inr b :: s)) := by
  have : lexB (Sum.inr a :: r) (Sum.inr b :: s) = decide (a.cps.toList < b.cps.toList) := by simp [lexB, h, ltK]
  rw [this]
  exact .ss h
theorem lex_eq {a : L2.Key} {r s : List L2.Key} (h : LexR r s (lexB r s)) : LexR (a :: r) (a :: s) (lexB (a :: r) (a :: s)) := by
  have : lexB (a :: r) (a :: s) = lexB r s := by simp [lexB]
  rw [this]
  exact .eq h
theorem lex_i {i j : Int} : LexR [Sum.inl i] [Sum.inl j] (lexB [Sum.inl i] [Sum.inl j]) := (lex_int i j []).resolve_right (fun h => h rfl)
theorem lex_s {x y : Str} {r s : List L2.Key} (h : x = y → LexR r s (lexB r s)) : LexR (Sum.inr x :: r) (Sum.inr y :: s) (lexB (Sum.inr x :: r) (Sum.inr y :: s)) := by
  by_cases e : x = y
  · subst e
    exact lex_eq (h rfl)
  · exact lex_head e r s
theorem lex_nil : LexR [] [] (lexB [] []) := .nn
/-- any two questions may be compared -/
theorem q_lex {d e : PyData} (hd : QS d) (he : QS e) : LexR (keys d) (keys e) (ltD d e) := by
  cases hd with
  | @num a i ha =>
    cases he with
    | @num b j hb => exact lex_s fun _ => lex_i
    | @name b z hb => exact lex_s fun e => absurd hb (num_name (e ▸ ha))
    | @par b z j hb => exact lex_s fun e => absurd hb (num_par (e ▸ ha))
  | @name a y ha =>
    cases he with
    | @num b j hb => exact lex_s fun e => absurd ha (num_name (e ▸ hb))
    | @name b z hb => exact lex_s fun _ => lex_s fun _ => lex_nil
    | @par b z j hb => exact lex_s fun e => absurd hb (name_par (e ▸ ha))
  | @par a y i ha =>
    cases he with
    | @num b j hb => exact lex_s fun e => absurd ha (num_par (e ▸ hb))
    | @name b z hb => exact lex_s fun e => absurd ha (name_par (e ▸ hb))
    | @par b z j hb => exact lex_s fun _ => lex_s fun _ => lex_i
end P54

set_option maxHeartbeats 4000000
/-! P54W: how much data show; places in data. -/
namespace P54
open PySem HG PyProof.Rows
mutual
def Sm (k : Nat) : PyData → Prop
  | .none => True
  | .bool _ => True
  | .int i => -(10 ^ 39 + (k : Int)) ≤ i ∧ i ≤ 10 ^ 39 + (k : Int)
  | .str z => OkS (2000 + k) z
  | .tuple ds => SmAll k ds
  | .list ds => SmAll k ds
  | .dict _ => False
def SmAll (k : Nat) : List PyData → Prop
  | [] => True
  | d :: ds => Sm k d ∧ SmAll k ds
end
mutual
def wt : PyData → Nat
  | .tuple ds => 5 + wtAll ds
  | .list ds => 5 + wtAll ds
  | .none => 5
  | .bool _ => 6
  | .int i => (PyData.shown (.int i)).length + 1
  | .str z => (PyData.shown (.str z)).length + 1
  | .dict _ => 0
def wtAll : List PyData → Nat
  | [] => 0
  | d :: ds => wt d + 2 + wtAll ds
end
structure Fine (k W d : Nat) (D : PyData) : Prop where
  sm : Sm k D
  wt : wt D ≤ W
  dp : D.depth ≤ d
theorem smAll_mem {k : Nat} : ∀ {ds : List PyData}, SmAll k ds ↔ ∀ d ∈ ds, Sm k d
  | [] => by simp [SmAll]
  | d :: ds => by
    simp only [SmAll, smAll_mem (ds := ds), List.mem_cons]
    constructor
    · rintro ⟨a, b⟩ x (rfl | hx)
      · exact a
      · exact b x hx
    · exact fun h => ⟨h d (.inl rfl), fun x hx => h x (.inr hx)⟩
theorem wtAll_mem : ∀ {ds : List PyData} {d : PyData}, d ∈ ds → wt d + 2 ≤ wtAll ds
  | e :: ds, d, h => by
    simp only [wtAll]
    rcases List.mem_cons.mp h with rfl | h
    · omega
    · have := wtAll_mem h
      omega
theorem wtAll_len : ∀ ds : List PyData, ds.length ≤ wtAll ds
  | [] => Nat.zero_le _
  | d :: ds => by
    have := wtAll_len ds
    simp only [wtAll, List.length_cons]
    omega
theorem wtAll_app : ∀ ds es : List PyData, wtAll (ds ++ es) = wtAll ds + wtAll es
  | [], es => by simp [wtAll]
  | d :: ds, es => by
    have := wtAll_app ds es
    simp only [List.cons_append, wtAll]
    omega
theorem depthAll_mem : ∀ {ds : List PyData} {d : PyData}, d ∈ ds → d.depth ≤ PyData.depthAll ds
  | e :: ds, d, h => by
    simp only [PyData.depthAll]
    rcases List.mem_cons.mp h with rfl | h
    · omega
    · have := depthAll_mem h
      omega
theorem depthAll_le {n : Nat} : ∀ {ds : List PyData}, (∀ d ∈ ds, d.depth ≤ n) → PyData.depthAll ds ≤ n
  | [], _ => by simp [PyData.depthAll]
  | d :: ds, h => by
    have h1 := h d List.mem_cons_self
    have h2 := depthAll_le (ds := ds) fun x hx => h x (List.mem_cons_of_mem _ hx)
    simp only [PyData.depthAll]
    omega
theorem dp_tup (ds : List PyData) : (PyData.tuple ds).depth = PyData.depthAll ds + 1 := by simp only [PyData.depth]
theorem dp_lst (ds : List PyData) : (PyData.list ds).depth = PyData.depthAll ds + 1 := by simp only [PyData.depth]
theorem wt_tup (ds : List PyData) : wt (.tuple ds) = 5 + wtAll ds := by simp only [wt]
theorem wt_lst (ds : List PyData) : wt (.list ds) = 5 + wtAll ds := by simp only [wt]
theorem sm_tup {k : Nat} {ds : List PyData} : Sm k (.tuple ds) ↔ ∀ d ∈ ds, Sm k d := by simp only [Sm]; exact smAll_mem
theorem sm_lst {k : Nat} {ds : List PyData} : Sm k (.list ds) ↔ ∀ d ∈ ds, Sm k d := by simp only [Sm]; exact smAll_mem
theorem Fine.mem {k W d : Nat} {ds : List PyData} (h : Fine k W d (.tuple ds)) : ∀ e ∈ ds, Fine k W d e := fun e he => by
  refine ⟨sm_tup.mp h.sm e he, ?_, ?_⟩
  · have := wtAll_mem he
    have := h.wt
    rw [wt_tup] at this
    omega
  · have := depthAll_mem he
    have := h.dp
    rw [dp_tup] at this
    omega
mutual
theorem Sm.up {k m : Nat} (hk : k ≤ m) : ∀ {D : PyData}, Sm k D → Sm m D
  | .none, _ => by simp only [Sm]
  | .bool _, _ => by simp only [Sm]
  | .int i, h => by
    simp only [Sm] at h ⊢
    omega
  | .str z, h => by
    simp only [Sm] at h ⊢
    exact h.up (by omega)
  | .tuple ds, h => by
    simp only [Sm] at h ⊢
    exact SmAll.up hk h
  | .list ds, h => by
    simp only [Sm] at h ⊢
    exact SmAll.up hk h
  | .dict _, h => by simp only [Sm] at h
theorem SmAll.up {k m : Nat} (hk : k ≤ m) : ∀ {ds : List PyData}, SmAll k ds → SmAll m ds
  | [], _ => by simp only [SmAll]
  | d :: ds, h => by
    simp only [SmAll] at h ⊢
    exact ⟨Sm.up hk h.1, SmAll.up hk h.2⟩
end
theorem Fine.up {k W d k' W' d' : Nat} {D : PyData} (h : Fine k W d D) (h1 : k ≤ k') (h2 : W ≤ W') (h3 : d ≤ d') : Fine k' W' d' D :=
  ⟨h.sm.up h1, Nat.le_trans h.wt h2, Nat.le_trans h.dp h3⟩
/-! ### what is shown -/
theorem log_small {i : Int} {k : Nat} (hk : k ≤ 1000) (h1 : -(10 ^ 39 + (k : Int)) ≤ i) (h2 : i ≤ 10 ^ 39 + (k : Int)) : i.natAbs.log2 < 1920 := by
  have h : i.natAbs < 2 ^ 200 := by
    have e : (10 : Int) ^ 39 + 1000 < 2 ^ 200 := by decide
    omega
  exact Nat.lt_of_lt_of_le (PySem.Flt.log2_lt_of (by decide) h) (by decide)
mutual
theorem shown_len {k : Nat} (hk : k ≤ 1000) : ∀ {D : PyData}, Sm k D → D.showable = true ∧ D.shown.length ≤ wt D
  | .none, _ => ⟨by simp only [PyData.showable], by decide⟩
  | .bool b, _ => ⟨by simp only [PyData.showable], by cases b <;> decide⟩
  | .int i, h => by
    simp only [Sm] at h
    exact ⟨by simp only [PyData.showable]; exact decide_eq_true (log_small hk h.1 h.2), by simp only [wt]; omega⟩
  | .str z, h => ⟨by simp only [PyData.showable], by simp only [wt]; omega⟩
  | .tuple ds, h => by
    simp only [Sm] at h
    obtain ⟨a, c, e⟩ := shownAll_len hk h
    have h3 := tupleText_len_le (PyData.shownAll ds)
    refine ⟨by simp only [PyData.showable, a], ?_⟩
    simp only [PyData.shown, wt]
    omega
  | .list ds, h => by
    simp only [Sm] at h
    obtain ⟨a, c, e⟩ := shownAll_len hk h
    have h3 := listText_len_le (PyData.shownAll ds)
    refine ⟨by simp only [PyData.showable, a], ?_⟩
    simp only [PyData.shown, wt]
    omega
  | .dict _, h => by simp only [Sm] at h
theorem shownAll_len {k : Nat} (hk : k ≤ 1000) : ∀ {ds : List PyData}, SmAll k ds → PyData.showableAll ds = true ∧ ((PyData.shownAll ds).map (·.length)).sum + 2 * (PyData.shownAll ds).length ≤ wtAll ds ∧ (PyData.shownAll ds).length = ds.length
  | [], _ => ⟨by simp only [PyData.showableAll], by simp only [PyData.shownAll, List.map_nil, List.sum_nil, wtAll, List.length_nil]; omega, by simp only [PyData.shownAll, List.length_nil]⟩
  | d :: ds, h => by
    simp only [SmAll] at h
    obtain ⟨a, c, e⟩ := shownAll_len hk h.2
    obtain ⟨q1, q2⟩ := shown_len hk h.1
    refine ⟨by simp only [PyData.showableAll, q1, a, Bool.and_self], ?_, by simp only [PyData.shownAll, List.length_cons, e]⟩
    simp only [PyData.shownAll, List.map_cons, List.sum_cons, List.length_cons, wtAll]
    omega
end
/-! ### atoms -/
theorem Fine.none (k d : Nat) : Fine k 100 d .none := ⟨by simp only [Sm], by decide, by simp only [PyData.depth]; omega⟩
theorem Fine.bool (k d : Nat) (b : Bool) : Fine k 100 d (.bool b) := ⟨by simp only [Sm], by simp only [P54.wt]; omega, by simp only [PyData.depth]; omega⟩
theorem Fine.int {k : Nat} (d : Nat) {i : Int} (hk : k ≤ 1000) (h1 : -(10 ^ 39 + (k : Int)) ≤ i) (h2 : i ≤ 10 ^ 39 + (k : Int)) : Fine k 2000 d (.int i) := by
  refine ⟨by simp only [Sm]; exact ⟨h1, h2⟩, ?_, by simp only [PyData.depth]; omega⟩
  have e := int_text_len_1921 (log_small hk h1 h2)
  simp only [P54.wt, PyData.shown]
  omega
theorem Fine.str {k m : Nat} (d : Nat) {z : Str} (h : OkS m z) (hm : m ≤ 2000 + k) : Fine k (10 * m + 3) d (.str z) := by
  refine ⟨by simp only [Sm]; exact h.up hm, ?_, by simp only [PyData.depth]; omega⟩
  have e := h.repr
  simp only [P54.wt, PyData.shown]
  omega
theorem wt_pos {D : PyData} {k : Nat} (h : Sm k D) : 1 ≤ wt D := by
  cases D with
  | dict _ => simp only [Sm] at h
  | _ => simp only [wt]; omega
/-! ### tuples -/
theorem wtAll_le {W n : Nat} : ∀ {ds : List PyData}, (∀ e ∈ ds, wt e ≤ W) → ds.length ≤ n → wtAll ds ≤ n * (W + 2)
  | [], _, _ => by simp only [wtAll]; omega
  | d :: ds, h, hn => by
    obtain ⟨m, rfl⟩ : ∃ m, n = m + 1 := ⟨n - 1, by rw [List.length_cons] at hn; omega⟩
    have h1 := h d List.mem_cons_self
    have h2 := wtAll_le (W := W) (n := m) (ds := ds) (fun x hx => h x (List.mem_cons_of_mem _ hx)) (by rw [List.length_cons] at hn; omega)
    simp only [wtAll]
    rw [Nat.add_mul, Nat.one_mul]
    omega
theorem Fine.tupN {k W d n : Nat} {ds : List PyData} (h : ∀ e ∈ ds, Fine k W d e) (hn : ds.length ≤ n) : Fine k (5 + n * (W + 2)) (d + 1) (.tuple ds) := by
  refine ⟨sm_tup.mpr fun e he => (h e he).sm, ?_, ?_⟩
  · rw [wt_tup]
    have := wtAll_le (W := W) (n := n) (fun e he => (h e he).wt) hn
    omega
  · rw [dp_tup]
    have := depthAll_le fun e he => (h e he).dp
    omega
theorem Fine.tup1 {k W d : Nat} {D : PyData} (h : Fine k W d D) : Fine k (W + 7) (d + 1) (.tuple [D]) := by
  refine ⟨sm_tup.mpr fun e he => by rw [List.mem_singleton.mp he]; exact h.sm, ?_, ?_⟩
  · rw [wt_tup]
    have := h.wt
    simp only [wtAll]
    omega
  · have := h.dp
    simp only [PyData.depth, PyData.depthAll]
    omega
theorem Fine.lst1 {k W d : Nat} {D : PyData} (h : Fine k W d D) : Fine k (W + 7) (d + 1) (.list [D]) := by
  refine ⟨sm_lst.mpr fun e he => by rw [List.mem_singleton.mp he]; exact h.sm, ?_, ?_⟩
  · rw [wt_lst]
    have := h.wt
    simp only [wtAll]
    omega
  · have := h.dp
    simp only [PyData.depth, PyData.depthAll]
    omega
theorem Fine.lst {k W d : Nat} {ds : List PyData} (h : Fine k W d (.tuple ds)) : Fine k W d (.list ds) :=
  ⟨sm_lst.mpr (sm_tup.mp h.sm), by have := h.wt; rw [wt_tup] at this; rw [wt_lst]; exact this, by have := h.dp; rw [dp_tup] at this; rw [dp_lst]; exact this⟩
/-- a tuple made of parts of a tuple -/
theorem Fine.sub {k W d : Nat} {ds es : List PyData} (h : Fine k W d (.tuple ds)) (hm : ∀ e ∈ es, e ∈ ds) (hw : wtAll es ≤ wtAll ds) : Fine k W d (.tuple es) := by
  refine ⟨sm_tup.mpr fun e he => sm_tup.mp h.sm e (hm e he), ?_, ?_⟩
  · have := h.wt
    rw [wt_tup] at this ⊢
    omega
  · have h1 := h.dp
    rw [dp_tup] at h1 ⊢
    have : PyData.depthAll es ≤ PyData.depthAll ds := depthAll_le fun e he => depthAll_mem (hm e he)
    omega
/-! ### places -/
mutual
def places : PyData → List (List Nat)
  | .tuple ds => [] :: placesAll 0 ds
  | _ => [[]]
def placesAll (i : Nat) : List PyData → List (List Nat)
  | [] => []
  | d :: ds => (places d).map (i :: ·) ++ placesAll (i + 1) ds
end
def getAt : PyData → List Nat → PyData
  | D, [] => D
  | D, i :: p => getAt (at_ D i) p
def putAt : PyData → List Nat → PyData → PyData
  | _, [], P => P
  | D, i :: p, P => .tuple ((items D).take i ++ [putAt (at_ D i) p P] ++ (items D).drop (i + 1))
def valid : PyData → List Nat → Prop
  | _, [] => True
  | D, i :: p => (∃ ds, D = .tuple ds ∧ i < ds.length) ∧ valid (at_ D i) p
theorem placesAll_len : ∀ (i : Nat) (ds : List PyData), (∀ d ∈ ds, (places d).length ≤ wt d) → (placesAll i ds).length ≤ wtAll ds
  | _, [], _ => by simp [placesAll]
  | i, d :: ds, h => by
    have h1 := h d List.mem_cons_self
    have h2 := placesAll_len (i + 1) ds fun x hx => h x (List.mem_cons_of_mem _ hx)
    simp only [placesAll, List.length_append, List.length_map, wtAll]
    omega
mutual
theorem places_len {k : Nat} : ∀ {D : PyData}, Sm k D → (places D).length ≤ wt D
  | .none, _ => by decide
  | .bool _, _ => by simp only [places, wt, List.length_singleton]; omega
  | .int _, _ => by simp only [places, wt, List.length_singleton]; omega
  | .str _, _ => by simp only [places, wt, List.length_singleton]; omega
  | .list ds, _ => by simp only [places, wt, List.length_singleton]; omega
  | .dict _, h => by simp only [Sm] at h
  | .tuple ds, h => by
    simp only [Sm] at h
    have := placesAll_lenS (i := 0) h
    simp only [places, wt, List.length_cons]
    omega
theorem placesAll_lenS {k i : Nat} : ∀ {ds : List PyData}, SmAll k ds → (placesAll i ds).length ≤ wtAll ds
  | [], _ => by simp [placesAll]
  | d :: ds, h => by
    simp only [SmAll] at h
    have h1 := places_len h.1
    have h2 := placesAll_lenS (i := i + 1) h.2
    simp only [placesAll, List.length_append, List.length_map, wtAll]
    omega
end
theorem placesAll_mem {i : Nat} {p : List Nat} : ∀ {ds : List PyData}, p ∈ placesAll i ds → ∃ j q d, p = (i + j) :: q ∧ ds[j]? = some d ∧ q ∈ places d
  | [], h => by simp [placesAll] at h
  | d :: ds, h => by
    simp only [placesAll, List.mem_append, List.mem_map] at h
    rcases h with ⟨q, hq, rfl⟩ | h
    · exact ⟨0, q, d, rfl, rfl, hq⟩
    · obtain ⟨j, q, e, rfl, he, hq⟩ := placesAll_mem (i := i + 1) h
      exact ⟨j + 1, q, e, by rw [Nat.add_assoc, Nat.add_comm 1], by simpa using he, hq⟩
theorem at_get {ds : List PyData} {j : Nat} {d : PyData} (h : ds[j]? = some d) : at_ (.tuple ds) j = d := by
  show ds.getD j .none = d
  rw [List.getD_eq_getElem?_getD, h]
  rfl
theorem places_valid : ∀ {p : List Nat} {D : PyData}, p ∈ places D → valid D p
  | [], _, _ => by simp only [valid]
  | i :: p, D, h => by
    cases D with
    | tuple ds =>
      simp only [places, List.mem_cons] at h
      rcases h with h | h
      · cases h
      · obtain ⟨j, q, d, e, hd, hq⟩ := placesAll_mem h
        injection e with e1 e2
        subst e2
        have : i = j := by omega
        subst this
        simp only [valid]
        refine ⟨⟨ds, rfl, (List.getElem?_eq_some_iff.mp hd).1⟩, ?_⟩
        rw [at_get hd]
        exact places_valid hq
    | none => simp [places] at h
    | bool _ => simp [places] at h
    | int _ => simp [places] at h
    | str _ => simp [places] at h
    | list _ => simp [places] at h
    | dict _ => simp [places] at h
theorem valid_len : ∀ {p : List Nat} {D : PyData}, valid D p → p.length ≤ D.depth
  | [], _, _ => Nat.zero_le _
  | i :: p, D, h => by
    simp only [valid] at h
    obtain ⟨⟨ds, rfl, hi⟩, hv⟩ := h
    have h1 := valid_len hv
    have hm : at_ (.tuple ds) i ∈ ds := by
      rw [at_get (List.getElem?_eq_getElem hi)]
      exact List.getElem_mem hi
    have := depthAll_mem hm
    rw [dp_tup, List.length_cons]
    omega
theorem getAt_fine {k W d : Nat} : ∀ {p : List Nat} {D : PyData}, valid D p → Fine k W d D → Fine k W d (getAt D p)
  | [], _, _, h => h
  | i :: p, D, hv, h => by
    simp only [valid] at hv
    obtain ⟨⟨ds, rfl, hi⟩, hv⟩ := hv
    simp only [getAt]
    refine getAt_fine hv ?_
    rw [at_get (List.getElem?_eq_getElem hi)]
    exact h.mem _ (List.getElem_mem hi)
theorem take_drop {ds : List PyData} {i : Nat} (hi : i < ds.length) : ds = ds.take i ++ [at_ (.tuple ds) i] ++ ds.drop (i + 1) := by
  rw [at_get (List.getElem?_eq_getElem hi)]
  simp
theorem putAt_fine {k W d U e : Nat} {P : PyData} (hP : Fine k U e P) : ∀ {p : List Nat} {D : PyData}, valid D p → Fine k W d D → Fine k (W + U) (d + e) (putAt D p P)
  | [], _, _, _ => hP.up (Nat.le_refl _) (by omega) (by omega)
  | i :: p, D, hv, h => by
    simp only [valid] at hv
    obtain ⟨⟨ds, rfl, hi⟩, hv⟩ := hv
    have hm : at_ (.tuple ds) i ∈ ds := by
      rw [at_get (List.getElem?_eq_getElem hi)]
      exact List.getElem_mem hi
    have hw := h.wt
    have hd := h.dp
    rw [wt_tup] at hw
    rw [dp_tup] at hd
    have ew : wtAll ds = wtAll (ds.take i) + (wt (at_ (.tuple ds) i) + 2) + wtAll (ds.drop (i + 1)) := by
      conv => lhs; rw [take_drop hi]
      rw [wtAll_app, wtAll_app]
      simp only [wtAll]
    have ih := putAt_fine (W := wt (at_ (.tuple ds) i)) (d := d - 1) hP hv ⟨sm_tup.mp h.sm _ hm, Nat.le_refl _, by have := depthAll_mem hm; omega⟩
    simp only [putAt, items]
    refine ⟨sm_tup.mpr fun x hx => ?_, ?_, ?_⟩
    · simp only [List.mem_append, List.mem_singleton] at hx
      rcases hx with (hx | rfl) | hx
      · exact sm_tup.mp h.sm x (List.mem_of_mem_take hx)
      · exact ih.sm
      · exact sm_tup.mp h.sm x (List.mem_of_mem_drop hx)
    · rw [wt_tup, wtAll_app, wtAll_app]
      have := ih.wt
      simp only [wtAll]
      omega
    · rw [dp_tup]
      have : PyData.depthAll (ds.take i ++ [putAt (at_ (.tuple ds) i) p P] ++ ds.drop (i + 1)) ≤ d - 1 + e := depthAll_le fun x hx => by
        simp only [List.mem_append, List.mem_singleton] at hx
        rcases hx with (hx | rfl) | hx
        · have := depthAll_mem (List.mem_of_mem_take hx)
          omega
        · exact ih.dp
        · have := depthAll_mem (List.mem_of_mem_drop hx)
          omega
      omega
end P54

set_option maxHeartbeats 4000000
/-! P52: graphs as data, and what the code of one is. -/
namespace P52
open PySem HG
inductive Opd where
  | w (i : Int)
  | v (n : Nat)
  deriving DecidableEq
abbrev vD (n : Nat) : PyData := .tuple [.str "var", .int (n : Int)]
def oD : Opd → PyData
  | .w i => .int i
  | .v n => vD n
def ovD : Option Nat → PyData
  | none => .none
  | some n => .int (n : Int)
inductive Rw where
  | cw (v : Nat) (i : Int)
  | cf (v : Nat) (x : Str)
  | cp (v u : Nat)
  | op (v : Nat) (x : Str) (a b : Opd)
  | ld (v : Nat) (x : Str)
  | rd (v : Nat) (x : Str) (a : Opd)
  | ca (v : Option Nat) (x : Str) (as : List Opd)
  | ap (v : Option Nat) (f : Nat) (as : List Opd)
  | st (x : Str) (a : Opd)
  | pr (a : Opd)
  | wr (x : Str) (a b : Opd)
def Rw.word : Rw → Str
  | .cw .. => "const"
  | .cf .. => "const"
  | .cp .. => "copy"
  | .op .. => "op"
  | .ld .. => "load"
  | .rd .. => "read"
  | .ca .. => "call"
  | .ap .. => "apply"
  | .st .. => "store"
  | .pr .. => "print"
  | .wr .. => "write"
def Rw.rest : Rw → List PyData
  | .cw v i => [.int v, .int i]
  | .cf v x => [.int v, .tuple [.str "func", .str x]]
  | .cp v u => [.int v, .int u]
  | .op v x a b => [.int v, .str x, oD a, oD b]
  | .ld v x => [.int v, .str x]
  | .rd v x a => [.int v, .str x, oD a]
  | .ca v x as => [ovD v, .str x, .tuple (as.map oD)]
  | .ap v f as => [ovD v, .int f, .tuple (as.map oD)]
  | .st x a => [.str x, oD a]
  | .pr a => [oD a]
  | .wr x a b => [.str x, oD a, oD b]
abbrev Rw.L (R : Rw) : List PyData := .str R.word :: R.rest
abbrev Rw.D (R : Rw) : PyData := .tuple R.L
def Rw.ops : Rw → List Opd
  | .cw .. => []
  | .cf .. => []
  | .cp _ u => [.v u]
  | .op _ _ a b => [a, b]
  | .ld .. => []
  | .rd _ _ a => [a]
  | .ca _ _ as => as
  | .ap _ f as => .v f :: as
  | .st _ a => [a]
  | .pr a => [a]
  | .wr _ a b => [a, b]
def Rw.set : Rw → Option Nat
  | .cw v _ => some v
  | .cf v _ => some v
  | .cp v _ => some v
  | .op v _ _ _ => some v
  | .ld v _ => some v
  | .rd v _ _ => some v
  | .ca v _ _ => v
  | .ap v _ _ => v
  | .st .. => none
  | .pr .. => none
  | .wr .. => none
/-! ### in slots -/
abbrev sv (S : List PyData) (n : Nat) : PyData := S.getD n .none
def oS (S : List PyData) : Opd → PyData
  | .w i => .int i
  | .v n => .tuple [.str "var", sv S n]
def ovS (S : List PyData) : Option Nat → PyData
  | none => .none
  | some n => sv S n
/-- with the operands in slots -/
def Rw.wo (S : List PyData) : Rw → List PyData
  | .cw v i => [.str "const", .int v, .int i]
  | .cf v x => [.str "const", .int v, .tuple [.str "func", .str x]]
  | .cp v u => [.str "copy", .int v, sv S u]
  | .op v x a b => [.str "op", .int v, .str x, oS S a, oS S b]
  | .ld v x => [.str "load", .int v, .str x]
  | .rd v x a => [.str "read", .int v, .str x, oS S a]
  | .ca v x as => [.str "call", ovD v, .str x, .tuple (as.map (oS S))]
  | .ap v f as => [.str "apply", ovD v, sv S f, .tuple (as.map (oS S))]
  | .st x a => [.str "store", .str x, oS S a]
  | .pr a => [.str "print", oS S a]
  | .wr x a b => [.str "write", .str x, oS S a, oS S b]
def Rw.S (S : List PyData) : Rw → List PyData
  | .cw v i => [.str "const", sv S v, .int i]
  | .cf v x => [.str "const", sv S v, .tuple [.str "func", .str x]]
  | .cp v u => [.str "copy", sv S v, sv S u]
  | .op v x a b => [.str "op", sv S v, .str x, oS S a, oS S b]
  | .ld v x => [.str "load", sv S v, .str x]
  | .rd v x a => [.str "read", sv S v, .str x, oS S a]
  | .ca v x as => [.str "call", ovS S v, .str x, .tuple (as.map (oS S))]
  | .ap v f as => [.str "apply", ovS S v, sv S f, .tuple (as.map (oS S))]
  | .st x a => [.str "store", .str x, oS S a]
  | .pr a => [.str "print", oS S a]
  | .wr x a b => [.str "write", .str x, oS S a, oS S b]
/-! ### ends -/
inductive Stp where
  | jp (n : Nat)
  | br (a : Opd) (n m : Nat)
  | rt (a : Option Opd)
  | ht (i : Int)
def ooD : Option Opd → PyData
  | none => .none
  | some a => oD a
def ooS (S : List PyData) : Option Opd → PyData
  | none => .none
  | some a => oS S a
def Stp.word : Stp → Str
  | .jp _ => "jump"
  | .br .. => "branch"
  | .rt _ => "return"
  | .ht _ => "halt"
def Stp.rest : Stp → List PyData
  | .jp n => [.int n]
  | .br a n m => [oD a, .int n, .int m]
  | .rt a => [ooD a]
  | .ht i => [.int i]
abbrev Stp.L (E : Stp) : List PyData := .str E.word :: E.rest
abbrev Stp.D (E : Stp) : PyData := .tuple E.L
def Stp.ops : Stp → List Opd
  | .jp _ => []
  | .br a _ _ => [a]
  | .rt none => []
  | .rt (some a) => [a]
  | .ht _ => []
def Stp.S (S : List PyData) : Stp → List PyData
  | .jp n => [.str "jump", .int n]
  | .br a n m => [.str "branch", oS S a, .int n, .int m]
  | .rt a => [.str "return", ooS S a]
  | .ht i => [.str "halt", .int i]
/-- the instructions of an end; the next block is k -/
def Stp.code (S : List PyData) (k : Nat) : Stp → List (List PyData)
  | .jp n => if n = k then [] else [[.str "jump", .int n]]
  | .br a n m => if m = k then [[.str "branch", oS S a, .int n]] else if n = k then [[.str "unless", oS S a, .int m]] else [[.str "branch", oS S a, .int n], [.str "jump", .int m]]
  | .rt a => [[.str "return", ooS S a]]
  | .ht i => [[.str "halt", .int i]]
def Stp.to : Stp → List Nat
  | .jp n => [n]
  | .br _ n m => [n, m]
  | .rt _ => []
  | .ht _ => []
/-! ### blocks, graphs -/
structure Blk where
  rows : List Rw
  stop : Stp
abbrev Blk.D (b : Blk) : PyData := .tuple [.tuple (b.rows.map Rw.D), b.stop.D]
structure Gr where
  count : Nat
  blocks : List Blk
abbrev Gr.D (g : Gr) : PyData := .tuple [.int (g.count : Int), .tuple (g.blocks.map Blk.D)]
def Blk.code (S : List PyData) (k : Nat) (b : Blk) : List (List PyData) := b.rows.map (Rw.S S) ++ b.stop.code S (k + 1)
def partsFrom (S : List PyData) : Nat → List Blk → List (List (List PyData))
  | _, [] => []
  | k, b :: r => b.code S k :: partsFrom S (k + 1) r
abbrev Gr.parts (S : List PyData) (g : Gr) : List (List (List PyData)) := partsFrom S 0 g.blocks
/-- where each part begins -/
def startsFrom : Nat → List (List (List PyData)) → List Nat
  | _, [] => []
  | n, p :: r => n :: startsFrom (n + p.length) r
def isJ (x : Str) : Bool := L2.inV (.str x) [.str "jump", .str "branch", .str "unless"]
def place (ps : List Nat) : List PyData → List PyData
  | .str x :: ds => if isJ x = true then (.str x :: ds).dropLast ++ [match ((PyData.str x :: ds).getLast?) with
      | some (.int i) => .int ((ps.getD i.toNat 0 : Nat) : Int)
      | _ => .none] else .str x :: ds
  | ds => ds
def Gr.code (S : List PyData) (g : Gr) : List (List PyData) := (g.parts S).flatten.map (place (startsFrom 0 (g.parts S)))
/-! ### variables -/
def Opd.vars : Opd → List Nat
  | .w _ => []
  | .v n => [n]
def opsVars (l : List Opd) : List Nat := l.flatMap Opd.vars
def Rw.vars (R : Rw) : List Nat := opsVars R.ops ++ R.set.toList
def Blk.vars (b : Blk) : List Nat := opsVars b.stop.ops ++ b.rows.flatMap Rw.vars
def Gr.vars (g : Gr) : List Nat := g.blocks.flatMap Blk.vars
/-- its variables and its places are there -/
structure Gr.Ok (g : Gr) (S : List PyData) : Prop where
  vars : ∀ n ∈ g.vars, n < S.length
  to : ∀ b ∈ g.blocks, ∀ n ∈ b.stop.to, n < g.blocks.length
end P52

set_option maxHeartbeats 4000000
/-! P52C: parts and their starts, block by block. -/
namespace P52
open PySem HG
theorem partsFrom_snoc (S : List PyData) (b : Blk) : ∀ (k : Nat) (l : List Blk), partsFrom S k (l ++ [b]) = partsFrom S k l ++ [b.code S (k + l.length)]
  | k, [] => rfl
  | k, x :: l => by
    rw [List.cons_append]
    simp only [partsFrom]
    rw [partsFrom_snoc S b (k + 1) l, List.length_cons, List.cons_append, Nat.add_assoc, Nat.add_comm 1]
theorem startsFrom_snoc (q : List (List PyData)) : ∀ (n : Nat) (l : List (List (List PyData))), startsFrom n (l ++ [q]) = startsFrom n l ++ [n + l.flatten.length]
  | n, [] => rfl
  | n, x :: l => by
    rw [List.cons_append]
    simp only [startsFrom]
    rw [startsFrom_snoc q (n + x.length) l, List.flatten_cons, List.length_append, List.cons_append, Nat.add_assoc]
theorem parts_take {S : List PyData} {bs : List Blk} {i : Nat} {b : Blk} (h : bs[i]? = some b) : partsFrom S 0 (bs.take (i + 1)) = partsFrom S 0 (bs.take i) ++ [b.code S i] := by
  have hi := (List.getElem?_eq_some_iff.mp h).1
  rw [List.take_add_one, h]
  show partsFrom S 0 (bs.take i ++ [b]) = _
  rw [partsFrom_snoc, List.length_take, Nat.zero_add, Nat.min_eq_left (by omega)]
theorem partsFrom_len (S : List PyData) : ∀ (k : Nat) (l : List Blk), (partsFrom S k l).length = l.length
  | _, [] => rfl
  | k, b :: l => by simp only [partsFrom, List.length_cons, partsFrom_len S (k + 1) l]
theorem startsFrom_len : ∀ (n : Nat) (l : List (List (List PyData))), (startsFrom n l).length = l.length
  | _, [] => rfl
  | n, p :: l => by simp only [startsFrom, List.length_cons, startsFrom_len (n + p.length) l]
theorem partsFrom_mem {S : List PyData} {p : List (List PyData)} : ∀ {k : Nat} {l : List Blk}, p ∈ partsFrom S k l → ∃ b ∈ l, ∃ j, p = b.code S j
  | k, [], h => by cases h
  | k, b :: l, h => by
    simp only [partsFrom] at h
    rcases List.mem_cons.mp h with z | z
    · exact ⟨b, List.mem_cons_self, k, z⟩
    · obtain ⟨b', h1, h2⟩ := partsFrom_mem z
      exact ⟨b', List.mem_cons_of_mem _ h1, h2⟩
theorem code_len (S : List PyData) (k : Nat) (E : Stp) : (E.code S k).length ≤ 2 := by
  cases E with
  | jp n =>
    simp only [Stp.code]
    split <;> simp
  | br a n m =>
    simp only [Stp.code]
    split
    · simp
    · split <;> simp
  | rt a => simp [Stp.code]
  | ht i => simp [Stp.code]
theorem flat_len {S : List PyData} {m : Nat} : ∀ {k : Nat} {l : List Blk}, (∀ b ∈ l, b.rows.length ≤ m) → (partsFrom S k l).flatten.length ≤ l.length * (m + 2)
  | _, [], _ => by simp [partsFrom]
  | k, b :: l, h => by
    have h1 := flat_len (S := S) (k := k + 1) (l := l) fun b hb => h b (List.mem_cons_of_mem _ hb)
    have h2 := h b List.mem_cons_self
    have h3 := code_len S (k + 1) b.stop
    simp only [partsFrom, List.flatten_cons, List.length_append, List.length_cons, Blk.code, List.length_map]
    rw [Nat.add_mul, Nat.one_mul]
    omega
/-- its variables are there, its places too; it is not too great -/
structure Gr.In (g : Gr) (S : List PyData) : Prop where
  ops : ∀ b ∈ g.blocks, ∀ R ∈ b.rows, ∀ a ∈ R.ops, ∀ n ∈ a.vars, n < S.length
  set : ∀ b ∈ g.blocks, ∀ R ∈ b.rows, ∀ n, R.set = some n → n < S.length
  end_ : ∀ b ∈ g.blocks, ∀ a ∈ b.stop.ops, ∀ n ∈ a.vars, n < S.length
  to : ∀ b ∈ g.blocks, ∀ n ∈ b.stop.to, n < g.blocks.length
  len : ∀ b ∈ g.blocks, ∀ R ∈ b.rows, R.ops.length ≤ 1000
  rows : ∀ b ∈ g.blocks, b.rows.length ≤ 100
  many : g.blocks.length ≤ 100
end P52

set_option maxHeartbeats 4000000
/-! P52G: graphs as they are drawn: their variables are below N; they are small. -/
namespace P52
open PySem HG P54
abbrev Nm (x : Str) : Prop := OkS 12 x
def OpdOk (N : Nat) : Opd → Prop
  | .w i => 0 ≤ i ∧ i < 65536
  | .v n => n < N
def optOk (N : Nat) (v : Option Nat) : Prop := ∀ n, v = some n → n < N
def RwOk (N : Nat) : Rw → Prop
  | .cw v i => v < N ∧ 0 ≤ i ∧ i < 65536
  | .cf v x => v < N ∧ Nm x
  | .cp v u => v < N ∧ u < N
  | .op v x a b => v < N ∧ Nm x ∧ OpdOk N a ∧ OpdOk N b
  | .ld v x => v < N ∧ Nm x
  | .rd v x a => v < N ∧ Nm x ∧ OpdOk N a
  | .ca v x as => optOk N v ∧ Nm x ∧ as.length ≤ 2 ∧ ∀ a ∈ as, OpdOk N a
  | .ap v f as => optOk N v ∧ f < N ∧ as.length ≤ 2 ∧ ∀ a ∈ as, OpdOk N a
  | .st x a => Nm x ∧ OpdOk N a
  | .pr a => OpdOk N a
  | .wr x a b => Nm x ∧ OpdOk N a ∧ OpdOk N b
def StpOk (N B : Nat) : Stp → Prop
  | .jp n => n < B
  | .br a n m => OpdOk N a ∧ n < B ∧ m < B
  | .rt a => ∀ o, a = some o → OpdOk N o
  | .ht i => 0 ≤ i ∧ i < 65536
structure BkOk (N B : Nat) (b : Blk) : Prop where
  rows : ∀ R ∈ b.rows, RwOk N R
  stop : StpOk N B b.stop
  len : b.rows.length ≤ 15
structure GrOk (N : Nat) (g : Gr) : Prop where
  count : g.count ≤ 3
  cN : g.count ≤ N
  small : N ≤ 10
  pos : 0 < g.blocks.length
  many : g.blocks.length ≤ 9
  blk : ∀ b ∈ g.blocks, BkOk N g.blocks.length b
theorem OpdOk.vars {N : Nat} {a : Opd} (h : OpdOk N a) : ∀ n ∈ a.vars, n < N := by
  cases a with
  | w i => intro n hn; cases hn
  | v m =>
    intro n hn
    rw [List.mem_singleton.mp hn]
    exact h
theorem RwOk.ops {N : Nat} {R : Rw} (h : RwOk N R) : ∀ a ∈ R.ops, OpdOk N a := by
  cases R <;> simp only [RwOk] at h <;> intro a ha <;> simp only [Rw.ops, List.mem_cons, List.not_mem_nil, or_false] at ha
  case cp v u => subst ha; exact h.2
  case op v x p q =>
    rcases ha with rfl | rfl
    · exact h.2.2.1
    · exact h.2.2.2
  case rd v x p => subst ha; exact h.2.2
  case ca v x as => exact h.2.2.2 a ha
  case ap v f as =>
    rcases ha with rfl | ha
    · exact h.2.1
    · exact h.2.2.2 a ha
  case st x p => subst ha; exact h.2
  case pr p => subst ha; exact h
  case wr x p q =>
    rcases ha with rfl | rfl
    · exact h.2.1
    · exact h.2.2
theorem RwOk.set {N : Nat} {R : Rw} (h : RwOk N R) : ∀ n, R.set = some n → n < N := by
  intro n hn
  cases R <;> simp only [RwOk] at h <;> simp only [Rw.set] at hn
  case cw v i => cases hn; exact h.1
  case cf v i => cases hn; exact h.1
  case cp v i => cases hn; exact h.1
  case op v x a b => cases hn; exact h.1
  case ld v x => cases hn; exact h.1
  case rd v x a => cases hn; exact h.1
  case ca v x as => exact h.1 n hn
  case ap v x as => exact h.1 n hn
  case st => cases hn
  case pr => cases hn
  case wr => cases hn
theorem RwOk.len {N : Nat} {R : Rw} (h : RwOk N R) : R.ops.length ≤ 3 := by
  cases R <;> simp only [RwOk] at h <;> simp only [Rw.ops, List.length_cons, List.length_nil] <;> omega
theorem StpOk.ops {N B : Nat} {E : Stp} (h : StpOk N B E) : ∀ a ∈ E.ops, OpdOk N a := by
  cases E with
  | jp n => intro a ha; cases ha
  | br o n m =>
    intro a ha
    rw [List.mem_singleton.mp ha]
    exact h.1
  | rt o =>
    cases o with
    | none => intro a ha; cases ha
    | some o =>
      intro a ha
      rw [List.mem_singleton.mp ha]
      exact h o rfl
  | ht i => intro a ha; cases ha
theorem StpOk.to {N B : Nat} {E : Stp} (h : StpOk N B E) : ∀ n ∈ E.to, n < B := by
  cases E with
  | jp m =>
    intro n hn
    rw [List.mem_singleton.mp hn]
    exact h
  | br o m k =>
    intro n hn
    simp only [Stp.to, List.mem_cons, List.not_mem_nil, or_false] at hn
    rcases hn with rfl | rfl
    · exact h.2.1
    · exact h.2.2
  | rt o => intro n hn; cases hn
  | ht i => intro n hn; cases hn
/-! ### small -/
theorem fnI {i : Int} (d : Nat) (h0 : 0 ≤ i) (h : i < 10 ^ 9) : Fine 0 2000 d (.int i) := by
  have e : (10 : Int) ^ 9 < 10 ^ 39 := by decide
  exact Fine.int d (by decide) (by omega) (by omega)
theorem fnN {n : Nat} (d : Nat) (h : n < 1000000) : Fine 0 2000 d (.int (n : Int)) := by
  have e : (1000000 : Int) < 10 ^ 9 := by decide
  exact fnI d (by omega) (by omega)
theorem fnS {x : Str} (d : Nat) (h : Nm x) : Fine 0 2000 d (.str x) := (Fine.str d h (by decide)).up (Nat.le_refl _) (by decide) (Nat.le_refl _)
theorem fnO {N : Nat} {a : Opd} (hN : N ≤ 10) (h : OpdOk N a) : Fine 0 4100 1 (oD a) := by
  cases a with
  | w i =>
    have : (65536 : Int) < 10 ^ 9 := by decide
    exact (fnI 1 h.1 (by have := h.2; omega)).up (Nat.le_refl _) (by decide) (Nat.le_refl _)
  | v n =>
    have hv : Nm ("var" : Str) := ⟨by decide +kernel, by decide +kernel⟩
    have h' : n < N := h
    refine (Fine.tupN (n := 2) (d := 0) (W := 2000) (ds := [.str "var", .int (n : Int)]) (fun e he => ?_) (Nat.le_refl 2)).up (Nat.le_refl _) (by decide) (Nat.le_refl _)
    simp only [List.mem_cons, List.not_mem_nil, or_false] at he
    rcases he with rfl | rfl
    · exact fnS 0 hv
    · exact fnN 0 (by omega)
theorem fnV {N : Nat} {v : Option Nat} (d : Nat) (hN : N ≤ 10) (h : optOk N v) : Fine 0 2000 d (ovD v) := by
  cases v with
  | none => exact (Fine.none 0 d).up (Nat.le_refl _) (by decide) (Nat.le_refl _)
  | some n => exact fnN d (by have := h n rfl; omega)
theorem word_nm (R : Rw) : Nm R.word := by cases R <;> exact ⟨by dsimp only [Rw.word]; decide +kernel, by dsimp only [Rw.word]; decide +kernel⟩
theorem fnAs {N : Nat} {as : List Opd} (hN : N ≤ 10) (hl : as.length ≤ 2) (h : ∀ a ∈ as, OpdOk N a) : Fine 0 8300 2 (.tuple (as.map oD)) := by
  refine (Fine.tupN (n := 2) (d := 1) (W := 4100) (fun e he => ?_) (by rw [List.length_map]; exact hl)).up (Nat.le_refl _) (by decide) (Nat.le_refl _)
  obtain ⟨a, ha, rfl⟩ := List.mem_map.mp he
  exact fnO hN (h a ha)
theorem fnR {N : Nat} {R : Rw} (hN : N ≤ 10) (h : RwOk N R) : Fine 0 42000 3 R.D := by
  have key : R.L.length ≤ 5 ∧ ∀ e ∈ R.L, Fine 0 8300 2 e := by
    have hw : Fine 0 8300 2 (.str R.word) := (fnS 2 (word_nm R)).up (Nat.le_refl _) (by decide) (Nat.le_refl _)
    have o : ∀ {a : Opd}, OpdOk N a → Fine 0 8300 2 (oD a) := fun h => (fnO hN h).up (Nat.le_refl _) (by decide) (by decide)
    have s : ∀ {x : Str}, Nm x → Fine 0 8300 2 (.str x) := fun h => (fnS 2 h).up (Nat.le_refl _) (by decide) (Nat.le_refl _)
    have n : ∀ {m : Nat}, m < N → Fine 0 8300 2 (.int (m : Int)) := fun {m} h => (fnN 2 (by omega)).up (Nat.le_refl _) (by decide) (Nat.le_refl _)
    refine ⟨by cases R <;> exact Nat.le_of_ble_eq_true rfl, fun e he => ?_⟩
    have he2 := List.mem_cons.mp he
    clear he
    rcases he2 with rfl | he
    · exact hw
    cases R <;> simp only [RwOk] at h <;> simp only [Rw.rest, List.mem_cons, List.not_mem_nil, or_false] at he
    case cw v i =>
      rcases he with rfl | rfl
      · exact n h.1
      · have : (65536 : Int) < 10 ^ 9 := by decide
        exact (fnI 2 h.2.1 (by omega)).up (Nat.le_refl _) (by decide) (Nat.le_refl _)
    case cf v x =>
      rcases he with rfl | rfl
      · exact n h.1
      · have hf : Nm ("func" : Str) := ⟨by decide +kernel, by decide +kernel⟩
        refine (Fine.tupN (n := 2) (d := 1) (W := 2000) (ds := [.str "func", .str x]) (fun e he => ?_) (Nat.le_refl 2)).up (Nat.le_refl _) (by decide) (Nat.le_refl _)
        simp only [List.mem_cons, List.not_mem_nil, or_false] at he
        rcases he with rfl | rfl
        · exact fnS 1 hf
        · exact fnS 1 h.2
    case cp v u =>
      rcases he with rfl | rfl
      · exact n h.1
      · exact n h.2
    case op v x a b =>
      rcases he with rfl | rfl | rfl | rfl
      · exact n h.1
      · exact s h.2.1
      · exact o h.2.2.1
      · exact o h.2.2.2
    case ld v x =>
      rcases he with rfl | rfl
      · exact n h.1
      · exact s h.2
    case rd v x a =>
      rcases he with rfl | rfl | rfl
      · exact n h.1
      · exact s h.2.1
      · exact o h.2.2
    case ca v x as =>
      rcases he with rfl | rfl | rfl
      · exact (fnV 2 hN h.1).up (Nat.le_refl _) (by decide) (Nat.le_refl _)
      · exact s h.2.1
      · exact fnAs hN h.2.2.1 h.2.2.2
    case ap v f as =>
      rcases he with rfl | rfl | rfl
      · exact (fnV 2 hN h.1).up (Nat.le_refl _) (by decide) (Nat.le_refl _)
      · exact n h.2.1
      · exact fnAs hN h.2.2.1 h.2.2.2
    case st x a =>
      rcases he with rfl | rfl
      · exact s h.1
      · exact o h.2
    case pr a => subst he; exact o h
    case wr x a b =>
      rcases he with rfl | rfl | rfl
      · exact s h.1
      · exact o h.2.1
      · exact o h.2.2
  exact (Fine.tupN (n := 5) (d := 2) (W := 8300) key.2 key.1).up (Nat.le_refl _) (by decide) (Nat.le_refl _)
theorem fnE {N B : Nat} {E : Stp} (hN : N ≤ 10) (hB : B ≤ 9) (h : StpOk N B E) : Fine 0 42000 3 E.D := by
  have hw : Nm E.word := by cases E <;> exact ⟨by dsimp only [Stp.word]; decide +kernel, by dsimp only [Stp.word]; decide +kernel⟩
  have o : ∀ {a : Opd}, OpdOk N a → Fine 0 8300 2 (oD a) := fun h => (fnO hN h).up (Nat.le_refl _) (by decide) (by decide)
  have n : ∀ {m : Nat}, m < B → Fine 0 8300 2 (.int (m : Int)) := fun {m} h => (fnN 2 (by omega)).up (Nat.le_refl _) (by decide) (Nat.le_refl _)
  refine (Fine.tupN (n := 5) (d := 2) (W := 8300) (fun e he => ?_) (by cases E <;> exact Nat.le_of_ble_eq_true rfl)).up (Nat.le_refl _) (by decide) (Nat.le_refl _)
  rcases List.mem_cons.mp he with rfl | he
  · exact (fnS 2 hw).up (Nat.le_refl _) (by decide) (Nat.le_refl _)
  cases E with
  | jp m =>
    simp only [Stp.rest, List.mem_cons, List.not_mem_nil, or_false] at he
    subst he
    exact n h
  | br a m k =>
    simp only [Stp.rest, List.mem_cons, List.not_mem_nil, or_false] at he
    rcases he with rfl | rfl | rfl
    · exact o h.1
    · exact n h.2.1
    · exact n h.2.2
  | rt a =>
    simp only [Stp.rest, List.mem_cons, List.not_mem_nil, or_false] at he
    subst he
    cases a with
    | none => exact (Fine.none 0 2).up (Nat.le_refl _) (by decide) (Nat.le_refl _)
    | some a => exact o (h a rfl)
  | ht i =>
    simp only [Stp.rest, List.mem_cons, List.not_mem_nil, or_false] at he
    subst he
    have : (65536 : Int) < 10 ^ 9 := by decide
    exact (fnI 2 h.1 (by have := h.2; omega)).up (Nat.le_refl _) (by decide) (Nat.le_refl _)
theorem fnB {N B : Nat} {b : Blk} (hN : N ≤ 10) (hB : B ≤ 9) (h : BkOk N B b) : Fine 0 700000 5 b.D := by
  have f1 : Fine 0 631000 4 (.tuple (b.rows.map Rw.D)) := by
    refine (Fine.tupN (n := 15) (d := 3) (W := 42000) (fun e he => ?_) (by rw [List.length_map]; exact h.len)).up (Nat.le_refl _) (by decide) (Nat.le_refl _)
    obtain ⟨R, hR, rfl⟩ := List.mem_map.mp he
    exact fnR hN (h.rows R hR)
  have f2 := fnE hN hB h.stop
  refine ⟨?_, ?_, ?_⟩
  · rw [sm_tup]
    intro d hd
    simp only [List.mem_cons, List.not_mem_nil, or_false] at hd
    rcases hd with rfl | rfl
    · exact f1.sm
    · exact f2.sm
  · have h1 := f1.wt
    have h2 := f2.wt
    simp only [Blk.D]
    rw [wt_tup]
    simp only [wtAll] at *
    omega
  · have h1 := f1.dp
    have h2 := f2.dp
    simp only [Blk.D]
    rw [dp_tup]
    simp only [PyData.depthAll] at *
    omega
theorem fnG {N : Nat} {g : Gr} (h : GrOk N g) : Fine 0 6400000 7 g.D := by
  have f1 : Fine 0 6310000 6 (.tuple (g.blocks.map Blk.D)) := by
    refine (Fine.tupN (n := 9) (d := 5) (W := 700000) (fun e he => ?_) (by rw [List.length_map]; exact h.many)).up (Nat.le_refl _) (by decide) (Nat.le_refl _)
    obtain ⟨b, hb, rfl⟩ := List.mem_map.mp he
    exact fnB h.small h.many (h.blk b hb)
  have f2 : Fine 0 2000 0 (.int (g.count : Int)) := fnN 0 (by have := h.count; omega)
  refine ⟨?_, ?_, ?_⟩
  · rw [sm_tup]
    intro d hd
    simp only [List.mem_cons, List.not_mem_nil, or_false] at hd
    rcases hd with rfl | rfl
    · exact f2.sm
    · exact f1.sm
  · have h1 := f1.wt
    have h2 := f2.wt
    simp only [Gr.D]
    rw [wt_tup]
    simp only [wtAll] at *
    omega
  · have h1 := f1.dp
    have h2 := f2.dp
    simp only [Gr.D]
    rw [dp_tup]
    simp only [PyData.depthAll] at *
    omega
end P52

set_option maxHeartbeats 4000000
namespace K52
open PySem PySem.Spec PyProof.Rows L2 HG
/-! ### the deck: a dict of three -/
abbrev kC : Key := Sum.inr "cells"
abbrev kM : Key := Sum.inr "total"
abbrev kN : Key := Sum.inr "draws"
def deckD (c : Addr) (m t : Int) : List (Key × V) := [(kC, .ref c), (kM, .int m), (kN, .int t)]
structure Deck (d c : Addr) (n : Nat) (H : Hp) : Prop where
  ex : ∃ (ns : List Int) (m t : Int), H d = some (.dK (deckD c m t)) ∧ H c = some (.lst (ns.map V.int)) ∧ 0 ≤ t ∧ t ≤ n ∧ ns.length ≤ 63
theorem Deck.ne {d c : Addr} {n : Nat} {H : Hp} (D : Deck d c n H) : d ≠ c := fun e => by
  obtain ⟨ns, m, t, h1, h2, _⟩ := D.ex
  rw [e, h2] at h1
  cases h1
theorem Deck.up {d c : Addr} {n m : Nat} {H : Hp} (D : Deck d c n H) (h : n ≤ m) : Deck d c m H := by
  obtain ⟨ns, x, t, h1, h2, h4, h5, h6⟩ := D.ex
  exact ⟨ns, x, t, h1, h2, h4, by omega, h6⟩
theorem Deck.upd {d c p : Addr} {n : Nat} {H : Hp} {o : HO} (D : Deck d c n H) (h1 : p ≠ d) (h2 : p ≠ c) : Deck d c n (upd H p o) := by
  obtain ⟨ns, m, t, e1, e2, r⟩ := D.ex
  exact ⟨ns, m, t, by rw [upd_ne h1.symm]; exact e1, by rw [upd_ne h2.symm]; exact e2, r⟩
theorem Deck.has {d c p : Addr} {n : Nat} {H : Hp} (D : Deck d c n H) (hp : H p = none) : p ≠ d ∧ p ≠ c := by
  obtain ⟨ns, m, t, e1, e2, r⟩ := D.ex
  exact ⟨(ne_of_none e1 hp).symm, (ne_of_none e2 hp).symm⟩
theorem Deck.new {d c p : Addr} {n : Nat} {H : Hp} {o : HO} (D : Deck d c n H) (hp : H p = none) : Deck d c n (L2.upd H p o) := D.upd (D.has hp).1 (D.has hp).2
theorem Deck.same {d c : Addr} {n : Nat} {H H' : Hp} (D : Deck d c n H) (s : Same H H') : Deck d c n H' := by
  obtain ⟨ns, m, t, e1, e2, r⟩ := D.ex
  exact ⟨ns, m, t, s _ _ e1, s _ _ e2, r⟩
section
variable {d c : Addr} {m t : Int} {H : Hp}
theorem get_c (h : H d = some (.dK (deckD c m t))) : DGet H d (.str "cells") (some (.ref c)) := DGet.k (k := kC) h
theorem get_m (h : H d = some (.dK (deckD c m t))) : DGet H d (.str "total") (some (.int m)) := DGet.k (k := kM) h
theorem get_t (h : H d = some (.dK (deckD c m t))) : DGet H d (.str "draws") (some (.int t)) := DGet.k (k := kN) h
theorem put_t {x : Int} (h : H d = some (.dK (deckD c m t))) : DPut H d (.str "draws") (.int x) (upd H d (.dK (deckD c m x))) := DPut.k (k := kN) h (by show 3 < sizeLine; decide)
end
section
variable {P : Program} {w : World} {K : PySem.W.Frag} {mg : Str → Option Value} {base : Heap}
/-! ### _law_draw -/
def spDraw : Sp := fun vs H Q _ => ∃ (d c : Addr) (n : Nat) (many : Int), vs = [.ref d, .int many] ∧ 0 < many ∧ many < 10 ^ 40 ∧ n < 2 ^ 60 ∧ Deck d c n H ∧
  ∀ (r : Int) (H' : Hp), 0 ≤ r → r < many → Deck d c (n + 1) H' → Ext d c H H' → Q (.int r) H'
theorem many_small {many : Int} (h0 : 0 < many) (h : many < 10 ^ 40) : many.natAbs < 2 ^ 200 := by
  have e : (10 : Int) ^ 40 < 2 ^ 200 := by decide
  omega
theorem mod_small (x : Int) {m : Int} (h0 : 0 < m) (hm : m < 2 ^ 63) : -(2 ^ 64) < x % m ∧ x % m < 2 ^ 64 := by
  have h1 := Int.emod_nonneg x (show m ≠ 0 by omega)
  have h2 := Int.emod_lt_of_pos x h0
  omega
set_option pp.maxSteps 600 in
theorem c_draw (T : Txt w K mg) : Cal P w K mg base "_law_draw" 1 ["_law_deck_here", "_law_many"] spDraw := by
  obtain ⟨fd, F⟩ := T.d__law_draw
  refine ⟨⟨fd, F.ok sc__law_draw (fun vs H Q E h => ?_) (fun cdv A outer s H vs Q E hr h => ?_), F.bindsN fun _ _ _ _ _ _ us hl => match us, hl with | [_, _], _ => rfl⟩, T.g _ (by decide), F.kp⟩
  · obtain ⟨d, c, n, many, rfl, _⟩ := h
    rfl
  obtain ⟨d, c, n, many, rfl, hm0, hm1, hn, D, q⟩ := h
  obtain ⟨ns, m, t, hd, hc, ht, htn, hns⟩ := D.ex
  have hu := hu_of hr
  have ndc := D.ne
  refine ⟨_, PSs.nox (pss_cons (ps_par (i := 2) (j := 3) rfl sc__law_draw.nd rfl rfl (by decide) rfl rfl (pa_cons (pe_op op_add (pe_dget hu (pv 0) pe_str (fun _ _ => rfl)) pe_int) (pa_cons (pe_dget hu (pv 0) pe_str (fun _ _ => rfl)) pa_nil)) (by rfl))
      (pss_cons (ps_dput hu (pv 0) pe_str (pv 2) rfl)
      (pss_cons (ps_if (pt_cmpR (op_neDK (K := K) rfl hr.units) (pe_dget hu (pv 0) pe_str (fun _ _ => rfl)) (pe_lst pa_nil) (nomark _)) (pss_cons (ps_set (i := 3) sc__law_draw.nd rfl (.inl rfl) (pe_bm0 PySem.F.plainAttrs_list PySem.F.slot_list_pop PySem.F.type_list_pop mt_pop (pe_dget hu (pv 0) pe_str (fun _ _ => rfl))))
      (pss_cons (ps_if (pt_cmpR op_ge (pv 3) (pe_op op_pow pe_int pe_int) (nomark _)) (pss_cons (ps_expr (pe_bm PySem.F.plainAttrs_list PySem.F.slot_list_append PySem.F.type_list_append mt_append (pe_dget hu (pv 0) pe_str (fun _ _ => rfl)) (pa_cons (pe_op op_fdivW (pv 3) (pv 1)) pa_nil)))
      (pss_one (ps_ret (pe_op op_mod (pv 3) (pv 1))))) pss_nil)
      (pss_one (ps_set (i := 3) sc__law_draw.nd rfl (.inl rfl) (pe_op op_add (pv 3) (pe_dget hu (pv 0) pe_str (fun _ _ => rfl))))))) pss_nil)
      (pss_cons (ps_set (i := 4) sc__law_draw.nd rfl (.inl rfl) (pe_op op_mod (pe_op op_mul (pe_op op_add (pe_op op_add (pe_op op_mod (pv 3) pe_int) (pe_op op_mul (pe_op op_mul pe_int (pv 2)) (pv 2))) pe_int) pe_int) pe_int))
      (pss_cons (ps_set (i := 4) sc__law_draw.nd rfl (.inl rfl) (pe_op op_mod (pe_op op_add (pe_op op_add (pe_op op_mul (pv 4) (pv 4)) (pe_op op_mul pe_int (pv 2))) pe_int) pe_int))
      (pss_one (ps_ret (pe_op op_mod (pe_op op_fdiv (pe_op op_mod (pe_op op_mul (pv 4) pe_int) pe_int) pe_int) (pv 1))))))))), ?_⟩
  refine ⟨.ref d, rfl, d, .int t, rfl, get_t hd, t, 1, rfl, rfl, .ref d, rfl, d, .int m, rfl, get_m hd, ?_⟩
  refine ⟨_, _, rfl, .int (t + 1), rfl, .ref d, rfl, d, _, rfl, put_t hd, ?_⟩
  have hd1 : (upd H d (.dK (deckD c m (t + 1)))) d = some (.dK (deckD c m (t + 1))) := upd_same
  have hc1 : (upd H d (.dK (deckD c m (t + 1)))) c = some (.lst (ns.map V.int)) := by rw [upd_ne ndc.symm]; exact hc
  have x1 : Ext d c H (upd H d (.dK (deckD c m (t + 1)))) := Ext.d
  generalize upd H d (.dK (deckD c m (t + 1))) = H1 at hd1 hc1 x1 ⊢
  -- if d['cells'] != []
  refine ⟨.ref d, rfl, d, .ref c, rfl, get_c hd1, Nat.zero_le _, fun p hp => ?_⟩
  have hd2 := upd_get (o := .lst []) hp hd1
  have hc2 := upd_get (o := .lst []) hp hc1
  have x2 : Ext d c H (upd H1 p (.lst [])) := x1.trans (Ext.new hp)
  have hp2 : (upd H1 p (.lst [])) p = some (.lst []) := upd_same
  generalize upd H1 p (.lst []) = H2 at hd2 hc2 x2 hp2 ⊢
  refine ⟨.list (ns.map PyData.int), .list [], .lst (.inl (.inl hc2)) (dpInts ns), .lst (.inl (.inl hp2)) .nil, shaped_ints ns, shaped_ints [], _, rfl, ?_⟩
  have dk : ∀ (H3 : Hp) (ns' : List Int), H3 d = some (.dK (deckD c m (t + 1))) → H3 c = some (.lst (ns'.map V.int)) → ns'.length ≤ 63 → Deck d c (n + 1) H3 :=
    fun H3 ns' a1 a2 a4 => ⟨ns', m, t + 1, a1, a2, by omega, by omega, a4⟩
  cases ns with
  | nil =>
    refine iteF ?_
    exact ⟨.int m, rfl, m, _, rfl, rfl, (by decide : (0 : Int) < 2147483629), .int (t + 1), rfl, _, _, rfl, rfl, .inl ⟨by decide, by decide⟩, .int (t + 1), rfl, _, _, rfl, rfl, .inr ⟨by omega, by omega⟩, _, _, rfl, rfl, _, _, rfl, rfl, _, _, rfl, rfl, .inr ⟨by decide, by decide⟩, _, _, rfl, rfl, (by decide : (0 : Int) < 2147483647),
      _, rfl, _, rfl, _, _, rfl, rfl, .inl (mod_small _ (by decide) (by decide)), .int (t + 1), rfl, _, _, rfl, rfl, .inl ⟨by decide, by decide⟩, _, _, rfl, rfl, _, _, rfl, rfl, _, _, rfl, rfl, (by decide : (0 : Int) < 2147483587),
      _, rfl, _, _, rfl, rfl, .inr ⟨by decide, by decide⟩, _, _, rfl, rfl, (by decide : (0 : Int) < 2147483563), _, _, rfl, rfl, ⟨by decide, by decide⟩, .int many, rfl, _, _, rfl, rfl, hm0,
      q _ _ (Int.emod_nonneg _ (by omega)) (Int.emod_lt_of_pos _ hm0) (dk H2 [] hd2 hc2 hns) x2⟩
  | cons x r =>
    refine iteT ?_
    obtain ⟨y, hy⟩ : ∃ y, (x :: r)[(x :: r).length - 1]? = some y := ⟨_, List.getElem?_eq_getElem (by simp)⟩
    refine ⟨.ref d, rfl, d, .ref c, rfl, get_c hd2, .inl ⟨rfl, _, .inl (.inl hc2)⟩, c, _, .int y, rfl, rfl, hc2, ?_, ?_⟩
    · rw [List.length_map, List.getElem?_map, hy]
      rfl
    have er : ((x :: r).map V.int).dropLast = ((x :: r).dropLast).map V.int := (List.map_dropLast ..).symm
    rw [er]
    have hr1 : ((x :: r).dropLast).length ≤ 62 := by rw [List.length_dropLast]; omega
    generalize (x :: r).dropLast = rs at hr1 ⊢
    generalize eH : upd H2 c (.lst (rs.map V.int)) = H3
    have hd3 : H3 d = some (.dK (deckD c m (t + 1))) := by rw [← eH, upd_ne ndc]; exact hd2
    have hc3 : H3 c = some (.lst (rs.map V.int)) := by rw [← eH]; exact upd_same
    have x3 : Ext d c H H3 := by rw [← eH]; exact x2.trans Ext.c
    refine ⟨.int y, rfl, _, _, rfl, rfl, ⟨by decide, by decide, by decide⟩, _, _, rfl, rfl, _, rfl, ite2 (fun e1 => ?_) (fun e1 => ?_)⟩
    · have wx : CDivW y many := wide_div hm0 (many_small hm0 hm1) (by decide) (by decide)
      refine ⟨.ref d, rfl, d, .ref c, rfl, get_c hd3, .inl ⟨rfl, _, .inl (.inl hc3)⟩, .int y, rfl, .int many, rfl, y, many, rfl, rfl, wx, c, _, _, rfl, rfl, hc3, ?_, ?_⟩
      · rw [List.length_map]
        exact Nat.lt_of_le_of_lt hr1 (by decide)
      refine ⟨.int y, rfl, .int many, rfl, y, many, rfl, rfl, hm0, ?_⟩
      refine q _ _ (Int.emod_nonneg _ (by omega)) (Int.emod_lt_of_pos _ hm0) (dk _ (rs ++ [y / many]) ?_ ?_ ?_) (x3.trans Ext.c)
      · rw [upd_ne ndc]; exact hd3
      · rw [upd_same, List.map_append]; rfl
      · rw [List.length_append]
        show rs.length + 1 ≤ 63
        omega
    refine ⟨.int y, rfl, .ref d, rfl, d, .int m, rfl, get_m hd3, y, m, rfl, rfl, ?_⟩
    exact ⟨.int (y + m), rfl, (y + m), _, rfl, rfl, (by decide : (0 : Int) < 2147483629), .int (t + 1), rfl, _, _, rfl, rfl, .inl ⟨by decide, by decide⟩, .int (t + 1), rfl, _, _, rfl, rfl, .inr ⟨by omega, by omega⟩, _, _, rfl, rfl, _, _, rfl, rfl, _, _, rfl, rfl, .inr ⟨by decide, by decide⟩, _, _, rfl, rfl, (by decide : (0 : Int) < 2147483647),
      _, rfl, _, rfl, _, _, rfl, rfl, .inl (mod_small _ (by decide) (by decide)), .int (t + 1), rfl, _, _, rfl, rfl, .inl ⟨by decide, by decide⟩, _, _, rfl, rfl, _, _, rfl, rfl, _, _, rfl, rfl, (by decide : (0 : Int) < 2147483587),
      _, rfl, _, _, rfl, rfl, .inr ⟨by decide, by decide⟩, _, _, rfl, rfl, (by decide : (0 : Int) < 2147483563), _, _, rfl, rfl, ⟨by decide, by decide⟩, .int many, rfl, _, _, rfl, rfl, hm0,
      q _ _ (Int.emod_nonneg _ (by omega)) (Int.emod_lt_of_pos _ hm0) (dk H3 rs hd3 hc3 (by omega)) x3⟩
/-! ### _law_deck -/
theorem cut_to (xs : List V) (k : Nat) : cutV xs none (some (k : Int)) = xs.take k := by
  unfold cutV
  rw [HT.sIx_none, HT.sIx_nat, Nat.sub_zero, List.drop_zero]
  by_cases h : k ≤ xs.length
  · rw [Nat.min_eq_left h]
  · rw [Nat.min_eq_right (by omega), List.take_length, List.take_of_length_le (by omega)]
theorem cut63 {ns : List Int} (h : ns.length ≤ 63) : cutV (ns.map V.int) none (some 63) = ns.map V.int := by
  have e := cut_to (ns.map V.int) 63
  rw [List.take_of_length_le (by rw [List.length_map]; exact h)] at e
  exact e
def spDeck (K : PySem.W.Frag) : Sp := fun vs H Q _ => ∃ (a : Addr) (ns : List Int), vs = [.ref a] ∧ SqL K H a (ns.map V.int) ∧ ns.length ≤ 63 ∧ ∀ (d c : Addr) (H' : Hp), Same H H' → Deck d c 0 H' → Q (.ref d) H'
set_option pp.maxSteps 600 in
theorem c_deck (T : Txt w K mg) : Cal P w K mg base "_law_deck" 1 ["_law_script"] (spDeck K) := by
  obtain ⟨fd, F⟩ := T.d__law_deck
  refine ⟨⟨fd, F.ok sc__law_deck (fun vs H Q E h => ?_) (fun cdv A outer s H vs Q E hr h => ?_), F.bindsN fun _ _ _ _ _ _ us hl => match us, hl with | [_], _ => rfl⟩, T.g _ (by decide), F.kp⟩
  · obtain ⟨a, ns, rfl, _⟩ := h
    rfl
  obtain ⟨a, ns, rfl, hS, hn, q⟩ := h
  refine ⟨_, PSs.nox (pss_cons (ps_par (i := 1) (j := 2) rfl sc__law_deck.nd rfl rfl (by decide) rfl rfl (pa_cons (pe_callTy call_list_of (by rfl) T.n_list (by decide +kernel) (pa_cons (pe_slice (sl_listK (K := K) rfl) (pv 0) po_none (po_some pe_int)) pa_nil)) (pa_cons pe_int pa_nil)) (by rfl))
      (pss_cons (ps_for PassesOwn.never rfl (pi_list (pv 1)) (pg_name (i := 3) sc__law_deck.nd rfl (.inl rfl)) (pss_one (ps_set (i := 2) sc__law_deck.nd rfl (.inl rfl) (pe_op op_mod (pe_op op_add (pe_op op_add (pe_op op_mul (pv 2) pe_int) (pe_op op_mod (pv 3) pe_int)) pe_int) pe_int))))
      (pss_one (ps_ret (pe_disp (pps_cons pe_str (pe_revL (pv 1)) (pps_cons pe_str (pv 2) (pps_cons pe_str pe_int pps_nil))) (by rfl) (by rfl) (fun z => by cases z) (by decide)))))), ?_⟩
  refine ⟨.ref a, rfl, 63, rfl, a, _, rfl, hS, fun p1 hp1 => ?_⟩
  rw [cut63 hn]
  have s1 : Same H (upd H p1 (.lst (ns.map V.int))) := fun b o h => upd_get hp1 h
  have h1 : (upd H p1 (.lst (ns.map V.int))) p1 = some (.lst (ns.map V.int)) := upd_same
  generalize upd H p1 (.lst (ns.map V.int)) = H1 at s1 h1 ⊢
  refine ⟨p1, _, rfl, .inl (.inl (.inl h1)), fun c0 hc0 => ?_⟩
  have s2 : Same H1 (upd H1 c0 (.lst (ns.map V.int))) := fun b o h => upd_get hc0 h
  have h2 : (upd H1 c0 (.lst (ns.map V.int))) c0 = some (.lst (ns.map V.int)) := upd_same
  have s02 := s1.trans s2
  generalize upd H1 c0 (.lst (ns.map V.int)) = H2 at s2 s02 h2 ⊢
  refine ⟨_, _, rfl, .ref c0, rfl, c0, rfl, ⟨_, .inl (.inl h2)⟩, ?_⟩
  refine for_list (xs := ns.map V.int) (fun i σ H3 => ∃ m x3, σ = [some (.ref a), some (.ref c0), some (.int m), x3] ∧ H3 = H2) ⟨_, _, rfl, rfl⟩ ?_ ?_ ?_
  · rintro i σ H3 _ ⟨m, x3, rfl, rfl⟩
    exact .inl (.inl h2)
  · rintro i x σ H3 hx ⟨m, x3, rfl, rfl⟩
    rw [List.getElem?_map] at hx
    obtain ⟨z, hz, rfl⟩ := Option.map_eq_some_iff.mp hx
    exact ⟨.int m, rfl, _, _, rfl, rfl, .inr ⟨by decide, by decide⟩, .int z, rfl, _, _, rfl, rfl, (by decide : (0 : Int) < 2147483563 + 66), _, _, rfl, rfl, _, _, rfl, rfl, _, _, rfl, rfl, (by decide : (0 : Int) < 2147483587), _, _, rfl, rfl⟩
  · rintro σ H3 ⟨m, x3, rfl, rfl⟩
    intro d hd
    have s3 : Same H3 (upd H3 d (.dK [])) := fun b o h => upd_get hd h
    have h3 : (upd H3 d (.dK [])) d = some (.dK []) := upd_same
    generalize upd H3 d (.dK []) = H4 at s3 h3 ⊢
    refine ⟨.ref c0, rfl, c0, _, rfl, .inl (.inl (s3 _ _ h2)), fun c hc => ?_⟩
    rw [← List.map_reverse]
    have s4 : Same H4 (upd H4 c (.lst (ns.reverse.map V.int))) := fun b o h => upd_get hc h
    have h4 : (upd H4 c (.lst (ns.reverse.map V.int))) c = some (.lst (ns.reverse.map V.int)) := upd_same
    generalize upd H4 c (.lst (ns.reverse.map V.int)) = H5 at s4 h4 ⊢
    have hd5 : H5 d = some (.dK []) := s4 _ _ h3
    refine ⟨.int m, rfl, hd5, [(kC, .ref c), (kM, .int m), (kN, .int 0)], rfl, (by show 3 ≤ 15; decide), ?_⟩
    have ndc : c ≠ d := fun e => by rw [e, hd5] at h4; cases h4
    refine q d c _ (fun b o h => ?_) ⟨ns.reverse, m, 0, upd_same, by rw [upd_ne ndc]; exact h4, by decide, by decide, by rw [List.length_reverse]; exact hn⟩
    have hb := s02 _ _ h
    rw [upd_ne (ne_of_none hb hd)]
    exact s4 _ _ (s3 _ _ hb)
/-! ### _law_pick -/
def spPick (K : PySem.W.Frag) : Sp := fun vs H Q _ => ∃ (d c a : Addr) (n : Nat) (xs : List V), vs = [.ref d, .ref a] ∧ Deck d c n H ∧ n < 2 ^ 60 ∧ SqL K (off d c H) a xs ∧ 0 < xs.length ∧ xs.length ≤ 1000 ∧ ∀ (j : Nat) (y : V) (H' : Hp), xs[j]? = some y → Deck d c (n + 1) H' → Ext d c H H' → Q y H'
theorem c_pick (T : Txt w K mg) : Cal P w K mg base "_law_pick" 2 ["_law_deck_here", "_law_some"] (spPick K) := by
  obtain ⟨fd, F⟩ := T.d__law_pick
  have C__law_draw := c_draw (P := P) (w := w) (base := base) T
  refine ⟨⟨fd, F.ok sc__law_pick (fun vs H Q E h => ?_) (fun cdv A outer s H vs Q E hr h => ?_), F.bindsN fun _ _ _ _ _ _ us hl => match us, hl with | [_, _], _ => rfl⟩, T.g _ (by decide), F.kp⟩
  · obtain ⟨d, c, a, n, xs, rfl, _⟩ := h
    rfl
  obtain ⟨d, c, a, n, xs, rfl, D, hn, hS, h0, h1, q⟩ := h
  refine ⟨_, PSs.nox (pss_one (ps_ret (pe_ix (ix_listK (K := K) rfl) (pv 1) (pe_cal C__law_draw (hr.mono (by omega)) (by rfl) (pa_cons (pv 0) (pa_cons (pe_callB (lenK (K := K) rfl) (by rfl) T.n_len (by decide +kernel) (pa_cons (pv 1) pa_nil)) pa_nil))) (fun _ _ => rfl)))), ?_⟩
  refine ⟨.ref a, rfl, .ref d, rfl, .ref a, rfl, .ref a, xs.length, rfl, .inl ⟨xs, offL hS, rfl⟩, d, c, n, xs.length, rfl, by omega, ?_, hn, D, fun r H' r0 r1 D' X => ?_⟩
  · have : (1000 : Int) < 10 ^ 40 := by decide
    omega
  · obtain ⟨j, rfl⟩ := Int.eq_ofNat_of_zero_le r0
    have hj : j < xs.length := by omega
    exact ⟨a, xs, j, xs[j], rfl, rfl, offL (X.sqL hS), atI_nat (List.getElem?_eq_getElem hj), q j _ _ (List.getElem?_eq_getElem hj) D' X⟩
end
end K52

set_option maxHeartbeats 4000000
namespace K52
open PySem PySem.Spec PyProof.Rows L2 HG P52
def ovV : Option Nat → V
  | none => .non
  | some n => .int (n : Int)
abbrev settersV : List V := [.str "const", .str "copy", .str "op", .str "load", .str "read", .str "call", .str "apply"]
theorem set_no {R : Rw} (h : inV (.str R.word) settersV = false) : R.set = none := by cases R <;> first | rfl | (dsimp only [Rw.word] at h; exact absurd h (by decide +kernel))
theorem set_yes {R : Rw} (h : inV (.str R.word) settersV = true) : ∃ r, R.rest = ovD R.set :: r := by cases R <;> first | exact ⟨_, rfl⟩ | (dsimp only [Rw.word] at h; exact absurd h (by decide +kernel))
theorem dp_ov {K : PySem.W.Frag} {H : Hp} {z : V} {o : Option Nat} (h : Dp K H z (ovD o)) : z = ovV o := by
  cases o <;> (cases h; rfl)
theorem ov_dp {K : PySem.W.Frag} {H : Hp} (o : Option Nat) : Dp K H (ovV o) (ovD o) := by
  cases o
  · exact .non
  · exact .int _
def spSetBy (K : PySem.W.Frag) : Sp := fun vs H Q _ => ∃ (v : V) (R : Rw), vs = [v] ∧ Dp K H v R.D ∧ Q (ovV R.set) H
section
variable {P : Program} {w : World} {K : PySem.W.Frag} {mg : Str → Option Value} {base : Heap}
set_option pp.maxSteps 600 in
theorem c_set_by (T : Txt w K mg) : Cal P w K mg base "set_by" 1 ["instruction"] (spSetBy K) := by
  obtain ⟨fd, F⟩ := T.d_set_by
  refine ⟨⟨fd, F.ok sc_set_by (fun vs H Q E h => ?_) (fun cdv A outer s H vs Q E hr h => ?_), F.bindsN fun _ _ _ _ _ _ us hl => match us, hl with | [_], _ => rfl⟩, T.g _ (by decide), F.kp⟩
  · obtain ⟨v, R, rfl, _⟩ := h
    rfl
  obtain ⟨v, R, rfl, hv, q⟩ := h
  refine ⟨_, PSs.nox (pss_one (ps_ret (pe_ifExp (pt_cmpR (op_in_seqK (K := K) rfl) (pe_ix (ix_P (K := K) rfl) (pv 0) pe_int (fun _ _ => rfl)) (pe_glob (v := .ref _) (by rfl) (T.g "SETTERS" (by decide)) rfl) (by rfl)) (pe_ix (ix_P (K := K) rfl) (pv 0) pe_int (fun _ _ => rfl)) pe_non))), ?_⟩
  refine ⟨v, rfl, _, 0, _, hv, rfl, rfl, fun z hz => ?_⟩
  cases hz
  refine ⟨_, _, rfl, .inr (T.u_SETTERS _), rfl, rfl, _, rfl, ?_⟩
  show if inV (.str R.word) settersV = true then _ else _
  cases hb : inV (.str R.word) settersV with
  | true =>
    obtain ⟨r, hr1⟩ := set_yes hb
    refine iteT ⟨v, rfl, _, 1, ovD R.set, hv, rfl, (by show R.rest[0]? = _; rw [hr1]; rfl), fun z hz => ?_⟩
    rw [dp_ov hz]
    exact q
  | false =>
    rw [set_no hb] at q
    exact iteF q
/-! ### operands_of -/
def eqw (x y : Str) : Bool := decide (V.str x = V.str y)
abbrev in2 (x y z : Str) : Bool := inV (.str x) [.str y, .str z]
theorem ops1 {R : Rw} (h : in2 R.word "const" "load" = true) : R.ops = [] := by cases R <;> first | rfl | (dsimp only [Rw.word] at h; exact absurd h (by decide +kernel))
theorem ops2 {R : Rw} (h : eqw R.word "copy" = true) : ∃ v u, R = .cp v u := by cases R <;> first | exact ⟨_, _, rfl⟩ | (dsimp only [Rw.word] at h; exact absurd h (by decide +kernel))
theorem ops3 {R : Rw} (h : eqw R.word "apply" = true) : ∃ v f as, R = .ap v f as := by cases R <;> first | exact ⟨_, _, _, rfl⟩ | (dsimp only [Rw.word] at h; exact absurd h (by decide +kernel))
theorem ops4 {R : Rw} (h : eqw R.word "call" = true) : ∃ v x as, R = .ca v x as := by cases R <;> first | exact ⟨_, _, _, rfl⟩ | (dsimp only [Rw.word] at h; exact absurd h (by decide +kernel))
theorem ops5 {R : Rw} (h : in2 R.word "op" "read" = true) : R.L.drop 3 = R.ops.map oD := by cases R <;> first | rfl | (dsimp only [Rw.word] at h; exact absurd h (by decide +kernel))
theorem ops6 {R : Rw} (h : eqw R.word "print" = true) : R.L.drop 1 = R.ops.map oD := by cases R <;> first | rfl | (dsimp only [Rw.word] at h; exact absurd h (by decide +kernel))
theorem ops7 {R : Rw} (h1 : in2 R.word "const" "load" = false) (h2 : eqw R.word "copy" = false) (h3 : eqw R.word "apply" = false) (h4 : eqw R.word "call" = false) (h5 : in2 R.word "op" "read" = false)
    (h6 : eqw R.word "print" = false) : R.L.drop 2 = R.ops.map oD := by
  cases R <;> first | rfl | (dsimp only [Rw.word] at h1; exact absurd h1 (by decide +kernel)) | (dsimp only [Rw.word] at h2; exact absurd h2 (by decide +kernel)) | (dsimp only [Rw.word] at h3; exact absurd h3 (by decide +kernel)) | (dsimp only [Rw.word] at h4; exact absurd h4 (by decide +kernel)) | (dsimp only [Rw.word] at h5; exact absurd h5 (by decide +kernel)) | (dsimp only [Rw.word] at h6; exact absurd h6 (by decide +kernel))
def spOps (K : PySem.W.Frag) : Sp := fun vs H Q _ => ∃ (v : V) (R : Rw), vs = [v] ∧ Dp K H v R.D ∧ R.ops.length ≤ 1000 ∧ ∀ z H', Same H H' → Dp K H' z (.tuple (R.ops.map oD)) → Q z H'
theorem sl1000 {n m : Nat} (h : n ≤ 1000) (h2 : m ≤ 100000) : m + n ≤ sizeLine := by rw [sizeLine_eq]; omega
set_option pp.maxSteps 600 in
theorem c_operands_of (T : Txt w K mg) : Cal P w K mg base "operands_of" 1 ["instruction"] (spOps K) := by
  obtain ⟨fd, F⟩ := T.d_operands_of
  refine ⟨⟨fd, F.ok sc_operands_of (fun vs H Q E h => ?_) (fun cdv A outer s H vs Q E hr h => ?_), F.bindsN fun _ _ _ _ _ _ us hl => match us, hl with | [_], _ => rfl⟩, T.g _ (by decide), F.kp⟩
  · obtain ⟨v, R, rfl, _⟩ := h
    rfl
  obtain ⟨v, R, rfl, hv, hl, q⟩ := h
  refine ⟨_, PSs.nox (pss_cons (ps_set (i := 1) sc_operands_of.nd rfl (.inl rfl) (pe_ix (ix_P (K := K) rfl) (pv 0) pe_int (fun _ _ => rfl)))
      (pss_cons (ps_if (pt_cmpR (op_in_seqK (K := K) rfl) (pv 1) (pe_tup (pa_cons pe_str (pa_cons pe_str pa_nil))) (by rfl)) (pss_one (ps_ret (pe_tup pa_nil))) pss_nil)
      (pss_cons (ps_if (pt_cmpR op_eq (pv 1) pe_str (nomark _)) (pss_one (ps_ret (pe_tup (pa_cons (pe_tup (pa_cons pe_str (pa_cons (pe_ix (ix_P (K := K) rfl) (pv 0) pe_int (fun _ _ => rfl)) pa_nil))) pa_nil)))) pss_nil)
      (pss_cons (ps_if (pt_cmpR op_eq (pv 1) pe_str (nomark _)) (pss_one (ps_ret (pe_op (op_catP (K := K) rfl) (pe_tup (pa_cons (pe_tup (pa_cons pe_str (pa_cons (pe_ix (ix_P (K := K) rfl) (pv 0) pe_int (fun _ _ => rfl)) pa_nil))) pa_nil)) (pe_ix (ix_P (K := K) rfl) (pv 0) pe_int (fun _ _ => rfl))))) pss_nil)
      (pss_cons (ps_if (pt_cmpR op_eq (pv 1) pe_str (nomark _)) (pss_one (ps_ret (pe_ix (ix_P (K := K) rfl) (pv 0) pe_int (fun _ _ => rfl)))) pss_nil)
      (pss_cons (ps_if (pt_cmpR (op_in_seqK (K := K) rfl) (pv 1) (pe_tup (pa_cons pe_str (pa_cons pe_str pa_nil))) (by rfl)) (pss_one (ps_ret (pe_slice (sl_P (K := K) rfl) (pv 0) (po_some pe_int) po_none))) pss_nil)
      (pss_cons (ps_if (pt_cmpR op_eq (pv 1) pe_str (nomark _)) (pss_one (ps_ret (pe_slice (sl_P (K := K) rfl) (pv 0) (po_some pe_int) po_none))) pss_nil)
      (pss_one (ps_ret (pe_slice (sl_P (K := K) rfl) (pv 0) (po_some pe_int) po_none)))))))))), ?_⟩
  refine ⟨v, rfl, _, 0, _, hv, rfl, rfl, fun z hz => ?_⟩
  cases hz
  refine ⟨_, rfl, (by show 2 ≤ sizeLine; decide), fun p1 hp1 => ⟨_, _, rfl, .inr (.inl (.inl upd_same)), rfl, rfl, _, rfl, ?_⟩⟩
  have s1 := same_new (o := .tup [.str "const", .str "load"]) hp1
  generalize upd H p1 (.tup [.str "const", .str "load"]) = H1 at s1 ⊢
  show if in2 R.word "const" "load" = true then _ else _
  cases h1 : in2 R.word "const" "load" with
  | true =>
    refine iteT ⟨(by show 0 ≤ sizeLine; decide), fun p hp => q _ _ (s1.trans (same_new hp)) ?_⟩
    rw [ops1 h1]
    exact dp_tupN hp .nil
  | false =>
    have hv1 := dp_mono s1 _ _ hv
    refine iteF ⟨_, rfl, rfl, _, rfl, ?_⟩
    show if eqw R.word "copy" = true then _ else _
    cases h2 : eqw R.word "copy" with
    | true =>
      obtain ⟨a, b, rfl⟩ := ops2 h2
      refine iteT ⟨v, rfl, _, 2, _, hv1, rfl, rfl, fun z hz => ⟨(by show 2 ≤ sizeLine; decide), fun p hp => ⟨(by show 1 ≤ sizeLine; decide), fun p2 hp2 => q _ _ (s1.trans ((same_new hp).trans (same_new hp2))) ?_⟩⟩⟩
      exact dp_tupN hp2 (.cons (dp_tupN hp (.cons (.str _) (.cons hz .nil))) .nil)
    | false =>
      refine iteF ⟨_, rfl, rfl, _, rfl, ?_⟩
      show if eqw R.word "apply" = true then _ else _
      cases h3 : eqw R.word "apply" with
      | true =>
        obtain ⟨a, f, as, rfl⟩ := ops3 h3
        refine iteT ⟨v, rfl, _, 2, _, hv1, rfl, rfl, fun z hz => ⟨(by show 2 ≤ sizeLine; decide), fun p hp => ⟨(by show 1 ≤ sizeLine; decide), fun p2 hp2 => ?_⟩⟩⟩
        have s2 := (same_new (o := .tup [.str "var", z]) hp).trans (same_new (o := .tup [.ref p]) hp2)
        have h12 : Dp K (upd (upd H1 p (.tup [.str "var", z])) p2 (.tup [.ref p])) (.ref p2) (.tuple [vD f]) := dp_tupN hp2 (.cons (dp_tupN hp (.cons (.str _) (.cons hz .nil))) .nil)
        refine ⟨v, rfl, _, 3, _, dp_mono s2 _ _ hv1, rfl, rfl, fun z3 hz3 => ⟨[vD f], as.map oD, h12, hz3, ?_, fun z4 H4 s4 h4 => q _ _ (s1.trans (s2.trans s4)) h4⟩⟩
        have hl : as.length + 1 ≤ 1000 := hl
        rw [List.length_map]
        exact sl1000 (n := as.length) (m := 1) (by omega) (by decide)
      | false =>
        refine iteF ⟨_, rfl, rfl, _, rfl, ?_⟩
        show if eqw R.word "call" = true then _ else _
        cases h4 : eqw R.word "call" with
        | true =>
          obtain ⟨a, x, as, rfl⟩ := ops4 h4
          exact iteT ⟨v, rfl, _, 3, _, hv1, rfl, rfl, fun z hz => q _ _ s1 hz⟩
        | false =>
          refine iteF ⟨_, rfl, (by show 2 ≤ sizeLine; decide), fun p1 hp1 => ⟨_, _, rfl, .inr (.inl (.inl upd_same)), rfl, rfl, _, rfl, ?_⟩⟩
          have s2 := s1.trans (same_new (o := .tup [.str "op", .str "read"]) hp1)
          generalize upd H1 p1 (.tup [.str "op", .str "read"]) = H2 at s2 ⊢
          have hv2 := dp_mono s2 _ _ hv
          show if in2 R.word "op" "read" = true then _ else _
          cases h5 : in2 R.word "op" "read" with
          | true =>
            refine iteT ⟨v, rfl, 3, rfl, _, hv2, fun z H3 s3 h3 => q _ _ (s2.trans s3) ?_⟩
            rw [show (some (3 : Int)) = some ((3 : Nat) : Int) from rfl, cutP_from, ops5 h5] at h3
            exact h3
          | false =>
            refine iteF ⟨_, rfl, rfl, _, rfl, ?_⟩
            show if eqw R.word "print" = true then _ else _
            cases h6 : eqw R.word "print" with
            | true =>
              refine iteT ⟨v, rfl, 1, rfl, _, hv2, fun z H3 s3 h3 => q _ _ (s2.trans s3) ?_⟩
              rw [show (some (1 : Int)) = some ((1 : Nat) : Int) from rfl, cutP_from, ops6 h6] at h3
              exact h3
            | false =>
              refine iteF ⟨v, rfl, 2, rfl, _, hv2, fun z H3 s3 h3' => q _ _ (s2.trans s3) ?_⟩
              rw [show (some (2 : Int)) = some ((2 : Nat) : Int) from rfl, cutP_from, ops7 h1 h2 h3 h4 h5 h6] at h3'
              exact h3'
/-! ### operand_in_slots, with_set -/
def spOpS (K : PySem.W.Frag) : Sp := fun vs H Q _ => ∃ (v u : V) (a : Opd) (S : List PyData), vs = [v, u] ∧ Dp K H v (oD a) ∧ Dp K H u (.tuple S) ∧ (∀ n ∈ a.vars, n < S.length) ∧ ∀ z H', Same H H' → Dp K H' z (oS S a) → Q z H'
theorem sv_get {S : List PyData} {n : Nat} (h : n < S.length) : S[n]? = some (sv S n) := by
  unfold sv
  rw [List.getD_eq_getElem?_getD, List.getElem?_eq_getElem h]
  rfl
set_option pp.maxSteps 600 in
theorem c_operand_in_slots (T : Txt w K mg) : Cal P w K mg base "operand_in_slots" 1 ["operand", "slots"] (spOpS K) := by
  obtain ⟨fd, F⟩ := T.d_operand_in_slots
  refine ⟨⟨fd, F.ok sc_operand_in_slots (fun vs H Q E h => ?_) (fun cdv A outer s H vs Q E hr h => ?_), F.bindsN fun _ _ _ _ _ _ us hl => match us, hl with | [_, _], _ => rfl⟩, T.g _ (by decide), F.kp⟩
  · obtain ⟨v, u, a, S, rfl, _⟩ := h
    rfl
  obtain ⟨v, u, a, S, rfl, hv, hS, hn, q⟩ := h
  refine ⟨_, PSs.nox (pss_one (ps_ret (pe_ifExp (pt_val (pe_callB (isiK (K := K) rfl) (by rfl) T.n_isinstance (by decide +kernel) (pa_cons (pv 0) (pa_cons (pe_bltn (v := .ty "tuple") (u := .type "tuple") (by rfl) T.n_tuple (by decide +kernel) rfl) pa_nil)))) (pe_tup (pa_cons pe_str (pa_cons (pe_ix (ix_P (K := K) rfl) (pv 1) (pe_ix (ix_P (K := K) rfl) (pv 0) pe_int (fun _ _ => rfl)) (fun _ _ => rfl)) pa_nil))) (pv 0)))), ?_⟩
  refine ⟨v, rfl, v, .ty "tuple", _, _, _, rfl, .ty _, dp_ty hv, kit_ty (kit_tuple _), _, rfl, ?_⟩
  cases a with
  | w i => exact iteF ⟨v, rfl, q _ _ (Same.refl _) hv⟩
  | v n =>
    refine iteT ⟨u, rfl, v, rfl, _, 1, _, hv, rfl, rfl, fun z hz => ?_⟩
    cases hz
    refine ⟨_, n, _, hS, rfl, sv_get (hn n List.mem_cons_self), fun z2 hz2 => ⟨(by show 2 ≤ sizeLine; decide), fun p hp => q _ _ (same_new hp) (dp_tupN hp (.cons (.str _) (.cons hz2 .nil)))⟩⟩
def spWSet (K : PySem.W.Frag) : Sp := fun vs H Q _ => ∃ (v u : V) (ds : List PyData) (d : PyData), vs = [v, u] ∧ Dp K H v (.tuple ds) ∧ Dp K H u d ∧ ds.length ≤ 1000 ∧ ∀ z H', Same H H' → Dp K H' z (.tuple (ds.take 1 ++ [d] ++ ds.drop 2)) → Q z H'
set_option pp.maxSteps 600 in
theorem c_with_set (T : Txt w K mg) : Cal P w K mg base "with_set" 1 ["instruction", "variable"] (spWSet K) := by
  obtain ⟨fd, F⟩ := T.d_with_set
  refine ⟨⟨fd, F.ok sc_with_set (fun vs H Q E h => ?_) (fun cdv A outer s H vs Q E hr h => ?_), F.bindsN fun _ _ _ _ _ _ us hl => match us, hl with | [_, _], _ => rfl⟩, T.g _ (by decide), F.kp⟩
  · obtain ⟨v, u, ds, d, rfl, _⟩ := h
    rfl
  obtain ⟨v, u, ds, d, rfl, hv, hu, hl, q⟩ := h
  refine ⟨_, PSs.nox (pss_one (ps_ret (pe_op (op_catP (K := K) rfl) (pe_op (op_catP (K := K) rfl) (pe_slice (sl_P (K := K) rfl) (pv 0) po_none (po_some pe_int)) (pe_tup (pa_cons (pv 1) pa_nil))) (pe_slice (sl_P (K := K) rfl) (pv 0) (po_some pe_int) po_none)))), ?_⟩
  refine ⟨v, rfl, 1, rfl, _, hv, fun z1 H1 s1 h1 => ?_⟩
  rw [show (some (1 : Int)) = some ((1 : Nat) : Int) from rfl, cutP_to] at h1
  refine ⟨u, rfl, (by show 1 ≤ sizeLine; decide), fun p hp => ?_⟩
  have s2 := same_new (o := .tup [u]) hp
  refine ⟨_, [d], dp_mono s2 _ _ h1, dp_tupN hp (.cons (dp_mono s1 _ _ hu) .nil), ?_, fun z3 H3 s3 h3 => ?_⟩
  · rw [List.length_take, sizeLine_eq]
    show min 1 ds.length + 1 ≤ 16777216
    omega
  refine ⟨v, rfl, 2, rfl, _, dp_mono (s1.trans (s2.trans s3)) _ _ hv, fun z4 H4 s4 h4 => ?_⟩
  rw [show (some (2 : Int)) = some ((2 : Nat) : Int) from rfl, cutP_from] at h4
  refine ⟨_, _, dp_mono s4 _ _ h3, h4, ?_, fun z5 H5 s5 h5 => q _ _ (s1.trans (s2.trans (s3.trans (s4.trans s5)))) h5⟩
  rw [List.length_append, List.length_take, List.length_drop, sizeLine_eq]
  show min 1 ds.length + 1 + (ds.length - 2) ≤ 16777216
  omega
/-! ### operands_of_end -/
theorem stp1 {E : Stp} (h : eqw E.word "branch" = true) : ∃ a n m, E = .br a n m := by cases E <;> first | exact ⟨_, _, _, rfl⟩ | (dsimp only [Stp.word] at h; exact absurd h (by decide +kernel))
theorem stp2 {E : Stp} (h : eqw E.word "return" = true) : ∃ a, E = .rt a := by cases E <;> first | exact ⟨_, rfl⟩ | (dsimp only [Stp.word] at h; exact absurd h (by decide +kernel))
theorem stp3 {E : Stp} (h1 : eqw E.word "branch" = false) (h2 : eqw E.word "return" = false) : E.ops = [] := by
  cases E <;> first | rfl | (dsimp only [Stp.word] at h1; exact absurd h1 (by decide +kernel)) | (dsimp only [Stp.word] at h2; exact absurd h2 (by decide +kernel))
def spOpsE (K : PySem.W.Frag) : Sp := fun vs H Q _ => ∃ (v : V) (E : Stp), vs = [v] ∧ Dp K H v E.D ∧ ∀ z H', Same H H' → Dp K H' z (.tuple (E.ops.map oD)) → Q z H'
set_option pp.maxSteps 600 in
theorem c_operands_of_end (T : Txt w K mg) : Cal P w K mg base "operands_of_end" 1 ["terminator"] (spOpsE K) := by
  obtain ⟨fd, F⟩ := T.d_operands_of_end
  refine ⟨⟨fd, F.ok sc_operands_of_end (fun vs H Q E h => ?_) (fun cdv A outer s H vs Q E hr h => ?_), F.bindsN fun _ _ _ _ _ _ us hl => match us, hl with | [_], _ => rfl⟩, T.g _ (by decide), F.kp⟩
  · obtain ⟨v, E, rfl, _⟩ := h
    rfl
  obtain ⟨v, E1, rfl, hv, q⟩ := h
  refine ⟨_, PSs.nox (pss_cons (ps_if (PW.pt (pw_or (pt_cmpR op_eq (pe_ix (ix_P (K := K) rfl) (pv 0) pe_int (fun _ _ => rfl)) pe_str (nomark _)) (pw_or1 (PW.pt (pw_and (pt_cmpR op_eq (pe_ix (ix_P (K := K) rfl) (pv 0) pe_int (fun _ _ => rfl)) pe_str (nomark _)) (pw_and1 (pt_cmpR op_notN (pe_ix (ix_P (K := K) rfl) (pv 0) pe_int (fun _ _ => rfl)) pe_non (nomark _)))))))) (pss_one (ps_ret (pe_tup (pa_cons (pe_ix (ix_P (K := K) rfl) (pv 0) pe_int (fun _ _ => rfl)) pa_nil)))) pss_nil)
      (pss_one (ps_ret (pe_tup pa_nil)))), ?_⟩
  have nil : ∀ (H1 : Hp), Same H H1 → E1.ops = [] → 0 ≤ sizeLine ∧ ∀ p, H1 p = none → Q (.ref p) (upd H1 p (.tup [])) := fun H1 s1 h => ⟨Nat.zero_le _, fun p hp => q _ _ (s1.trans (same_new hp)) (by rw [h]; exact dp_tupN hp .nil)⟩
  refine ⟨v, rfl, _, 0, _, hv, rfl, rfl, fun z hz => ?_⟩
  cases hz
  refine ⟨rfl, _, rfl, ?_⟩
  show if eqw E1.word "branch" = true then _ else _
  cases h1 : eqw E1.word "branch" with
  | true =>
    obtain ⟨a, n, m, rfl⟩ := stp1 h1
    exact iteT (iteT ⟨v, rfl, _, 1, _, hv, rfl, rfl, fun z hz => ⟨(by show 1 ≤ sizeLine; decide), fun p hp => q _ _ (same_new hp) (dp_tupN hp (.cons hz .nil))⟩⟩)
  | false =>
    refine iteF ⟨v, rfl, _, 0, _, hv, rfl, rfl, fun z hz => ?_⟩
    cases hz
    refine ⟨rfl, _, rfl, ?_⟩
    show if eqw E1.word "return" = true then _ else _
    cases h2 : eqw E1.word "return" with
    | true =>
      obtain ⟨a, rfl⟩ := stp2 h2
      refine iteT ⟨v, rfl, _, 1, _, hv, rfl, rfl, fun z hz => ?_⟩
      refine ⟨rfl, _, rfl, ?_⟩
      cases a with
      | none =>
        cases hz
        exact iteF (nil H (Same.refl _) rfl)
      | some o =>
        cases o with
        | w i =>
          cases hz
          exact iteT ⟨v, rfl, _, 1, _, hv, rfl, rfl, fun z hz => ⟨(by show 1 ≤ sizeLine; decide), fun p hp => q _ _ (same_new hp) (dp_tupN hp (.cons hz .nil))⟩⟩
        | v n =>
          cases hz
          exact iteT ⟨v, rfl, _, 1, _, hv, rfl, rfl, fun z hz => ⟨(by show 1 ≤ sizeLine; decide), fun p hp => q _ _ (same_new hp) (dp_tupN hp (.cons hz .nil))⟩⟩
    | false =>
      refine iteF (iteF (nil H (Same.refl _) ?_))
      exact stp3 h1 h2
end
end K52

set_option maxHeartbeats 4000000
namespace K52
open PySem PySem.Spec PyProof.Rows L2 HG P52 LamX NdefX
/-! ### the two lambdas -/
def lamOf (e : Expr) : Option (Arguments × Expr × Scope) := match e with
  | .Lambda p b s _ => some (p, b, s)
  | _ => none
def argLam (st : Stmt) : Option (Arguments × Expr × Scope) := match st with
  | .Assign _ (.Call _ (_ :: l :: _) _ _) _ => lamOf l
  | _ => none
def inFor (st : Stmt) (i : Nat) : Stmt := match st with
  | .For _ _ b _ _ => b.getD i (.Pass ⟨0, 0, 0, 0⟩)
  | _ => .Pass ⟨0, 0, 0, 0⟩
abbrev dflt : Arguments × Expr × Scope := (defArgs s_set_by, .Constant .none 0 ⟨0, 0, 0, 0⟩, defScope s_set_by)
def l_in : Arguments × Expr × Scope := (argLam ((defBody s_in_slots).getD 1 (.Pass ⟨0, 0, 0, 0⟩))).getD dflt
def l_co : Arguments × Expr × Scope := (argLam (inFor ((defBody s_code_of).getD 2 (.Pass ⟨0, 0, 0, 0⟩)) 2)).getD dflt
abbrev q_in : Str := ("in_slots" : Str) ++ ".<locals>." ++ "<lambda>"
abbrev q_co : Str := ("code_of" : Str) ++ ".<locals>." ++ "<lambda>"
def F_in : LF := ⟨q_in, l_in.1, l_in.2.1, l_in.2.2⟩
def F_co : LF := ⟨q_co, l_co.1, l_co.2.1, l_co.2.2⟩
def spLam (K : PySem.W.Frag) (v : V) : Sp := fun vs H Q E => ∃ u, vs = [u] ∧ spOpS K [u, v] H Q E
section
variable {P : Program} {w : World} {K : PySem.W.Frag} {mg : Str → Option Value} {base : Heap}
theorem l_in_ok (T : Txt w K mg) : LOk P w K mg base 2 F_in "slots" (spLam K) := by
  have C_operand_in_slots := c_operand_in_slots (P := P) (base := base) T
  refine lok_of (N := ["operand", "slots"]) (ps := ["operand"]) (nscope_by (by decide +kernel)) (fun cl pm cv ctv us hl => match us, hl with | [_], _ => rfl) (fun v vs H Q h => ?_) (fun A outer s H vs v cl c' f Q hr h => ?_)
  · obtain ⟨u, rfl, _⟩ := h
    rfl
  obtain ⟨u, rfl, h⟩ := h
  exact ⟨_, (pe_cal C_operand_in_slots (hr.mono (by omega)) (by rfl) (pa_cons (pv 0) (pa_cons (pv 1) pa_nil))), ⟨u, rfl, v, rfl, h⟩⟩
theorem l_co_ok (T : Txt w K mg) : LOk P w K mg base 2 F_co "slots" (spLam K) := by
  have C_operand_in_slots := c_operand_in_slots (P := P) (base := base) T
  refine lok_of (N := ["operand", "slots"]) (ps := ["operand"]) (nscope_by (by decide +kernel)) (fun cl pm cv ctv us hl => match us, hl with | [_], _ => rfl) (fun v vs H Q h => ?_) (fun A outer s H vs v cl c' f Q hr h => ?_)
  · obtain ⟨u, rfl, _⟩ := h
    rfl
  obtain ⟨u, rfl, h⟩ := h
  exact ⟨_, (pe_cal C_operand_in_slots (hr.mono (by omega)) (by rfl) (pa_cons (pv 0) (pa_cons (pv 1) pa_nil))), ⟨u, rfl, v, rfl, h⟩⟩
/-- the lambda called at the operand a -/
theorem lam_call {F : LF} {H : Hp} {f c' cs : Addr} {o : Obj} {v u : V} {S : List PyData} {a : Opd} {Q : VK} (h : LamAt K F "slots" H f c' cs o v S) (hu : Dp K H u (oD a)) (hn : ∀ n ∈ a.vars, n < S.length) (hq : ∀ z H', Same H H' → Dp K H' z (oS S a) → Q z H') :
    H f = some (LamO f F "slots" c' cs) ∧ H c' = some (CodeO c' F.qual) ∧ H cs = some (CellO cs o) ∧ CellV o v ∧ spLam K v [u] (hide H cs) (fun r H2 => H2 cs = none → Q r (upd H2 cs (CellO cs o))) E0 :=
  ⟨h.lam, h.code, h.cell, h.val, u, rfl, u, v, a, S, rfl, dp_hide h.cell _ _ hu, dp_hide h.cell _ _ h.dat, hn, fun z H2 s2 hz n2 => hq _ _ (same_back h.cell s2) (dp_mono (same_new n2) _ _ hz)⟩
/-! ### with_operands -/
theorem noL_o (S : List PyData) (hS : ∀ d ∈ S, noL d = true) : ∀ a : Opd, noL (oS S a) = true
  | .w _ => rfl
  | .v n => by
    have : noL (sv S n) = true := by
      unfold sv
      rw [List.getD_eq_getElem?_getD]
      cases e : S[n]? with
      | none => rfl
      | some d => exact hS d (List.mem_of_getElem? e)
    simp only [oS, noL, noLAll, this, Bool.and_self]
theorem wo2 {R : Rw} (h : eqw R.word "copy" = true) : ∃ v u, R = .cp v u := ops2 h
theorem wo5 {R : Rw} (S : List PyData) (h2 : eqw R.word "copy" = false) (h3 : eqw R.word "apply" = false) (h4 : eqw R.word "call" = false) : R.L.take (R.L.length - R.ops.length) ++ R.ops.map (oS S) = R.wo S ∧ R.ops.length ≤ R.L.length := by
  cases R <;> first | exact ⟨rfl, Nat.le_of_ble_eq_true rfl⟩ | (dsimp only [Rw.word] at h2; exact absurd h2 (by decide +kernel)) | (dsimp only [Rw.word] at h3; exact absurd h3 (by decide +kernel)) | (dsimp only [Rw.word] at h4; exact absurd h4 (by decide +kernel))
def spWOps (K : PySem.W.Frag) : Sp := fun vs H Q _ => ∃ (v : V) (R : Rw) (f c' cs : Addr) (o : Obj) (vS : V) (S : List PyData), vs = [v, .ref f] ∧ Dp K H v R.D ∧ LamAt K F_in "slots" H f c' cs o vS S ∧ (∀ a ∈ R.ops, ∀ n ∈ a.vars, n < S.length) ∧ R.ops.length ≤ 1000 ∧ (∀ d ∈ S, noL d = true) ∧
  ∀ z H', Same H H' → Dp K H' z (.tuple (R.wo S)) → Q z H'
set_option pp.maxSteps 600 in
theorem c_with_operands (T : Txt w K mg) : Cal P w K mg base "with_operands" 3 ["instruction", "change"] (spWOps K) := by
  obtain ⟨fd, F⟩ := T.d_with_operands
  have C_operands_of := c_operands_of (P := P) (base := base) T
  have L := l_in_ok (P := P) (base := base) T
  refine ⟨⟨fd, F.ok sc_with_operands (fun vs H Q E h => ?_) (fun cdv A outer s H vs Q E hr h => ?_), F.bindsN fun _ _ _ _ _ _ us hl => match us, hl with | [_, _], _ => rfl⟩, T.g _ (by decide), F.kp⟩
  · obtain ⟨v, R, f, c', cs, o, vS, S, rfl, _⟩ := h
    rfl
  obtain ⟨v, R, f, c', cs, o, vS, S, rfl, hv, hL, hn, hl, hS, q⟩ := h
  refine ⟨_, PSs.nox (pss_cons (ps_set (i := 2) sc_with_operands.nd rfl (.inl rfl) (pe_callTy call_tuple_of (by rfl) T.n_tuple (by decide +kernel) (pa_cons (pe_lc (own := [("operand", 4)]) (by rfl) sc_with_operands.nd (pi_tup (pe_cal C_operands_of (hr.mono (by omega)) (by rfl) (pa_cons (pv 0) pa_nil))) (blkOk_by (own := [("operand", 4)]) (N := N_with_operands) (sc := defScope s_with_operands) (by decide +kernel)) (fun _ _ _ _ _ => (pg_name (i := 4) sc_with_operands.nd rfl (.inl rfl))) (fun _ _ _ _ _ => pts_nil) (fun _ _ _ _ _ => (pe_callLam L (hr.mono (by omega)) (i := 1) rfl (by first | exact Or.inl rfl | exact Or.inr (Or.inl rfl) | exact Or.inr (Or.inr rfl)) (pa_cons (pv 4) pa_nil)))) pa_nil)))
      (pss_cons (ps_set (i := 3) sc_with_operands.nd rfl (.inl rfl) (pe_ix (ix_P (K := K) rfl) (pv 0) pe_int (fun _ _ => rfl)))
      (pss_cons (ps_if (pt_cmpR op_eq (pv 3) pe_str (nomark _)) (pss_one (ps_ret (pe_tup (pa_cons pe_str (pa_cons (pe_ix (ix_P (K := K) rfl) (pv 0) pe_int (fun _ _ => rfl)) (pa_cons (pe_ix (ix_P (K := K) rfl) (pe_ix (ix_P (K := K) rfl) (pv 2) pe_int (fun _ _ => rfl)) pe_int (fun _ _ => rfl)) pa_nil)))))) pss_nil)
      (pss_cons (ps_if (pt_cmpR op_eq (pv 3) pe_str (nomark _)) (pss_one (ps_ret (pe_tup (pa_cons pe_str (pa_cons (pe_ix (ix_P (K := K) rfl) (pv 0) pe_int (fun _ _ => rfl)) (pa_cons (pe_ix (ix_P (K := K) rfl) (pe_ix (ix_P (K := K) rfl) (pv 2) pe_int (fun _ _ => rfl)) pe_int (fun _ _ => rfl)) (pa_cons (pe_slice (sl_P (K := K) rfl) (pv 2) (po_some pe_int) po_none) pa_nil))))))) pss_nil)
      (pss_cons (ps_if (pt_cmpR op_eq (pv 3) pe_str (nomark _)) (pss_one (ps_ret (pe_op (op_catP (K := K) rfl) (pe_slice (sl_P (K := K) rfl) (pv 0) po_none (po_some pe_int)) (pe_tup (pa_cons (pv 2) pa_nil))))) pss_nil)
      (pss_one (ps_ret (pe_op (op_catP (K := K) rfl) (pe_slice (sl_P (K := K) rfl) (pv 0) po_none (po_some (pe_op op_sub (pe_callB (lenK (K := K) rfl) (by rfl) T.n_len (by decide +kernel) (pa_cons (pv 0) pa_nil)) (pe_callB (lenK (K := K) rfl) (by rfl) T.n_len (by decide +kernel) (pa_cons (pv 2) pa_nil))))) (pv 2))))))))), ?_⟩
  refine ⟨v, rfl, v, R, rfl, hv, hl, fun z H1 s1 hz => ?_⟩
  cases hz with
  | @tup a xs _ sq ha =>
    refine ⟨a, rfl, ⟨xs, sq⟩, fun D hD => lc_mk (as := R.ops) (g0 := oD) (f := oS S) sq ha (Nat.le_trans hl (by decide)) hD (fun a _ => noL_o S hS a) (fun x e H3 QQ RR hm hxe s3 hq => ?_) fun H3 ys hD3 hY s3 => ?_⟩
    · refine ⟨rfl, tyes ⟨f, c', cs, o, vS, rfl, (hL.mono (s1.trans s3)).lam, x, rfl, lam_call (hL.mono (s1.trans s3)) (dp_mono s3 _ _ hxe) (hn e hm) fun z H' s' hz => hq _ _ hz s'⟩⟩
    refine ⟨D, ys, rfl, .inl ⟨.inl (.inl hD3), fun p hp => ?_⟩⟩
    have s2 := s1.trans (s3.trans (same_new (o := .tup ys) hp))
    have hC : Dp K (upd H3 p (.tup ys)) (.ref p) (.tuple (R.ops.map (oS S))) := dp_tupN hp hY
    generalize upd H3 p (.tup ys) = H4 at s2 hC ⊢
    have hv4 := dp_mono s2 _ _ hv
    refine ⟨v, rfl, _, 0, _, hv4, rfl, rfl, fun z hz => ?_⟩
    cases hz
    refine ⟨_, rfl, rfl, _, rfl, ?_⟩
    show if eqw R.word "copy" = true then _ else _
    cases h2 : eqw R.word "copy" with
    | true =>
      obtain ⟨a, b, rfl⟩ := ops2 h2
      refine iteT ⟨v, rfl, _, 1, _, hv4, rfl, rfl, fun z1 hz1 => ⟨.ref p, rfl, _, 0, _, hC, rfl, rfl, fun z2 hz2 => ⟨_, 1, _, hz2, rfl, rfl, fun z3 hz3 => ⟨(by show 3 ≤ sizeLine; decide), fun p5 hp5 => q _ _ (s2.trans (same_new hp5)) ?_⟩⟩⟩⟩
      exact dp_tupN hp5 (.cons (.str _) (.cons hz1 (.cons hz3 .nil)))
    | false =>
      refine iteF ⟨_, rfl, rfl, _, rfl, ?_⟩
      show if eqw R.word "apply" = true then _ else _
      cases h3 : eqw R.word "apply" with
      | true =>
        obtain ⟨a, b, as, rfl⟩ := ops3 h3
        refine iteT ⟨v, rfl, _, 1, _, hv4, rfl, rfl, fun z1 hz1 => ⟨.ref p, rfl, _, 0, _, hC, rfl, rfl, fun z2 hz2 => ⟨_, 1, _, hz2, rfl, rfl, fun z3 hz3 => ⟨.ref p, rfl, 1, rfl, _, hC, fun z4 H5 s5 h5 => ⟨(by show 4 ≤ sizeLine; decide), fun p5 hp5 => q _ _ (s2.trans (s5.trans (same_new hp5))) ?_⟩⟩⟩⟩⟩
        rw [show (some (1 : Int)) = some ((1 : Nat) : Int) from rfl, cutP_from] at h5
        exact dp_tupN hp5 (.cons (.str _) (.cons (dp_mono s5 _ _ hz1) (.cons (dp_mono s5 _ _ hz3) (.cons h5 .nil))))
      | false =>
        refine iteF ⟨_, rfl, rfl, _, rfl, ?_⟩
        show if eqw R.word "call" = true then _ else _
        cases h4 : eqw R.word "call" with
        | true =>
          obtain ⟨a, b, as, rfl⟩ := ops4 h4
          refine iteT ⟨v, rfl, 3, rfl, _, hv4, fun z1 H5 s5 h5 => ⟨.ref p, rfl, (by show 1 ≤ sizeLine; decide), fun p6 hp6 => ?_⟩⟩
          rw [show (some (3 : Int)) = some ((3 : Nat) : Int) from rfl, cutP_to] at h5
          have s6 := same_new (o := .tup [.ref p]) hp6
          refine ⟨_, _, dp_mono s6 _ _ h5, dp_tupN hp6 (.cons (dp_mono s5 _ _ hC) .nil), (by show 4 ≤ sizeLine; decide), fun z7 H7 s7 h7 => q _ _ (s2.trans (s5.trans (s6.trans s7))) h7⟩
        | false =>
          obtain ⟨e5, l5⟩ := wo5 S h2 h3 h4
          have hlv : ∃ n, LenV K v H4 n ∧ n = R.L.length := by
            cases hv4 with
            | @tup a2 xs2 _ sq2 ha2 => exact ⟨_, .inr ⟨xs2, sq2, rfl⟩, dpAll_len ha2⟩
          have hlc : ∃ n, LenV K (.ref p) H4 n ∧ n = R.ops.length := by
            cases hC with
            | @tup a2 xs2 _ sq2 ha2 => exact ⟨_, .inr ⟨xs2, sq2, rfl⟩, by have := dpAll_len ha2; rw [List.length_map] at this; exact this⟩
          obtain ⟨n1, hn1, e1⟩ := hlv
          obtain ⟨n2, hn2, e2⟩ := hlc
          refine iteF ⟨v, rfl, v, rfl, v, n1, rfl, hn1, .ref p, rfl, .ref p, n2, rfl, hn2, _, _, rfl, rfl, _, rfl, _, hv4, fun z1 H5 s5 h5 => ?_⟩
          have e3 : (n1 : Int) - (n2 : Int) = ((R.L.length - R.ops.length : Nat) : Int) := by omega
          rw [e3, cutP_to] at h5
          refine ⟨.ref p, rfl, _, _, h5, dp_mono s5 _ _ hC, ?_, fun z7 H7 s7 h7 => q _ _ (s2.trans (s5.trans s7)) ?_⟩
          · rw [List.length_take, List.length_map]
            have : R.L.length ≤ 5 := by cases R <;> exact Nat.le_of_ble_eq_true rfl
            rw [sizeLine_eq]
            omega
          · rw [e5] at h7
            exact h7
end
end K52

set_option maxHeartbeats 4000000
namespace K52
open PySem PySem.Spec PyProof.Rows L2 HG P52 LamX NdefX
/-! ### data without lists -/
theorem nlO : ∀ a : Opd, noL (oD a) = true
  | .w _ => rfl
  | .v _ => rfl
theorem nlOs (as : List Opd) : noLAll (as.map oD) = true := noLAll_map fun a _ => nlO a
theorem nlOv : ∀ o : Option Nat, noL (ovD o) = true
  | none => rfl
  | some _ => rfl
theorem nlR (R : Rw) : noL R.D = true := by
  cases R <;> simp only [Rw.D, Rw.L, Rw.word, Rw.rest, noL, noLAll, nlO, nlOs, nlOv, Bool.and_self]
theorem nlE (E : Stp) : noL E.D = true := by
  cases E with
  | rt a => cases a <;> simp only [Stp.D, Stp.L, Stp.word, Stp.rest, ooD, noL, noLAll, nlO, Bool.and_self]
  | _ => simp only [Stp.D, Stp.L, Stp.word, Stp.rest, noL, noLAll, nlO, Bool.and_self]
theorem nlRs (l : List Rw) : noLAll (l.map Rw.D) = true := noLAll_map fun a _ => nlR a
theorem nlB (b : Blk) : noL b.D = true := by
  simp only [Blk.D, noL, noLAll, nlRs, Bool.true_and, Bool.and_true]
  have := nlE b.stop
  simpa only [Stp.D, noL, Stp.L, noLAll, Bool.true_and] using this
theorem nlG (g : Gr) : noL g.D = true := by
  have : noLAll (g.blocks.map Blk.D) = true := noLAll_map fun b _ => nlB b
  simp only [Gr.D, noL, noLAll, this, Bool.and_self]
theorem nlSv {S : List PyData} (hS : ∀ d ∈ S, noL d = true) (n : Nat) : noL (sv S n) = true := by
  unfold sv
  rw [List.getD_eq_getElem?_getD]
  cases e : S[n]? with
  | none => rfl
  | some d => exact hS d (List.mem_of_getElem? e)
theorem nlOS {S : List PyData} (hS : ∀ d ∈ S, noL d = true) (as : List Opd) : noLAll (as.map (oS S)) = true := noLAll_map fun a _ => noL_o S hS a
theorem nlRS {S : List PyData} (hS : ∀ d ∈ S, noL d = true) (R : Rw) : noL (.tuple (R.S S)) = true := by
  have h1 := nlSv hS
  have h2 := noL_o S hS
  have h3 := nlOS hS
  cases R with
  | ca v x as => cases v <;> simp only [Rw.S, ovS, noL, noLAll, h1, h2, h3, Bool.and_self]
  | ap v x as => cases v <;> simp only [Rw.S, ovS, noL, noLAll, h1, h2, h3, Bool.and_self]
  | _ => simp only [Rw.S, noL, noLAll, h1, h2, h3, Bool.and_self]
/-! ### tables -/
structure Tb (K : PySem.W.Frag) (mg : Str → Option Value) (base : Heap) (T : List (Addr × Str)) (x : Str) (st : Stmt) (q : Str) (c Pt : Addr) : Prop where
  code : ∀ fd, FunD K x x (defArgs st) (defBody st) (defScope st) [] [] (He.ga K x) fd → fd.code = .ref c
  tb : TabB base mg c Pt
  mem : (Pt, q) ∈ T
  only : ∀ p ∈ T, p.1 = Pt → p.2 = q
structure Tbs (K : PySem.W.Frag) (mg : Str → Option Value) (base : Heap) (T : List (Addr × Str)) : Prop where
  i : ∃ c Pt, Tb K mg base T "in_slots" s_in_slots q_in c Pt
  c : ∃ c Pt, Tb K mg base T "code_of" s_code_of q_co c Pt
theorem tabs_lst {T : List (Addr × Str)} {H : Hp} {a : Addr} {l : List V} {o : HO} (t : Tabs T H) (h : H a = some (.lst l)) : Tabs T (upd H a o) := fun p hp => by
  obtain ⟨ps, h1, h2, h3⟩ := t p hp
  refine ⟨ps, by rw [upd_ne (fun z => by rw [z, h] at h1; cases h1)]; exact h1, h2, fun pos cv hc => ?_⟩
  obtain ⟨c, e1, e2⟩ := h3 pos cv hc
  refine ⟨c, e1, ?_⟩
  rw [upd_ne (fun z => by rw [z, h] at e2; unfold CodeO at e2; cases e2)]
  exact e2
/-- called with the cell known, and back -/
theorem same_adopt {H H3 : Hp} {c : Addr} {o : Obj} (n : H c = none) (s : Same (upd H c (CellO c o)) H3) : Same H (hide H3 c) := fun b u q => by
  have nb := ne_of_none q n
  rw [hide_ne nb]
  exact s _ _ (upd_get n q)
theorem rowS {R : Rw} (S : List PyData) {n : Nat} (h : R.set = some n) : (R.wo S).take 1 ++ [sv S n] ++ (R.wo S).drop 2 = R.S S := by
  cases R <;> first | (cases h; rfl) | (simp only [Rw.set] at h; cases h; rfl) | (simp only [Rw.set] at h; cases h)
theorem rowS0 {R : Rw} (S : List PyData) (h : R.set = none) : R.wo S = R.S S := by
  cases R <;> first | rfl | (simp only [Rw.set] at h; cases h; rfl) | (simp only [Rw.set] at h; cases h)
theorem wo_len (R : Rw) (S : List PyData) : (R.wo S).length ≤ 1000 := by
  have : (R.wo S).length ≤ 5 := by cases R <;> exact Nat.le_of_ble_eq_true rfl
  omega
/-- the row's variables are there -/
structure RowIn (S : List PyData) (R : Rw) : Prop where
  ops : ∀ a ∈ R.ops, ∀ n ∈ a.vars, n < S.length
  set : ∀ n, R.set = some n → n < S.length
  len : R.ops.length ≤ 1000
def spInS (K : PySem.W.Frag) (T : List (Addr × Str)) : Sp := fun vs H Q _ => ∃ (v u : V) (R : Rw) (S : List PyData), vs = [v, u] ∧ Dp K H v R.D ∧ Dp K H u (.tuple S) ∧ RowIn S R ∧ (∀ d ∈ S, noL d = true) ∧ Tabs T H ∧
  ∀ z H', ExtN H H' → Tabs T H' → Dp K H' z (.tuple (R.S S)) → Q z H'
section
variable {P : Program} {w : World} {K : PySem.W.Frag} {mg : Str → Option Value} {base : Heap} {Ts : List (Addr × Str)}
set_option pp.maxSteps 600 in
theorem c_in_slots (T : Txt w K mg) (B : Tbs K mg base Ts) : Cal P w K mg base "in_slots" 4 ["instruction", "slots"] (spInS K Ts) := by
  obtain ⟨fd, F⟩ := T.d_in_slots
  obtain ⟨cc, Pt, bt⟩ := B.i
  have TB := bt.tb
  have hmT := bt.mem
  have huT := bt.only
  have C_set_by := c_set_by (P := P) (base := base) T
  have C_with_operands := c_with_operands (P := P) (base := base) T
  have C_with_set := c_with_set (P := P) (base := base) T
  refine ⟨⟨fd, ok_code F (bt.code fd F) sc_in_slots (fun vs H Q E h => ?_) (fun A outer s H vs Q E hr h => ?_), F.bindsN fun _ _ _ _ _ _ us hl => match us, hl with | [_, _], _ => rfl⟩, T.g _ (by decide), F.kp⟩
  · obtain ⟨v, u, R, S, rfl, _⟩ := h
    rfl
  obtain ⟨v, u, R, S, rfl, hv, hu, hR, hS, hT, q⟩ := h
  refine ⟨_, PSs.nox (pss_cons (ps_set (i := 2) sc_in_slots.nd rfl (.inl rfl) (pe_cal C_set_by (hr.mono (by omega)) (by rfl) (pa_cons (pv 0) pa_nil)))
      (pss_cons (ps_set (i := 3) sc_in_slots.nd rfl (.inl rfl) (pe_calA C_with_operands (hr.mono (by omega)) (by rfl) (pa_cons (pv 0) (pa_cons (pe_lam (y := "slots") TB rfl hmT huT rfl (by decide +kernel) rfl (by decide +kernel)) pa_nil)) (y := "slots") (j := 1) rfl rfl rfl))
      (pss_one (ps_ret (pe_ifExp (pt_cmpR op_isN (pv 2) pe_non (nomark _)) (pv 3) (pe_cal C_with_set (hr.mono (by omega)) (by rfl) (pa_cons (pv 3) (pa_cons (pe_ix (ix_P (K := K) rfl) (pv 1) (pv 2) (fun _ _ => rfl)) pa_nil)))))))), ?_⟩
  refine ⟨v, rfl, v, R, rfl, hv, v, rfl, hT, fun f c' H1 x1 g1 T1 nf hf hc' => ⟨u, rfl, fun ncs o ho => ?_⟩⟩
  generalize (Option.getD _ 0) = cs at *
  have k1 := KT.ext x1
  have sN : Same H1 (upd H1 cs (CellO cs o)) := same_new ncs
  have hv1 := dp_kt k1 _ _ (nlR R) hv
  have hu1 := dp_kt k1 _ _ (noL_tup.mpr hS) hu
  have hL : LamAt K F_in "slots" (upd H1 cs (CellO cs o)) f c' cs o u S := ⟨sN _ _ hf, sN _ _ hc', upd_same, ho, dp_mono sN _ _ hu1⟩
  refine ⟨v, R, f, c', cs, o, u, S, rfl, dp_mono sN _ _ hv1, hL, hR.ops, hR.len, hS, fun z H3 s3 hz => ⟨s3 _ _ upd_same, ?_⟩⟩
  have hz2 := dp_hide (s3 _ _ hL.cell) _ _ hz
  have s13 := same_adopt ncs s3
  generalize hide H3 cs = H4 at hz2 s13 ⊢
  have x4 : ExtN H H4 := x1.trans (ExtN.of s13)
  have T4 := T1.ext s13
  refine ⟨_, rfl, rfl, _, rfl, ?_⟩
  cases hset : R.set with
  | none =>
    refine iteT ⟨z, rfl, q z H4 x4 T4 ?_⟩
    rw [← rowS0 S hset]
    exact hz2
  | some n =>
    refine iteF ⟨z, rfl, u, rfl, .int (n : Int), rfl, S, n, _, dp_mono s13 _ _ hu1, rfl, sv_get (hR.set n hset), fun z5 h5 => ⟨z, z5, _, _, rfl, hz2, h5, wo_len R S, fun z6 H6 s6 h6 => q z6 H6 (x4.trans (ExtN.of s6)) (T4.ext s6) ?_⟩⟩
    rw [rowS S hset] at h6
    exact h6
/-! ### end_with_operands -/
theorem eqvT0 (ds : List PyData) : PyData.eqv (.tuple ds) (.tuple []) = decide (ds = []) := by
  cases ds <;> simp [PyData.eqv, PyData.eqvAll]
theorem shT0 : SeqAt.shaped (.tuple []) = true := by decide
theorem sh1 (a : Opd) : SeqAt.shaped (.tuple [oD a]) = true := by
  cases a with
  | w i => rfl
  | v n =>
    unfold SeqAt.shaped
    simp only [oD, vD, PyData.canLay0, PyData.canLayAll0, PyData.depth, PyData.depthAll]
    decide +kernel
theorem len_eq {n m : Nat} : decide (V.int (n : Int) = V.int (m : Int)) = decide (n = m) := by
  by_cases h : n = m
  · subst h
    rw [decide_eq_true rfl, decide_eq_true rfl]
  · rw [decide_eq_false h]
    exact decide_eq_false fun e => by injection e with e; omega
theorem shOps (E : Stp) : SeqAt.shaped (.tuple (E.ops.map oD)) = true := by
  cases E with
  | jp n => rfl
  | br a n m => exact sh1 a
  | rt a =>
    cases a with
    | none => rfl
    | some a => exact sh1 a
  | ht i => rfl
theorem endS0 {E : Stp} (S : List PyData) (h : E.ops = []) : E.S S = E.L := by
  cases E with
  | jp n => rfl
  | br a n m => cases h
  | rt a =>
    cases a with
    | none => rfl
    | some a => cases h
  | ht i => rfl
theorem endS1 {E : Stp} (h : E.ops ≠ []) : ∃ a r, E.ops = [a] ∧ E.rest = oD a :: r ∧ ∀ S, E.S S = [.str E.word] ++ [oS S a] ++ r := by
  cases E with
  | jp n => exact absurd rfl h
  | br a n m => exact ⟨a, _, rfl, rfl, fun _ => rfl⟩
  | rt a =>
    cases a with
    | none => exact absurd rfl h
    | some a => exact ⟨a, _, rfl, rfl, fun _ => rfl⟩
  | ht i => exact absurd rfl h
def spEndW (K : PySem.W.Frag) : Sp := fun vs H Q _ => ∃ (v : V) (E : Stp) (f c' cs : Addr) (o : Obj) (vS : V) (S : List PyData), vs = [v, .ref f] ∧ Dp K H v E.D ∧ LamAt K F_co "slots" H f c' cs o vS S ∧ (∀ a ∈ E.ops, ∀ n ∈ a.vars, n < S.length) ∧
  ∀ z H', Same H H' → Dp K H' z (.tuple (E.S S)) → Q z H'
set_option pp.maxSteps 600 in
theorem c_end_with_operands (T : Txt w K mg) : Cal P w K mg base "end_with_operands" 3 ["terminator", "change"] (spEndW K) := by
  obtain ⟨fd, F⟩ := T.d_end_with_operands
  have C_operands_of_end := c_operands_of_end (P := P) (base := base) T
  have L := l_co_ok (P := P) (base := base) T
  refine ⟨⟨fd, F.ok sc_end_with_operands (fun vs H Q E h => ?_) (fun cdv A outer s H vs Q E hr h => ?_), F.bindsN fun _ _ _ _ _ _ us hl => match us, hl with | [_, _], _ => rfl⟩, T.g _ (by decide), F.kp⟩
  · obtain ⟨v, E1, f, c', cs, o, vS, S, rfl, _⟩ := h
    rfl
  obtain ⟨v, E1, f, c', cs, o, vS, S, rfl, hv, hL, hn, q⟩ := h
  refine ⟨_, PSs.nox (pss_cons (ps_if (pt_cmpR (op_eqDK (K := K) rfl hr.units) (pe_cal C_operands_of_end (hr.mono (by omega)) (by rfl) (pa_cons (pv 0) pa_nil)) (pe_tup pa_nil) (nomark _)) (pss_one (ps_ret (pv 0))) pss_nil)
      (pss_one (ps_ret (pe_op (op_catP (K := K) rfl) (pe_op (op_catP (K := K) rfl) (pe_slice (sl_P (K := K) rfl) (pv 0) po_none (po_some pe_int)) (pe_tup (pa_cons (pe_callLam L (hr.mono (by omega)) (i := 1) rfl (by first | exact Or.inl rfl | exact Or.inr (Or.inl rfl) | exact Or.inr (Or.inr rfl)) (pa_cons (pe_ix (ix_P (K := K) rfl) (pv 0) pe_int (fun _ _ => rfl)) pa_nil)) pa_nil))) (pe_slice (sl_P (K := K) rfl) (pv 0) (po_some pe_int) po_none))))), ?_⟩
  refine ⟨v, rfl, v, E1, rfl, hv, fun z H1 s1 hz => ⟨(by show 0 ≤ sizeLine; decide), fun p hp => ?_⟩⟩
  have s2 := same_new (o := .tup []) hp
  refine ⟨_, _, dp_mono s2 _ _ hz, dp_tupN hp .nil, shOps E1, shT0, _, rfl, ?_⟩
  rw [eqvT0]
  have s02 := s1.trans s2
  generalize upd H1 p (.tup []) = H2 at s02 ⊢
  have hv2 := dp_mono s02 _ _ hv
  have hL2 := hL.mono s02
  by_cases h : E1.ops = []
  · rw [decide_eq_true (by rw [h]; rfl)]
    refine iteT ⟨v, rfl, q v H2 s02 ?_⟩
    rw [endS0 S h]
    exact hv2
  · rw [decide_eq_false (fun z => h (List.map_eq_nil_iff.mp z))]
    obtain ⟨a, r, ho, hr1, hE⟩ := endS1 h
    have hrl : r.length ≤ 2 := by
      have : E1.rest.length ≤ 3 := by cases E1 <;> exact Nat.le_of_ble_eq_true rfl
      rw [hr1, List.length_cons] at this
      omega
    refine iteF ⟨v, rfl, 1, rfl, _, hv2, fun z1 H3 s3 h3 => ?_⟩
    rw [show (some (1 : Int)) = some ((1 : Nat) : Int) from rfl, cutP_to] at h3
    refine ⟨f, c', cs, o, vS, rfl, (hL2.mono s3).lam, v, rfl, _, 1, _, dp_mono s3 _ _ hv2, rfl, (by show E1.rest[0]? = _; rw [hr1]; rfl), fun z4 h4 => lam_call (hL2.mono s3) h4 (hn a (by rw [ho]; exact List.mem_cons_self)) fun z5 H5 s5 h5 => ⟨(by show 1 ≤ sizeLine; decide), fun p6 hp6 => ?_⟩⟩
    have s6 := same_new (o := .tup [z5]) hp6
    refine ⟨_, _, dp_mono (s5.trans s6) _ _ h3, dp_tupN hp6 (.cons h5 .nil), (by show 2 ≤ sizeLine; decide), fun z7 H7 s7 h7 => ?_⟩
    have s37 := s3.trans (s5.trans (s6.trans s7))
    refine ⟨v, rfl, 2, rfl, _, dp_mono s37 _ _ hv2, fun z8 H8 s8 h8 => ?_⟩
    rw [show (some (2 : Int)) = some ((2 : Nat) : Int) from rfl, cutP_from] at h8
    have e8 : E1.L.drop 2 = r := by
      show E1.rest.drop 1 = r
      rw [hr1]
      rfl
    rw [e8] at h8
    refine ⟨_, _, dp_mono s8 _ _ h7, h8, ?_, fun z9 H9 s9 h9 => q z9 H9 (s02.trans (s37.trans (s8.trans s9))) ?_⟩
    · show 2 + r.length ≤ sizeLine
      rw [sizeLine_eq]
      omega
    · rw [hE S]
      exact h9
/-! ### end_code -/
theorem stj {E : Stp} (h : eqw E.word "jump" = true) : ∃ n, E = .jp n := by cases E <;> first | exact ⟨_, rfl⟩ | (dsimp only [Stp.word] at h; exact absurd h (by decide +kernel))
theorem stc1 {E : Stp} (S : List PyData) (k : Nat) (h1 : eqw E.word "jump" = false) (h2 : eqw E.word "branch" = false) : E.code S k = [E.S S] := by
  cases E <;> first | rfl | (dsimp only [Stp.word] at h1; exact absurd h1 (by decide +kernel)) | (dsimp only [Stp.word] at h2; exact absurd h2 (by decide +kernel))
def spEndC (K : PySem.W.Frag) : Sp := fun vs H Q _ => ∃ (v : V) (E : Stp) (S : List PyData) (k : Nat), vs = [v, .int (k : Int)] ∧ Dp K H v (.tuple (E.S S)) ∧ (∀ d ∈ S, noL d = true) ∧
  ∀ (a : Addr) (ys : List V) H', Same H H' → H' a = some (.lst ys) → DpAll K H' ys ((E.code S k).map PyData.tuple) → Q (.ref a) H'
theorem nlES {S : List PyData} (hS : ∀ d ∈ S, noL d = true) (E : Stp) : noL (.tuple (E.S S)) = true := by
  have h2 := noL_o S hS
  cases E with
  | rt a => cases a <;> simp only [Stp.S, ooS, noL, noLAll, h2, Bool.and_self]
  | _ => simp only [Stp.S, noL, noLAll, h2, Bool.and_self]
set_option pp.maxSteps 600 in
theorem c_end_code (T : Txt w K mg) : Cal P w K mg base "end_code" 1 ["terminator", "following"] (spEndC K) := by
  obtain ⟨fd, F⟩ := T.d_end_code
  refine ⟨⟨fd, F.ok sc_end_code (fun vs H Q E h => ?_) (fun cdv A outer s H vs Q E hr h => ?_), F.bindsN fun _ _ _ _ _ _ us hl => match us, hl with | [_, _], _ => rfl⟩, T.g _ (by decide), F.kp⟩
  · obtain ⟨v, E1, S, k, rfl, _⟩ := h
    rfl
  obtain ⟨v, E1, S, k, rfl, hv, hS, q⟩ := h
  refine ⟨_, PSs.nox (pss_cons (ps_if (pt_cmpR op_eq (pe_ix (ix_P (K := K) rfl) (pv 0) pe_int (fun _ _ => rfl)) pe_str (nomark _)) (pss_one (ps_ret (pe_ifExp (pt_cmpR op_eq (pe_ix (ix_P (K := K) rfl) (pv 0) pe_int (fun _ _ => rfl)) (pv 1) (nomark _)) (pe_lst pa_nil) (pe_lst (pa_cons (pv 0) pa_nil))))) pss_nil)
      (pss_cons (ps_if (pt_cmpR op_ne (pe_ix (ix_P (K := K) rfl) (pv 0) pe_int (fun _ _ => rfl)) pe_str (nomark _)) (pss_one (ps_ret (pe_lst (pa_cons (pv 0) pa_nil)))) pss_nil)
      (pss_cons (ps_asg (pv 0) (pg_tupK (K := K) (n := 4) rfl rfl (pgs_cons (pg_name (i := 2) sc_end_code.nd rfl (.inl rfl)) (pgs_cons (pg_name (i := 3) sc_end_code.nd rfl (.inl rfl)) (pgs_cons (pg_name (i := 4) sc_end_code.nd rfl (.inl rfl)) (pgs_cons (pg_name (i := 5) sc_end_code.nd rfl (.inl rfl)) pgs_nil))))))
      (pss_cons (ps_if (pt_cmpR op_eq (pv 5) (pv 1) (nomark _)) (pss_one (ps_ret (pe_lst (pa_cons (pe_tup (pa_cons pe_str (pa_cons (pv 3) (pa_cons (pv 4) pa_nil)))) pa_nil)))) pss_nil)
      (pss_cons (ps_if (pt_cmpR op_eq (pv 4) (pv 1) (nomark _)) (pss_one (ps_ret (pe_lst (pa_cons (pe_tup (pa_cons pe_str (pa_cons (pv 3) (pa_cons (pv 5) pa_nil)))) pa_nil)))) pss_nil)
      (pss_one (ps_ret (pe_lst (pa_cons (pe_tup (pa_cons pe_str (pa_cons (pv 3) (pa_cons (pv 4) pa_nil)))) (pa_cons (pe_tup (pa_cons pe_str (pa_cons (pv 5) pa_nil))) pa_nil)))))))))), ?_⟩
  have one : ∀ (H1 : Hp), Same H H1 → E1.code S k = [E1.S S] → 1 ≤ sizeLine ∧ ∀ p, H1 p = none → Q (.ref p) (upd H1 p (.lst [v])) := fun H1 s1 h => ⟨by decide, fun p hp => q p _ _ (s1.trans (same_new hp)) upd_same (by
    rw [h]
    exact .cons (dp_mono (s1.trans (same_new hp)) _ _ hv) .nil)⟩
  have hv0 : ∃ ds, E1.S S = .str E1.word :: ds := by cases E1 <;> exact ⟨_, rfl⟩
  obtain ⟨ds, eds⟩ := hv0
  refine ⟨v, rfl, _, 0, .str E1.word, hv, rfl, by rw [eds]; rfl, fun z hz => ?_⟩
  cases hz
  refine ⟨rfl, _, rfl, ?_⟩
  show if eqw E1.word "jump" = true then _ else _
  cases h1 : eqw E1.word "jump" with
  | true =>
    obtain ⟨n, rfl⟩ := stj h1
    refine iteT ⟨v, rfl, _, 1, _, hv, rfl, rfl, fun z hz => ?_⟩
    cases hz
    refine ⟨.int (k : Int), rfl, rfl, _, rfl, ?_⟩
    show if decide (V.int (n : Int) = V.int (k : Int)) = true then _ else _
    rw [len_eq]
    by_cases hk : n = k
    · rw [decide_eq_true hk]
      refine iteT ⟨Nat.zero_le _, fun p hp => q p _ _ (same_new hp) upd_same ?_⟩
      have : (Stp.jp n).code S k = [] := if_pos hk
      rw [this]
      exact .nil
    · rw [decide_eq_false hk]
      refine iteF ⟨v, rfl, one H (Same.refl _) ?_⟩
      exact if_neg hk
  | false =>
    refine iteF ⟨v, rfl, _, 0, .str E1.word, hv, rfl, by rw [eds]; rfl, fun z hz => ?_⟩
    cases hz
    refine ⟨rfl, _, rfl, ?_⟩
    show if (!eqw E1.word "branch") = true then _ else _
    cases h2 : eqw E1.word "branch" with
    | false =>
      refine iteT ⟨v, rfl, one H (Same.refl _) ?_⟩
      exact stc1 S k h1 h2
    | true =>
      obtain ⟨a, n, m, rfl⟩ := stp1 h2
      cases hv with
      | @tup a1 xs _ sq ha =>
        cases ha with
        | cons x0 r0 =>
          cases r0 with
          | cons x1 r1 =>
            cases r1 with
            | cons x2 r2 =>
              cases r2 with
              | cons x3 r3 =>
                cases r3
                cases x2
                cases x3
                refine iteF ⟨.ref a1, rfl, a1, _, rfl, sq, rfl, ?_⟩
                refine ⟨_, _, rfl, _, _, rfl, _, _, rfl, _, _, rfl, rfl, ?_⟩
                rename_i v0 v1
                have oD1 : Dp K H v1 (oS S a) := x1
                refine ⟨_, rfl, _, rfl, rfl, _, rfl, ?_⟩
                show if decide (V.int (m : Int) = V.int (k : Int)) = true then _ else _
                rw [len_eq]
                by_cases hm : m = k
                · rw [decide_eq_true hm]
                  refine iteT ⟨v1, rfl, _, rfl, (by show 3 ≤ sizeLine; decide), fun p hp => ⟨(by show 1 ≤ sizeLine; decide), fun p2 hp2 => q p2 _ _ ((same_new hp).trans (same_new hp2)) upd_same ?_⟩⟩
                  have : (Stp.br a n m).code S k = [[.str "branch", oS S a, .int n]] := if_pos hm
                  rw [this]
                  exact .cons (dp_mono (same_new hp2) _ _ (dp_tupN hp (.cons (.str _) (.cons oD1 (.cons (.int _) .nil))))) .nil
                · rw [decide_eq_false hm]
                  refine iteF ⟨_, rfl, _, rfl, rfl, _, rfl, ?_⟩
                  show if decide (V.int (n : Int) = V.int (k : Int)) = true then _ else _
                  rw [len_eq]
                  by_cases hk : n = k
                  · rw [decide_eq_true hk]
                    refine iteT ⟨v1, rfl, _, rfl, (by show 3 ≤ sizeLine; decide), fun p hp => ⟨(by show 1 ≤ sizeLine; decide), fun p2 hp2 => q p2 _ _ ((same_new hp).trans (same_new hp2)) upd_same ?_⟩⟩
                    have : (Stp.br a n m).code S k = [[.str "unless", oS S a, .int m]] := (if_neg hm).trans (if_pos hk)
                    rw [this]
                    exact .cons (dp_mono (same_new hp2) _ _ (dp_tupN hp (.cons (.str _) (.cons oD1 (.cons (.int _) .nil))))) .nil
                  · rw [decide_eq_false hk]
                    refine iteF ⟨v1, rfl, _, rfl, (by show 3 ≤ sizeLine; decide), fun p hp => ⟨_, rfl, (by show 2 ≤ sizeLine; decide), fun p2 hp2 => ⟨(by show 2 ≤ sizeLine; decide), fun p3 hp3 => q p3 _ _ ((same_new hp).trans ((same_new hp2).trans (same_new hp3))) upd_same ?_⟩⟩⟩
                    have : (Stp.br a n m).code S k = [[.str "branch", oS S a, .int n], [.str "jump", .int m]] := (if_neg hm).trans (if_neg hk)
                    rw [this]
                    exact .cons (dp_mono ((same_new hp2).trans (same_new hp3)) _ _ (dp_tupN hp (.cons (.str _) (.cons oD1 (.cons (.int _) .nil))))) (.cons (dp_mono (same_new hp3) _ _ (dp_tupN hp2 (.cons (.str _) (.cons (.int _) .nil)))) .nil)
/-! ### with_place -/
/-- an instruction of code: its word; where it leads if it does -/
def CI (m : Nat) (ds : List PyData) : Prop := ∃ x r, ds = .str x :: r ∧ (isJ x = true → ∃ n : Nat, ds.getLast? = some (.int n) ∧ n < m) ∧ ds.length ≤ 1000
theorem dropLast_cut (ds : List PyData) : cutP ds none (some (-1)) = ds.dropLast := by
  unfold cutP
  have e1 : HT.sIx ds.length 0 none = 0 := rfl
  have e2 : HT.sIx ds.length ds.length (some (-1)) = ds.length - 1 := by
    unfold HT.sIx
    cases ds
    · simp
    · simp
      omega
  rw [e1, e2, List.drop_zero, Nat.sub_zero, List.dropLast_eq_take]
def spPlace (K : PySem.W.Frag) : Sp := fun vs H Q _ => ∃ (v : V) (a : Addr) (ds : List PyData) (ps : List Nat), vs = [v, .ref a] ∧ Dp K H v (.tuple ds) ∧ SqL K H a (ps.map fun n => V.int ((n : Nat) : Int)) ∧ CI ps.length ds ∧ ∀ z H', Same H H' → Dp K H' z (.tuple (place ps ds)) → Q z H'
theorem isJ_in (x : Str) : inV (.str x) [.str "jump", .str "branch", .str "unless"] = isJ x := rfl
set_option pp.maxSteps 600 in
theorem c_with_place (T : Txt w K mg) : Cal P w K mg base "with_place" 1 ["instruction", "places"] (spPlace K) := by
  obtain ⟨fd, F⟩ := T.d_with_place
  refine ⟨⟨fd, F.ok sc_with_place (fun vs H Q E h => ?_) (fun cdv A outer s H vs Q E hr h => ?_), F.bindsN fun _ _ _ _ _ _ us hl => match us, hl with | [_, _], _ => rfl⟩, T.g _ (by decide), F.kp⟩
  · obtain ⟨v, a, ds, ps, rfl, _⟩ := h
    rfl
  obtain ⟨v, a, ds, ps, rfl, hv, hp, ⟨x, r, rfl, hj, hlen⟩, q⟩ := h
  refine ⟨_, PSs.nox (pss_cons (ps_if (pt_cmpR (op_in_seqK (K := K) rfl) (pe_ix (ix_P (K := K) rfl) (pv 0) pe_int (fun _ _ => rfl)) (pe_tup (pa_cons pe_str (pa_cons pe_str (pa_cons pe_str pa_nil)))) (by rfl)) (pss_one (ps_ret (pe_op (op_catP (K := K) rfl) (pe_slice (sl_P (K := K) rfl) (pv 0) po_none (po_some (pe_un un_neg pe_int))) (pe_tup (pa_cons (pe_ix (ix_listK (K := K) rfl) (pv 1) (pe_ix (ix_lastP (K := K) rfl) (pv 0) (pe_un un_neg pe_int) (fun _ _ => rfl)) (fun _ _ => rfl)) pa_nil))))) pss_nil)
      (pss_one (ps_ret (pv 0)))), ?_⟩
  refine ⟨v, rfl, _, 0, .str x, hv, rfl, rfl, fun z hz => ?_⟩
  cases hz
  refine ⟨(by show 3 ≤ sizeLine; decide), fun p1 hp1 => ⟨_, _, rfl, .inr (.inl (.inl upd_same)), rfl, rfl, _, rfl, ?_⟩⟩
  have s1 := same_new (o := .tup [.str "jump", .str "branch", .str "unless"]) hp1
  generalize upd H p1 (.tup [.str "jump", .str "branch", .str "unless"]) = H1 at s1 ⊢
  have hv1 := dp_mono s1 _ _ hv
  show if inV (.str x) [.str "jump", .str "branch", .str "unless"] = true then _ else _
  rw [isJ_in]
  cases hx : isJ x with
  | false =>
    refine iteF ⟨v, rfl, q v H1 s1 ?_⟩
    have : place ps (.str x :: r) = .str x :: r := by simp [place, hx]
    rw [this]
    exact hv1
  | true =>
    obtain ⟨n, hn, hlt⟩ := hj hx
    refine iteT ⟨v, rfl, 1, rfl, _, rfl, _, hv1, fun z1 H2 s2 h2 => ?_⟩
    have e1 : cutP (.str x :: r) none (some (-1)) = (PyData.str x :: r).dropLast := dropLast_cut _
    have h2 : Dp K H2 z1 (.tuple (cutP (.str x :: r) none (some (-1)))) := h2
    rw [e1] at h2
    have s12 := s1.trans s2
    have hpn : (ps.map fun n => V.int ((n : Nat) : Int))[n]? = some (.int ((ps.getD n 0 : Nat) : Int)) := by
      rw [List.getElem?_map, List.getElem?_eq_getElem hlt, List.getD_eq_getElem?_getD, List.getElem?_eq_getElem hlt]
      rfl
    refine ⟨.ref a, rfl, v, rfl, 1, rfl, _, _, dp_mono s12 _ _ hv, rfl, hn, fun z3 h3 => ?_⟩
    cases h3
    refine ⟨a, _, n, _, rfl, rfl, Same.seq s12 hp, atI_nat hpn, (by show 1 ≤ sizeLine; decide), fun p5 hp5 => ?_⟩
    have s5 := same_new (o := .tup [.int ((ps.getD n 0 : Nat) : Int)]) hp5
    refine ⟨_, _, dp_mono s5 _ _ h2, dp_tupN hp5 (.cons (.int _) .nil), ?_, fun z6 H6 s6 h6 => q z6 H6 (s12.trans (s5.trans s6)) ?_⟩
    · rw [List.length_dropLast, sizeLine_eq]
      show (PyData.str x :: r).length - 1 + 1 ≤ 16777216
      omega
    · have : place ps (.str x :: r) = (PyData.str x :: r).dropLast ++ [.int ((ps.getD n 0 : Nat) : Int)] := by
        refine (if_pos hx).trans ?_
        rw [hn]
        rfl
      rw [this]
      exact h6
end
end K52

set_option maxHeartbeats 4000000
namespace K52
open PySem PySem.Spec PyProof.Rows L2 HG P52 LamX NdefX
abbrev nD (n : Nat) : PyData := .int (n : Int)
abbrev nV (n : Nat) : V := .int (n : Int)
def codeD (S : List PyData) (ks : List Nat) (b : Bool) (g : Gr) : PyData := .tuple [.tuple (ks.map (sv S)), .bool b, .tuple ((g.code S).map PyData.tuple)]
def spCode (K : PySem.W.Frag) (Ts : List (Addr × Str)) : Sp := fun vs H Q _ => ∃ (vg vk vs0 : V) (b : Bool) (g : Gr) (ks : List Nat) (S : List PyData), vs = [vg, vk, .bl b, vs0] ∧ Dp K H vg g.D ∧ Dp K H vk (.tuple (ks.map nD)) ∧ Dp K H vs0 (.tuple S) ∧ g.In S ∧ (∀ n ∈ ks, n < S.length) ∧ ks.length ≤ 1000 ∧ (∀ d ∈ S, noL d = true) ∧ Tabs Ts H ∧
  ∀ z H', ExtN H H' → Tabs Ts H' → Dp K H' z (codeD S ks b g) → Q z H'
theorem nlTs {S : List PyData} (hS : ∀ d ∈ S, noL d = true) (b : Blk) (k : Nat) : ∀ ds ∈ b.code S k, noL (.tuple ds) = true := by
  intro ds hds
  rcases List.mem_append.mp hds with h | h
  · obtain ⟨R, _, rfl⟩ := List.mem_map.mp h
    exact nlRS hS R
  · have h2 := noL_o S hS
    cases hE : b.stop with
    | jp n =>
      rw [hE] at h
      simp only [Stp.code] at h
      split at h
      · cases h
      · rw [List.mem_singleton.mp h]
        rfl
    | br a n m =>
      rw [hE] at h
      simp only [Stp.code] at h
      split at h
      · rw [List.mem_singleton.mp h]
        simp only [noL, noLAll, h2, Bool.and_self]
      · split at h
        · rw [List.mem_singleton.mp h]
          simp only [noL, noLAll, h2, Bool.and_self]
        · rcases List.mem_cons.mp h with h | h
          · rw [h]
            simp only [noL, noLAll, h2, Bool.and_self]
          · rw [List.mem_singleton.mp h]
            rfl
    | rt a =>
      rw [hE] at h
      rw [List.mem_singleton.mp h]
      cases a <;> simp only [ooS, noL, noLAll, h2, Bool.and_self]
    | ht i =>
      rw [hE] at h
      rw [List.mem_singleton.mp h]
      rfl
theorem extN_lst {H H1 : Hp} {a : Addr} {o : HO} (x : ExtN H H1) (h : H a = none) : ExtN H (upd H1 a o) := fun b u e n => by
  rw [upd_ne (ne_of_none e h)]
  exact x b u e n
theorem none_upd {H : Hp} {a p : Addr} {o : HO} (h : upd H a o p = none) : H p = none := by
  by_cases z : p = a
  · rw [z, upd_same] at h
    cases h
  · rw [upd_ne z] at h
    exact h
theorem extN_none {H H1 : Hp} (x : ExtN H H1) {p : Addr} {o : HO} (h : H1 p = none) : ExtN H (upd H1 p o) := x.trans (ExtN.of (same_new h))
section
variable {P : Program} {w : World} {K : PySem.W.Frag} {mg : Str → Option Value} {base : Heap} {Ts : List (Addr × Str)}
/-- the rows of a block -/
theorem lc_rows {H : Hp} {a D : Addr} {xs : List V} {rs : List Rw} {S : List PyData} {g : TG} {tt : L2.TT} {te : TE} {vs : List Nat} {σ : L2.St} {Qd : Hp → Prop} (sq : SqT K H a xs) (hA : DpAll K H xs (rs.map Rw.D)) (hl : rs.length ≤ 1000000) (hD : H D = none) (hT : Tabs Ts H) (hS : ∀ d ∈ S, noL d = true)
    (hs : ∀ (x : V) (R : Rw) (H3 : Hp) (QQ : VK) (RR : Hp → Prop), R ∈ rs → Dp K H3 x R.D → ExtN H H3 → Tabs Ts H3 → (∀ y H4, Dp K H4 y (.tuple (R.S S)) → ExtN H3 H4 → Tabs Ts H4 → QQ y H4) →
      g x (wipe σ vs) H3 fun σ2 H2 => wipe σ2 vs = wipe σ vs ∧ tt σ2 H2 fun b H3 => if b = true then te σ2 H3 QQ else RR H3)
    (hd : ∀ H3 ys, H3 D = some (.lst ys) → DpAll K H3 ys (rs.map fun R => .tuple (R.S S)) → ExtN H H3 → Tabs Ts H3 → Qd H3) : LcC (Itt K a) g tt te vs σ H D Qd := by
  have hlen := dpAll_len hA
  rw [List.length_map] at hlen
  refine lc_tup (xs := xs) (fun i H3 => ∃ ys, H3 D = some (.lst ys) ∧ DpAll K H3 ys ((rs.take i).map fun R => .tuple (R.S S)) ∧ ExtN H H3 ∧ Tabs Ts H3) ⟨[], upd_same, .nil, ExtN.of (same_new hD), hT.ext (same_new hD)⟩ ?_ ?_ ?_
  · rintro i H3 _ ⟨_, _, _, x3, _⟩
    exact sqT_kt (KT.ext x3) sq
  · rintro i x H3 hx ⟨ys, hD3, hY, x3, T3⟩
    obtain ⟨e, he, hxe⟩ := dpAll_map_get hA hx
    have hi : i < rs.length := (List.getElem?_eq_some_iff.mp he).1
    refine hs x e H3 _ _ (List.mem_of_getElem? he) (dp_kt (KT.ext x3) _ _ (nlR e) hxe) x3 T3 fun y H4 hy x4 T4 => ?_
    have hyl := dpAll_len hY
    rw [List.length_map, List.length_take] at hyl
    have hD4 := x4 _ _ hD3 (fun _ z => by cases z)
    refine ⟨_, hD4, small_line (by omega), _, upd_same, ?_, extN_lst (x3.trans x4) hD, tabs_lst T4 hD4⟩
    have e2 : ((rs.take (i + 1)).map fun R => PyData.tuple (R.S S)) = ((rs.take i).map fun R => PyData.tuple (R.S S)) ++ [.tuple (e.S S)] := by
      rw [List.take_add_one, he, List.map_append]
      rfl
    rw [e2]
    exact dpAll_app (dpAll_kt ((KT.ext x4).trans (KT.lst hD4)) _ _ (noLAll_map fun R _ => nlRS hS R) hY) (.cons (dp_kt (KT.lst hD4) _ _ (nlRS hS e) hy) .nil)
  · rintro H3 ⟨ys, hD3, hY, x3, T3⟩
    rw [hlen, List.take_length] at hY
    exact hd H3 ys hD3 hY x3 T3
theorem notJ (R : Rw) : isJ R.word = false := by cases R <;> (dsimp only [Rw.word]; decide +kernel)
theorem ci_row {m : Nat} (R : Rw) (S : List PyData) : CI m (R.S S) := by
  have : ∃ r, R.S S = .str R.word :: r ∧ (R.S S).length ≤ 5 := by cases R <;> exact ⟨_, rfl, Nat.le_of_ble_eq_true rfl⟩
  obtain ⟨r, e, hl⟩ := this
  refine ⟨R.word, r, e, fun h => ?_, by omega⟩
  rw [notJ R] at h
  cases h
theorem ci_end {m k : Nat} (E : Stp) (S : List PyData) (h : ∀ n ∈ E.to, n < m) : ∀ ds ∈ E.code S k, CI m ds := by
  intro ds hd
  cases E with
  | jp n =>
    simp only [Stp.code] at hd
    split at hd
    · cases hd
    · rw [List.mem_singleton.mp hd]
      exact ⟨_, _, rfl, fun _ => ⟨n, rfl, h n List.mem_cons_self⟩, Nat.le_of_ble_eq_true rfl⟩
  | br a n m' =>
    simp only [Stp.code] at hd
    have h1 := h n List.mem_cons_self
    have h2 := h m' (List.mem_cons_of_mem _ List.mem_cons_self)
    split at hd
    · rw [List.mem_singleton.mp hd]
      exact ⟨_, _, rfl, fun _ => ⟨n, rfl, h1⟩, Nat.le_of_ble_eq_true rfl⟩
    · split at hd
      · rw [List.mem_singleton.mp hd]
        exact ⟨_, _, rfl, fun _ => ⟨m', rfl, h2⟩, Nat.le_of_ble_eq_true rfl⟩
      · rcases List.mem_cons.mp hd with z | z
        · rw [z]
          exact ⟨_, _, rfl, fun _ => ⟨n, rfl, h1⟩, Nat.le_of_ble_eq_true rfl⟩
        · rw [List.mem_singleton.mp z]
          exact ⟨_, _, rfl, fun _ => ⟨m', rfl, h2⟩, Nat.le_of_ble_eq_true rfl⟩
  | rt a =>
    rw [List.mem_singleton.mp hd]
    exact ⟨_, _, rfl, fun z => absurd z (by decide +kernel), Nat.le_of_ble_eq_true rfl⟩
  | ht i =>
    rw [List.mem_singleton.mp hd]
    exact ⟨_, _, rfl, fun z => absurd z (by decide +kernel), Nat.le_of_ble_eq_true rfl⟩
theorem ci_code {g : Gr} {S : List PyData} (hI : g.In S) : ∀ ds ∈ (g.parts S).flatten, CI g.blocks.length ds := by
  intro ds hds
  obtain ⟨p, hp, hd⟩ := List.mem_flatten.mp hds
  obtain ⟨b, hb, j, rfl⟩ := partsFrom_mem hp
  rcases List.mem_append.mp hd with h | h
  · obtain ⟨R, _, rfl⟩ := List.mem_map.mp h
    exact ci_row R S
  · exact ci_end b.stop S (hI.to b hb) ds h
theorem nl_place (ps : List Nat) {ds : List PyData} (h : noL (.tuple ds) = true) : noL (.tuple (place ps ds)) = true := by
  rw [noL_tup] at h ⊢
  intro d hd
  unfold place at hd
  split at hd
  · split at hd
    · rcases List.mem_append.mp hd with z | z
      · exact h d (List.dropLast_subset _ z)
      · rw [List.mem_singleton.mp z]
        split <;> rfl
    · exact h d hd
  · exact h d hd
set_option pp.maxSteps 600 in
theorem ok_code_of (T : Txt w K mg) (B : Tbs K mg base Ts) : ∃ fd, FnOk P w K mg base CX0 5 (He.ga K "code_of") fd ["graph", "kept", "returns", "slots"] (spCode K Ts) ∧ FunD K "code_of" "code_of" (defArgs s_code_of) (defBody s_code_of) (defScope s_code_of) [] [] (He.ga K "code_of") fd := by
  obtain ⟨fd, F⟩ := T.d_code_of
  obtain ⟨cc, Pt, bt⟩ := B.c
  have TB := bt.tb
  have hmT := bt.mem
  have huT := bt.only
  have C_in_slots := c_in_slots (P := P) (base := base) T B
  have C_end_with_operands := c_end_with_operands (P := P) (base := base) T
  have C_end_code := c_end_code (P := P) (base := base) T
  have C_with_place := c_with_place (P := P) (base := base) T
  refine ⟨fd, ok_code F (bt.code fd F) sc_code_of (fun vs H Q E h => ?_) (fun A outer s H vs Q E hr h => ?_), F⟩
  · obtain ⟨vg, vk, vs0, b, g, ks, S, rfl, _⟩ := h
    rfl
  obtain ⟨vg, vk, vs0, b, g, ks, S, rfl, hg, hk, hv, hI, hks, hkl, hS, hT, q⟩ := h
  refine ⟨_, PSs.nox (pss_cons (ps_set (i := 4) sc_code_of.nd rfl (.inl rfl) (pe_lst pa_nil))
      (pss_cons (ps_set (i := 5) sc_code_of.nd rfl (.inr rfl) (pe_lst pa_nil))
      (pss_cons (ps_for PassesOwn.never rfl (pi_enumT (by rfl) T.n_enumerate (pa_cons (pe_ix (ix_P (K := K) rfl) (pv 0) pe_int (fun _ _ => rfl)) pa_nil)) (pg_tupK (K := K) (n := 2) rfl rfl (pgs_cons (pg_name (i := 6) sc_code_of.nd rfl (.inl rfl)) (pgs_cons (pg_tupK (K := K) (n := 2) rfl rfl (pgs_cons (pg_name (i := 7) sc_code_of.nd rfl (.inl rfl)) (pgs_cons (pg_name (i := 8) sc_code_of.nd rfl (.inl rfl)) pgs_nil))) pgs_nil))) (pss_cons (ps_expr (pe_bm PySem.F.plainAttrs_list PySem.F.slot_list_append PySem.F.type_list_append mt_append (pv 5) (pa_cons (pe_callB (lenK (K := K) rfl) (by rfl) T.n_len (by decide +kernel) (pa_cons (pv 4) pa_nil)) pa_nil)))
      (pss_cons (ps_expr (pe_bm PySem.F.plainAttrs_list PySem.F.slot_list_extend PySem.F.type_list_extend mt_extend (pv 4) (pa_cons (pe_lc (own := [("instruction", 10)]) (by rfl) sc_code_of.nd (pi_tup (pv 7)) (blkOk_by (own := [("instruction", 10)]) (N := N_code_of) (sc := defScope s_code_of) (by decide +kernel)) (fun _ _ _ _ _ => (pg_name (i := 10) sc_code_of.nd rfl (.inl rfl))) (fun _ _ _ _ _ => pts_nil) (fun _ _ _ _ _ => (pe_cal C_in_slots (hr.mono (by omega)) (by rfl) (pa_cons (pv 10) (pa_cons (pv 3) pa_nil))))) pa_nil)))
      (pss_cons (ps_set (i := 9) sc_code_of.nd rfl (.inl rfl) (pe_calA C_end_with_operands (hr.mono (by omega)) (by rfl) (pa_cons (pv 8) (pa_cons (pe_lam (y := "slots") TB rfl hmT huT rfl (by decide +kernel) rfl (by decide +kernel)) pa_nil)) (y := "slots") (j := 3) rfl rfl rfl))
      (pss_one (ps_expr (pe_bm PySem.F.plainAttrs_list PySem.F.slot_list_extend PySem.F.type_list_extend mt_extend (pv 4) (pa_cons (pe_cal C_end_code (hr.mono (by omega)) (by rfl) (pa_cons (pv 9) (pa_cons (pe_op op_add (pv 6) pe_int) pa_nil))) pa_nil))))))))
      (pss_one (ps_ret (pe_tup (pa_cons (pe_callTy call_tuple_of (by rfl) T.n_tuple (by decide +kernel) (pa_cons (pe_lc (own := [("v", 11)]) (by rfl) sc_code_of.nd (pi_tup (pv 1)) (blkOk_by (own := [("v", 11)]) (N := N_code_of) (sc := defScope s_code_of) (by decide +kernel)) (fun _ _ _ _ _ => (pg_name (i := 11) sc_code_of.nd rfl (.inl rfl))) (fun _ _ _ _ _ => pts_nil) (fun _ _ _ _ _ => (pe_ix (ix_P (K := K) rfl) (pv 3) (pv 11) (fun _ _ => rfl)))) pa_nil)) (pa_cons (pv 2) (pa_cons (pe_callTy call_tuple_of (by rfl) T.n_tuple (by decide +kernel) (pa_cons (pe_lc (own := [("one", 12)]) (by rfl) sc_code_of.nd (pi_list (pv 4)) (blkOk_by (own := [("one", 12)]) (N := N_code_of) (sc := defScope s_code_of) (by decide +kernel)) (fun _ _ _ _ _ => (pg_name (i := 12) sc_code_of.nd rfl (.inl rfl))) (fun _ _ _ _ _ => pts_nil) (fun _ _ _ _ _ => (pe_cal C_with_place (hr.mono (by omega)) (by rfl) (pa_cons (pv 12) (pa_cons (pv 5) pa_nil))))) pa_nil)) pa_nil))))))))), ?_⟩
  refine ⟨Nat.zero_le _, fun c hc => ⟨Nat.zero_le _, fun pl hpl => ?_⟩⟩
  have hpl0 : H pl = none := none_upd hpl
  have ncp : c ≠ pl := fun z => by rw [← z, upd_same] at hpl; cases hpl
  have s0 : Same H (upd (upd H c (.lst [])) pl (.lst [])) := (same_new hc).trans (same_new hpl)
  have hc0 : (upd (upd H c (.lst [])) pl (.lst [])) c = some (.lst []) := by rw [upd_ne ncp]; exact upd_same
  have hp0 : (upd (upd H c (.lst [])) pl (.lst [])) pl = some (.lst []) := upd_same
  generalize upd (upd H c (.lst [])) pl (.lst []) = H0 at s0 hc0 hp0 ⊢
  refine ⟨vg, rfl, _, 1, _, dp_mono s0 _ _ hg, rfl, rfl, fun zb hzb => ?_⟩
  cases hzb with
  | @tup ab xb _ sqb hab =>
    have hlb := dpAll_len hab
    rw [List.length_map] at hlb
    refine ⟨ab, xb, rfl, sqb, ?_⟩
    refine for_it (walk_enumT (xs := xb)) (fun i σ H3 => ∃ ys x6 x7 x8 x9 x10 x11 x12, σ = [some vg, some vk, some (.bl b), some vs0, some (.ref c), some (.ref pl), x6, x7, x8, x9, x10, x11, x12] ∧ H3 c = some (.lst ys) ∧ DpAll K H3 ys ((partsFrom S 0 (g.blocks.take i)).flatten.map PyData.tuple) ∧
      H3 pl = some (.lst ((startsFrom 0 (partsFrom S 0 (g.blocks.take i))).map nV)) ∧ ExtN H H3 ∧ KT H0 H3 ∧ Tabs Ts H3) ⟨[], _, _, _, _, _, _, _, rfl, hc0, .nil, hp0, ExtN.of s0, KT.refl _, hT.ext s0⟩ ?_ ?_ ?_
    · rintro i σ H3 _ ⟨ys, x6, x7, x8, x9, x10, x11, x12, rfl, _, _, _, x3, k3, _⟩
      exact sqT_kt k3 sqb
    · rintro i x σ H3 H4 hi ⟨ys, x6, x7, x8, x9, x10, x11, x12, rfl, hc3, hY, hp3, x3, k3, T3⟩ ⟨T1, y1, y2, rfl, hT1, rfl, e1, e2⟩
      injection e1 with e1
      subst e1
      obtain ⟨bk, hbk, hy2⟩ := dpAll_map_get hab e2
      have hbm := List.mem_of_getElem? hbk
      have sT := same_new (o := .tup [.int (i : Nat), y2]) hT1
      have hy2 := dp_mono sT _ _ (dp_kt k3 _ _ (nlB bk) hy2)
      have hiB : i < g.blocks.length := (List.getElem?_eq_some_iff.mp hbk).1
      cases hy2 with
      | @tup a2 xs2 _ sq2 ha2 =>
        cases ha2 with
        | cons hrow r1 =>
          cases r1 with
          | cons hend r2 =>
            cases r2
            rename_i v1 v2
            refine ⟨T1, _, rfl, .inl (.inl upd_same), rfl, _, _, rfl, _, _, rfl, a2, _, rfl, sq2, rfl, _, _, rfl, _, _, rfl, rfl, rfl, ?_⟩
            have x4 := x3.trans (ExtN.of sT)
            have k4 := k3.trans (KT.of sT)
            have T4 := T3.ext sT
            have hc4 := sT _ _ hc3
            have hp4 := sT _ _ hp3
            have hY4 := dpAll_mono sT _ _ hY
            generalize upd H3 T1 (.tup [.int (i : Nat), .ref a2]) = H4 at hrow hend x4 k4 T4 hc4 hp4 hY4 sq2 ⊢
            -- places.append(len(code))
            have hyl := dpAll_len hY4
            rw [List.length_map] at hyl
            have hfl : (partsFrom S 0 (g.blocks.take i)).flatten.length ≤ 100 * 102 := by
              have h1 := flat_len (S := S) (m := 100) (k := 0) (l := g.blocks.take i) fun b hb => hI.rows b (List.mem_of_mem_take hb)
              rw [List.length_take] at h1
              have h2 := hI.many
              exact Nat.le_trans h1 (Nat.mul_le_mul (by omega) (Nat.le_refl _))
            refine ⟨.ref pl, rfl, .inl ⟨rfl, _, .inl (.inl hp4)⟩, .ref c, rfl, .ref c, ys.length, rfl, .inl ⟨ys, .inl (.inl hc4), rfl⟩, pl, _, _, rfl, rfl, hp4, ?_, ?_⟩
            · rw [List.length_map, startsFrom_len, partsFrom_len, List.length_take]
              have := hI.many
              exact small_line (by omega)
            have eP : (startsFrom 0 (partsFrom S 0 (g.blocks.take i))).map nV ++ [.int ((ys.length : Nat) : Int)] = (startsFrom 0 (partsFrom S 0 (g.blocks.take (i + 1)))).map nV := by
              rw [parts_take hbk, startsFrom_snoc, List.map_append, hyl, Nat.zero_add]
              rfl
            rw [eP]
            have k5 := KT.lst (o := .lst ((startsFrom 0 (partsFrom S 0 (g.blocks.take (i + 1)))).map nV)) hp4
            have x5 := extN_lst (o := .lst ((startsFrom 0 (partsFrom S 0 (g.blocks.take (i + 1)))).map nV)) x4 hpl0
            have T5 := tabs_lst (o := .lst ((startsFrom 0 (partsFrom S 0 (g.blocks.take (i + 1)))).map nV)) T4 hp4
            have hc5 : (upd H4 pl (.lst ((startsFrom 0 (partsFrom S 0 (g.blocks.take (i + 1)))).map nV))) c = some (.lst ys) := by rw [upd_ne ncp]; exact hc4
            have hp5 : (upd H4 pl (.lst ((startsFrom 0 (partsFrom S 0 (g.blocks.take (i + 1)))).map nV))) pl = some (.lst ((startsFrom 0 (partsFrom S 0 (g.blocks.take (i + 1)))).map nV)) := upd_same
            have nlY : noLAll ((partsFrom S 0 (g.blocks.take i)).flatten.map PyData.tuple) = true := noLAll_map fun ds hds => by
              obtain ⟨p, hp, hd⟩ := List.mem_flatten.mp hds
              obtain ⟨b', _, j, rfl⟩ := partsFrom_mem hp
              exact nlTs hS b' j ds hd
            have hY5 := dpAll_kt k5 _ _ nlY hY4
            have nlRw := nlRs bk.rows
            have hrow5 := dp_kt k5 _ _ (by simpa only [noL] using nlRw) hrow
            have hend5 := dp_kt k5 _ _ (nlE bk.stop) hend
            have k05 := k4.trans k5
            generalize upd H4 pl (.lst ((startsFrom 0 (partsFrom S 0 (g.blocks.take (i + 1)))).map nV)) = H5 at x5 T5 hc5 hp5 hY5 hrow5 hend5 k05 ⊢
            have hv5 := dp_kt (KT.ext x5) _ _ (noL_tup.mpr hS) hv
            -- code.extend([in_slots(..) ..])
            cases hrow5 with
            | @tup a3 xs3 _ sq3 ha3 =>
              refine ⟨.ref c, rfl, .inl ⟨rfl, _, .inl (.inl hc5)⟩, .ref a3, rfl, a3, rfl, ⟨xs3, sq3⟩, fun D hD => ?_⟩
              have ncD : c ≠ D := ne_of_none hc5 hD
              have npD : pl ≠ D := ne_of_none hp5 hD
              refine lc_rows (rs := bk.rows) (S := S) sq3 ha3 (by have := hI.rows bk hbm; omega) hD T5 hS (fun x R H6 QQ RR hm hx x6 T6 hq => ?_) fun H6 us hD6 hU x6 T6 => ?_
              · exact ⟨rfl, tyes ⟨x, rfl, vs0, rfl, x, vs0, R, S, rfl, hx, dp_kt (KT.ext x6) _ _ (noL_tup.mpr hS) hv5, ⟨hI.ops bk hbm R hm, hI.set bk hbm R hm, hI.len bk hbm R hm⟩, hS, T6, fun z H7 x7 T7 hz => hq z H7 hz x7 T7⟩⟩
              have hul := dpAll_len hU
              rw [List.length_map] at hul
              have hrl := hI.rows bk hbm
              have hc6 := x6 _ _ hc5 (fun _ z => by cases z)
              refine ⟨c, D, ys, us, rfl, rfl, hc6, hD6, by rw [sizeLine_eq]; omega, ?_⟩
              have x7 := extN_lst (o := .lst (ys ++ us)) (x5.trans x6) hc
              have kk := KT.lst (o := .lst (ys ++ us)) hc6
              have k07 := (k05.trans (KT.ext x6)).trans kk
              have T7 := tabs_lst (o := .lst (ys ++ us)) T6 hc6
              have hc7 : (upd H6 c (.lst (ys ++ us))) c = some (.lst (ys ++ us)) := upd_same
              have hp7 : (upd H6 c (.lst (ys ++ us))) pl = some (.lst ((startsFrom 0 (partsFrom S 0 (g.blocks.take (i + 1)))).map nV)) := by
                rw [upd_ne ncp.symm]
                exact x6 _ _ hp5 (fun _ z => by cases z)
              have hY7 := dpAll_kt ((KT.ext x6).trans kk) _ _ nlY hY5
              have nlU : noLAll (bk.rows.map fun R => PyData.tuple (R.S S)) = true := noLAll_map fun R _ => nlRS hS R
              have hU7 := dpAll_kt kk _ _ nlU hU
              have hend7 := dp_kt ((KT.ext x6).trans kk) _ _ (nlE bk.stop) hend5
              generalize upd H6 c (.lst (ys ++ us)) = H7 at x7 k07 T7 hc7 hp7 hY7 hU7 hend7 ⊢
              have hv7 := dp_kt (KT.ext x7) _ _ (noL_tup.mpr hS) hv
              -- end = end_with_operands(..)
              refine ⟨v2, rfl, T7, fun f c' H8 x8 g8 T8 nf hf hc' => ⟨vs0, rfl, fun ncs o ho => ?_⟩⟩
              generalize (Option.getD _ 0) = cs at *
              have sN : Same H8 (upd H8 cs (CellO cs o)) := same_new ncs
              have hend8 := dp_kt (KT.ext x8) _ _ (nlE bk.stop) hend7
              have hv8 := dp_kt (KT.ext x8) _ _ (noL_tup.mpr hS) hv7
              have hL : LamAt K F_co "slots" (upd H8 cs (CellO cs o)) f c' cs o vs0 S := ⟨sN _ _ hf, sN _ _ hc', upd_same, ho, dp_mono sN _ _ hv8⟩
              refine ⟨v2, bk.stop, f, c', cs, o, vs0, S, rfl, dp_mono sN _ _ hend8, hL, hI.end_ bk hbm, fun z H9 s9 hz => ⟨s9 _ _ upd_same, ?_⟩⟩
              have hz2 := dp_hide (s9 _ _ hL.cell) _ _ hz
              have s89 := same_adopt ncs s9
              generalize hide H9 cs = H10 at hz2 s89 ⊢
              have x710 : ExtN H7 H10 := x8.trans (ExtN.of s89)
              have T10 := T8.ext s89
              have hc10 := x710 _ _ hc7 (fun _ z => by cases z)
              -- code.extend(end_code(..))
              refine ⟨.ref c, rfl, .inl ⟨rfl, _, .inl (.inl hc10)⟩, z, rfl, .int (i : Nat), rfl, _, _, rfl, rfl, z, bk.stop, S, i + 1, rfl, hz2, hS, fun ae es H11 s11 hae hE => ?_⟩
              have hel := dpAll_len hE
              rw [List.length_map] at hel
              have hcl := code_len S (i + 1) bk.stop
              have hc11 := s11 _ _ hc10
              refine ⟨c, ae, ys ++ us, es, rfl, rfl, hc11, hae, by rw [List.length_append, sizeLine_eq]; omega, ?_⟩
              have x711 : ExtN H7 H11 := x710.trans (ExtN.of s11)
              have ke := KT.lst (o := .lst (ys ++ us ++ es)) hc11
              refine ⟨ys ++ us ++ es, _, _, _, _, _, _, _, rfl, upd_same, ?_, ?_, extN_lst (x7.trans x711) hc, (k07.trans (KT.ext x711)).trans ke, tabs_lst (T10.ext s11) hc11⟩
              · have e9 : (partsFrom S 0 (g.blocks.take (i + 1))).flatten.map PyData.tuple = (partsFrom S 0 (g.blocks.take i)).flatten.map PyData.tuple ++ (bk.rows.map fun R => PyData.tuple (R.S S)) ++ (bk.stop.code S (i + 1)).map PyData.tuple := by
                  rw [parts_take hbk, List.flatten_append, List.map_append]
                  simp only [Blk.code, List.flatten_cons, List.flatten_nil, List.append_nil, List.map_append, List.map_map, List.append_assoc]
                  rfl
                rw [e9]
                have kf := (KT.ext x711).trans ke
                refine dpAll_app (dpAll_app (dpAll_kt kf _ _ nlY hY7) (dpAll_kt kf _ _ nlU hU7)) (dpAll_kt ke _ _ (noLAll_map fun ds hds => nlTs hS bk i ds (List.mem_append_right _ hds)) hE)
              · rw [upd_ne ncp.symm]
                exact x711 _ _ hp7 (fun _ z => by cases z)
    · rintro σ H3 ⟨ys, x6, x7, x8, x9, x10, x11, x12, rfl, hc3, hY, hp3, x3, k3, T3⟩
      rw [hlb, List.take_length] at hY hp3
      have kh := KT.ext x3
      have hv3 := dp_kt kh _ _ (noL_tup.mpr hS) hv
      have hk3 := dp_kt kh _ _ (by simpa only [noL] using (noLAll_map (as := ks) (f := nD) fun _ _ => rfl)) hk
      have nlY : ∀ ds ∈ (g.parts S).flatten, noL (.tuple ds) = true := fun ds hds => by
        obtain ⟨p, hp, hd⟩ := List.mem_flatten.mp hds
        obtain ⟨b', _, j, rfl⟩ := partsFrom_mem hp
        exact nlTs hS b' j ds hd
      have hfl : (g.parts S).flatten.length ≤ 100 * 102 := by
        have h1 := flat_len (S := S) (m := 100) (k := 0) (l := g.blocks) fun b hb => hI.rows b hb
        exact Nat.le_trans h1 (Nat.mul_le_mul hI.many (Nat.le_refl _))
      cases hk3 with
      | @tup ak xk _ sqk hak =>
        refine ⟨.ref ak, rfl, ak, rfl, ⟨xk, sqk⟩, fun D hD => ?_⟩
        refine lc_mk (as := ks) (g0 := nD) (f := sv S) sqk hak (by omega) hD (fun n _ => nlSv hS n) (fun x n H4 QQ RR hm hx s4 hq => ?_) fun H4 us hD4 hU s4 => ?_
        · cases hx
          exact ⟨rfl, tyes ⟨vs0, rfl, _, rfl, S, n, _, dp_mono s4 _ _ hv3, rfl, sv_get (hks n hm), fun z hz => hq z _ hz (Same.refl _)⟩⟩
        refine ⟨D, us, rfl, .inl ⟨.inl (.inl hD4), fun p5 hp5 => ?_⟩⟩
        have s5 := s4.trans (same_new (o := .tup us) hp5)
        have hU5 : Dp K (upd H4 p5 (.tup us)) (.ref p5) (.tuple (ks.map (sv S))) := dp_tupN hp5 hU
        generalize upd H4 p5 (.tup us) = H5 at s5 hU5 ⊢
        refine ⟨.bl b, rfl, .ref c, rfl, c, rfl, ⟨_, .inl (.inl (s5 _ _ hc3))⟩, fun D6 hD6 => ?_⟩
        refine lc_mkL (as := (g.parts S).flatten) (g0 := PyData.tuple) (f := fun ds => .tuple (place (startsFrom 0 (g.parts S)) ds)) (.inl (.inl (s5 _ _ hc3))) (dpAll_mono s5 _ _ hY) (by omega) hD6 (fun ds hd => nl_place _ (nlY ds hd)) (fun x ds H7 QQ RR hm hx s7 hq => ?_) fun H7 ws hD7 hW s7 => ?_
        · refine ⟨rfl, tyes ⟨x, rfl, .ref pl, rfl, x, pl, ds, startsFrom 0 (g.parts S), rfl, dp_mono s7 _ _ hx, .inl (.inl ((s5.trans s7) _ _ hp3)), ?_, fun z H8 s8 hz => hq z H8 hz s8⟩⟩
          rw [startsFrom_len, partsFrom_len]
          exact ci_code hI ds hm
        refine ⟨D6, ws, rfl, .inl ⟨.inl (.inl hD7), fun p8 hp8 => ⟨(by show 3 ≤ sizeLine; decide), fun p9 hp9 => ?_⟩⟩⟩
        have s8 := s5.trans (s7.trans (same_new (o := .tup ws) hp8))
        have s9 := s8.trans (same_new (o := .tup [.ref p5, .bl b, .ref p8]) hp9)
        refine q _ _ (x3.trans (ExtN.of s9)) (T3.ext s9) ?_
        refine dp_tupN hp9 (.cons (dp_mono (s7.trans (same_new hp8)) _ _ hU5) (.cons (.bl b) (.cons ?_ .nil)))
        have e9 : (g.code S).map PyData.tuple = (g.parts S).flatten.map fun ds => .tuple (place (startsFrom 0 (g.parts S)) ds) := by
          unfold Gr.code
          rw [List.map_map]
          rfl
        rw [e9]
        exact dp_tupN hp8 hW
end
end K52

set_option maxHeartbeats 4000000
namespace K52
open PySem PySem.Spec PyProof.Rows L2 HG P52
section
variable {P : Program} {w : World} {K : PySem.W.Frag} {mg : Str → Option Value} {base : Heap}
set_option pp.maxSteps 600 in
theorem c_lin (T : Txt w K mg) : Cal P w K mg base "_law_in_slots" 1 ["_law_operand_here", "_law_rooms"] (spOpS K) := by
  obtain ⟨fd, F⟩ := T.d__law_in_slots
  refine ⟨⟨fd, F.ok sc__law_in_slots (fun vs H Q E h => ?_) (fun cdv A outer s H vs Q E hr h => ?_), F.bindsN fun _ _ _ _ _ _ us hl => match us, hl with | [_, _], _ => rfl⟩, T.g _ (by decide), F.kp⟩
  · obtain ⟨v, u, a, S, rfl, _⟩ := h
    rfl
  obtain ⟨v, u, a, S, rfl, hv, hS, hn, q⟩ := h
  refine ⟨_, PSs.nox (pss_one (ps_ret (pe_ifExp (pt_val (pe_callB (isiK (K := K) rfl) (by rfl) T.n_isinstance (by decide +kernel) (pa_cons (pv 0) (pa_cons (pe_bltn (v := .ty "tuple") (u := .type "tuple") (by rfl) T.n_tuple (by decide +kernel) rfl) pa_nil)))) (pe_tup (pa_cons pe_str (pa_cons (pe_ix (ix_P (K := K) rfl) (pv 1) (pe_ix (ix_P (K := K) rfl) (pv 0) pe_int (fun _ _ => rfl)) (fun _ _ => rfl)) pa_nil))) (pv 0)))), ?_⟩
  refine ⟨v, rfl, v, .ty "tuple", _, _, _, rfl, .ty _, dp_ty hv, kit_ty (kit_tuple _), _, rfl, ?_⟩
  cases a with
  | w i => exact iteF ⟨v, rfl, q _ _ (Same.refl _) hv⟩
  | v n =>
    refine iteT ⟨u, rfl, v, rfl, _, 1, _, hv, rfl, rfl, fun z hz => ?_⟩
    cases hz
    refine ⟨_, n, _, hS, rfl, sv_get (hn n List.mem_cons_self), fun z2 hz2 => ⟨(by show 2 ≤ sizeLine; decide), fun p hp => q _ _ (same_new hp) (dp_tupN hp (.cons (.str _) (.cons hz2 .nil)))⟩⟩
def setsOf (x : Str) (d : PyData) : PyData := if inV (.str x) settersV = true then d else .none
def spSets (K : PySem.W.Frag) : Sp := fun vs H Q _ => ∃ (v : V) (x : Str) (d : PyData) (r : List PyData), vs = [v] ∧ Dp K H v (.tuple (.str x :: d :: r)) ∧ ∀ z H', Same H H' → Dp K H' z (setsOf x d) → Q z H'
set_option pp.maxSteps 600 in
theorem c_sets (T : Txt w K mg) : Cal P w K mg base "_law_sets" 1 ["_law_row_here"] (spSets K) := by
  obtain ⟨fd, F⟩ := T.d__law_sets
  refine ⟨⟨fd, F.ok sc__law_sets (fun vs H Q E h => ?_) (fun cdv A outer s H vs Q E hr h => ?_), F.bindsN fun _ _ _ _ _ _ us hl => match us, hl with | [_], _ => rfl⟩, T.g _ (by decide), F.kp⟩
  · obtain ⟨v, x, d, r, rfl, _⟩ := h
    rfl
  obtain ⟨v, x, d, r, rfl, hv, q⟩ := h
  refine ⟨_, PSs.nox (pss_one (ps_ret (pe_ifExp (pt_cmpR (op_in_seqK (K := K) rfl) (pe_ix (ix_P (K := K) rfl) (pv 0) pe_int (fun _ _ => rfl)) (pe_tup (pa_cons pe_str (pa_cons pe_str (pa_cons pe_str (pa_cons pe_str (pa_cons pe_str (pa_cons pe_str (pa_cons pe_str pa_nil)))))))) (by rfl)) (pe_ix (ix_P (K := K) rfl) (pv 0) pe_int (fun _ _ => rfl)) pe_non))), ?_⟩
  refine ⟨v, rfl, _, 0, _, hv, rfl, rfl, fun z hz => ?_⟩
  cases hz
  refine ⟨(by show 7 ≤ sizeLine; decide), fun p hp => ⟨_, _, rfl, .inr (.inl (.inl upd_same)), rfl, rfl, _, rfl, ?_⟩⟩
  have s1 := same_new (o := .tup settersV) hp
  generalize upd H p (.tup settersV) = H1 at s1 ⊢
  show if inV (.str x) settersV = true then _ else _
  cases hb : inV (.str x) settersV with
  | true =>
    refine iteT ⟨v, rfl, _, 1, _, dp_mono s1 _ _ hv, rfl, rfl, fun z hz => q _ _ s1 ?_⟩
    unfold setsOf
    rw [if_pos hb]
    exact hz
  | false =>
    refine iteF (q _ _ s1 ?_)
    unfold setsOf
    rw [if_neg (by rw [hb]; decide)]
    exact .non
/-! ### _law_row_in_slots -/
abbrev firstKV : List (Key × V) := [(Sum.inr "op", .int 3), (Sum.inr "read", .int 3), (Sum.inr "store", .int 2), (Sum.inr "write", .int 2), (Sum.inr "print", .int 1)]
def firstV (x : Str) (n : Nat) : V := (valV firstKV (Sum.inr x)).getD (.int (n : Int))
theorem row_first {R : Rw} (h1 : in2 R.word "call" "apply" = false) (h2 : eqw R.word "copy" = false) : ∃ k : Nat, firstV R.word R.L.length = .int (k : Int) ∧ k ≤ R.L.length ∧ R.L.drop k = R.ops.map oD ∧ ∀ S, R.L.take k ++ R.ops.map (oS S) = R.wo S := by
  cases R with
  | cw v i => exact ⟨3, (by decide +kernel : firstV "const" 3 = .int ((3 : Nat) : Int)), Nat.le_of_ble_eq_true rfl, rfl, fun _ => rfl⟩
  | cf v i => exact ⟨3, (by decide +kernel : firstV "const" 3 = .int ((3 : Nat) : Int)), Nat.le_of_ble_eq_true rfl, rfl, fun _ => rfl⟩
  | cp v u => exact absurd h2 (by dsimp only [Rw.word]; decide +kernel)
  | op v x a b => exact ⟨3, (by decide +kernel : firstV "op" 5 = .int ((3 : Nat) : Int)), Nat.le_of_ble_eq_true rfl, rfl, fun _ => rfl⟩
  | ld v x => exact ⟨3, (by decide +kernel : firstV "load" 3 = .int ((3 : Nat) : Int)), Nat.le_of_ble_eq_true rfl, rfl, fun _ => rfl⟩
  | rd v x a => exact ⟨3, (by decide +kernel : firstV "read" 4 = .int ((3 : Nat) : Int)), Nat.le_of_ble_eq_true rfl, rfl, fun _ => rfl⟩
  | ca v x as => exact absurd h1 (by dsimp only [Rw.word]; decide +kernel)
  | ap v x as => exact absurd h1 (by dsimp only [Rw.word]; decide +kernel)
  | st x a => exact ⟨2, (by decide +kernel : firstV "store" 3 = .int ((2 : Nat) : Int)), Nat.le_of_ble_eq_true rfl, rfl, fun _ => rfl⟩
  | pr a => exact ⟨1, (by decide +kernel : firstV "print" 2 = .int ((1 : Nat) : Int)), Nat.le_of_ble_eq_true rfl, rfl, fun _ => rfl⟩
  | wr x a b => exact ⟨2, (by decide +kernel : firstV "write" 4 = .int ((2 : Nat) : Int)), Nat.le_of_ble_eq_true rfl, rfl, fun _ => rfl⟩
theorem row_ca {R : Rw} (h1 : in2 R.word "call" "apply" = true) (h2 : eqw R.word "apply" = false) : ∃ v x as, R = .ca v x as := by
  cases R <;> first | exact ⟨_, _, _, rfl⟩ | (dsimp only [Rw.word] at h1; exact absurd h1 (by decide +kernel)) | (dsimp only [Rw.word] at h2; exact absurd h2 (by decide +kernel))
theorem wo_sets (R : Rw) (S : List PyData) : ∃ d r, R.wo S = .str R.word :: d :: r ∧ setsOf R.word d = ovD R.set := by
  cases R <;> exact ⟨_, _, rfl, by dsimp only [Rw.word]; first | exact if_pos (by decide +kernel) | exact if_neg (by decide +kernel)⟩
theorem wo_set1 {R : Rw} {S : List PyData} {n : Nat} (h : R.set = some n) : (R.wo S)[1]? = some (.int (n : Int)) := by
  cases R <;> first | (cases h; rfl) | (simp only [Rw.set] at h; subst h; rfl) | (simp only [Rw.set] at h; cases h)
theorem mergeFirst : mergeK [] firstKV = firstKV := by decide +kernel
def spRowS (K : PySem.W.Frag) : Sp := fun vs H Q _ => ∃ (v u : V) (R : Rw) (S : List PyData), vs = [v, u] ∧ Dp K H v R.D ∧ Dp K H u (.tuple S) ∧ RowIn S R ∧ (∀ d ∈ S, noL d = true) ∧ ∀ z H', Same H H' → Dp K H' z (.tuple (R.S S)) → Q z H'
theorem row_tail {H H3 : Hp} {R : Rw} {S : List PyData} {z u : V} {Q : VK} {x2 x3 x4 x5 : Option V} (hR : RowIn S R) (hu : Dp K H u (.tuple S)) (s3 : Same H H3) (hz : Dp K H3 z (.tuple (R.wo S))) (q : ∀ z H', Same H H' → Dp K H' z (.tuple (R.S S)) → Q z H') :
    tSeq (tIfS (tTest (tOp (fun x y H Q => y = V.non ∧ Q (V.bl !decide (x = V.non)) H) (tCall (spSets K) [] E0 (tCons (tVar 0) tNil)) (tC V.non))) (tAsg (tOp (rCatP K) (tOp (rCatP K) (tSl (rSlP K) (tVar 0) tNoPart (tPart (tC (V.int 1)))) (tTup (tCons (tOp (rIxP K) (tVar 1) (tOp (rIxP K) (tVar 0) (tC (V.int 1)))) tNil))) (tSl (rSlP K) (tVar 0) (tPart (tC (V.int 2))) tNoPart)) (gName 0)) tNext) (tRet (tVar 0))
      { nx := fun x H' => Q V.non H', rt := Q } [some z, some u, x2, x3, x4, x5] H3 := by
  obtain ⟨d, r, e1, e2⟩ := wo_sets R S
  have hz' := hz
  rw [e1] at hz'
  refine ⟨z, rfl, z, R.word, d, r, rfl, hz', fun z8 H8 s8 h8 => ⟨rfl, _, rfl, ?_⟩⟩
  rw [e2] at h8
  have hz8 := dp_mono s8 _ _ hz
  have s38 := s3.trans s8
  cases hset : R.set with
  | none =>
    rw [hset] at h8
    cases h8
    refine iteF ⟨z, rfl, q z H8 s38 ?_⟩
    rw [← rowS0 S hset]
    exact hz8
  | some n =>
    rw [hset] at h8
    cases h8
    have hwl := wo_len R S
    refine iteT ⟨z, rfl, 1, rfl, _, hz8, fun z9 H9 s9 h9 => ?_⟩
    rw [show (some (1 : Int)) = some ((1 : Nat) : Int) from rfl, cutP_to] at h9
    refine ⟨u, rfl, z, rfl, _, 1, _, dp_mono s9 _ _ hz8, rfl, wo_set1 hset, fun z10 h10 => ?_⟩
    cases h10
    refine ⟨S, n, _, dp_mono (s38.trans s9) _ _ hu, rfl, sv_get (hR.set n hset), fun z11 h11 => ⟨(by show 1 ≤ sizeLine; decide), fun p12 hp12 => ?_⟩⟩
    have s12 := same_new (o := .tup [z11]) hp12
    refine ⟨_, _, dp_mono s12 _ _ h9, dp_tupN hp12 (.cons h11 .nil), ?_, fun z13 H13 s13 h13 => ?_⟩
    · rw [List.length_take, sizeLine_eq]
      show min 1 (R.wo S).length + 1 ≤ 16777216
      omega
    have s813 := s9.trans (s12.trans s13)
    refine ⟨z, rfl, 2, rfl, _, dp_mono s813 _ _ hz8, fun z14 H14 s14 h14 => ?_⟩
    rw [show (some (2 : Int)) = some ((2 : Nat) : Int) from rfl, cutP_from] at h14
    refine ⟨_, _, dp_mono s14 _ _ h13, h14, ?_, fun z15 H15 s15 h15 => ⟨z15, rfl, q z15 H15 (s38.trans (s813.trans (s14.trans s15))) ?_⟩⟩
    · rw [List.length_append, List.length_take, List.length_drop, sizeLine_eq]
      show min 1 (R.wo S).length + 1 + ((R.wo S).length - 2) ≤ 16777216
      omega
    · rw [← rowS S hset]
      exact h15
set_option pp.maxSteps 600 in
theorem c_rowS (T : Txt w K mg) : Cal P w K mg base "_law_row_in_slots" 2 ["_law_row_here", "_law_rooms"] (spRowS K) := by
  obtain ⟨fd, F⟩ := T.d__law_row_in_slots
  have C__law_in_slots := c_lin (P := P) (base := base) T
  have C__law_sets := c_sets (P := P) (base := base) T
  refine ⟨⟨fd, F.ok sc__law_row_in_slots (fun vs H Q E h => ?_) (fun cdv A outer s H vs Q E hr h => ?_), F.bindsN fun _ _ _ _ _ _ us hl => match us, hl with | [_, _], _ => rfl⟩, T.g _ (by decide), F.kp⟩
  · obtain ⟨v, u, R, S, rfl, _⟩ := h
    rfl
  obtain ⟨v, u, R, S, rfl, hv, hu0, hR, hS, q⟩ := h
  have hu := hu_of hr
  refine ⟨_, PSs.nox (pss_cons (ps_set (i := 2) sc__law_row_in_slots.nd rfl (.inl rfl) (pe_ix (ix_P (K := K) rfl) (pv 0) pe_int (fun _ _ => rfl)))
      (pss_cons (ps_set (i := 3) sc__law_row_in_slots.nd rfl (.inl rfl) (pe_dget2 hu (pe_disp (pps_cons pe_str pe_int (pps_cons pe_str pe_int (pps_cons pe_str pe_int (pps_cons pe_str pe_int (pps_cons pe_str pe_int pps_nil))))) (by rfl) (by rfl) (fun z => by cases z) (by decide)) (pv 2) (pe_callB (lenK (K := K) rfl) (by rfl) T.n_len (by decide +kernel) (pa_cons (pv 0) pa_nil)) ⟨rfl, rfl, rfl, rfl⟩))
      (pss_cons (ps_if (pt_cmpR (op_in_seqK (K := K) rfl) (pv 2) (pe_tup (pa_cons pe_str (pa_cons pe_str pa_nil))) (by rfl)) (pss_cons (ps_set (i := 4) sc__law_row_in_slots.nd rfl (.inl rfl) (pe_slice (sl_P (K := K) rfl) (pv 0) po_none (po_some pe_int)))
      (pss_cons (ps_if (pt_cmpR op_eq (pv 2) pe_str (nomark _)) (pss_one (ps_set (i := 4) sc__law_row_in_slots.nd rfl (.inl rfl) (pe_op (op_catP (K := K) rfl) (pe_slice (sl_P (K := K) rfl) (pv 0) po_none (po_some pe_int)) (pe_tup (pa_cons (pe_ix (ix_P (K := K) rfl) (pv 1) (pe_ix (ix_P (K := K) rfl) (pv 0) pe_int (fun _ _ => rfl)) (fun _ _ => rfl)) pa_nil))))) pss_nil)
      (pss_one (ps_set (i := 0) sc__law_row_in_slots.nd rfl (.inl rfl) (pe_op (op_catP (K := K) rfl) (pv 4) (pe_tup (pa_cons (pe_callTy call_tuple_of (by rfl) T.n_tuple (by decide +kernel) (pa_cons (pe_lc (own := [("_law_one", 5)]) (by rfl) sc__law_row_in_slots.nd (pi_tup (pe_ix (ix_P (K := K) rfl) (pv 0) pe_int (fun _ _ => rfl))) (blkOk_by (own := [("_law_one", 5)]) (N := N__law_row_in_slots) (sc := defScope s__law_row_in_slots) (by decide +kernel)) (fun _ _ _ _ _ => (pg_name (i := 5) sc__law_row_in_slots.nd rfl (.inl rfl))) (fun _ _ _ _ _ => pts_nil) (fun _ _ _ _ _ => (pe_cal C__law_in_slots (hr.mono (by omega)) (by rfl) (pa_cons (pv 5) (pa_cons (pv 1) pa_nil))))) pa_nil)) pa_nil))))))) (pss_one (ps_if (pt_cmpR op_eq (pv 2) pe_str (nomark _)) (pss_one (ps_set (i := 0) sc__law_row_in_slots.nd rfl (.inl rfl) (pe_op (op_catP (K := K) rfl) (pe_slice (sl_P (K := K) rfl) (pv 0) po_none (po_some pe_int)) (pe_tup (pa_cons (pe_ix (ix_P (K := K) rfl) (pv 1) (pe_ix (ix_P (K := K) rfl) (pv 0) pe_int (fun _ _ => rfl)) (fun _ _ => rfl)) pa_nil))))) (pss_one (ps_set (i := 0) sc__law_row_in_slots.nd rfl (.inl rfl) (pe_op (op_catP (K := K) rfl) (pe_slice (sl_P (K := K) rfl) (pv 0) po_none (po_some (pv 3))) (pe_callTy call_tuple_of (by rfl) T.n_tuple (by decide +kernel) (pa_cons (pe_lc (own := [("_law_one", 5)]) (by rfl) sc__law_row_in_slots.nd (pi_tup (pe_slice (sl_P (K := K) rfl) (pv 0) (po_some (pv 3)) po_none)) (blkOk_by (own := [("_law_one", 5)]) (N := N__law_row_in_slots) (sc := defScope s__law_row_in_slots) (by decide +kernel)) (fun _ _ _ _ _ => (pg_name (i := 5) sc__law_row_in_slots.nd rfl (.inl rfl))) (fun _ _ _ _ _ => pts_nil) (fun _ _ _ _ _ => (pe_cal C__law_in_slots (hr.mono (by omega)) (by rfl) (pa_cons (pv 5) (pa_cons (pv 1) pa_nil))))) pa_nil))))))))
      (pss_cons (ps_if (pt_cmpR op_notN (pe_cal C__law_sets (hr.mono (by omega)) (by rfl) (pa_cons (pv 0) pa_nil)) pe_non (nomark _)) (pss_one (ps_set (i := 0) sc__law_row_in_slots.nd rfl (.inl rfl) (pe_op (op_catP (K := K) rfl) (pe_op (op_catP (K := K) rfl) (pe_slice (sl_P (K := K) rfl) (pv 0) po_none (po_some pe_int)) (pe_tup (pa_cons (pe_ix (ix_P (K := K) rfl) (pv 1) (pe_ix (ix_P (K := K) rfl) (pv 0) pe_int (fun _ _ => rfl)) (fun _ _ => rfl)) pa_nil))) (pe_slice (sl_P (K := K) rfl) (pv 0) (po_some pe_int) po_none)))) pss_nil)
      (pss_one (ps_ret (pv 0))))))), ?_⟩
  refine ⟨v, rfl, _, 0, _, hv, rfl, rfl, fun z hz => ?_⟩
  cases hz
  intro dd hdd
  refine ⟨upd_same, firstKV, rfl, (by show 5 ≤ 15; decide), ?_⟩
  generalize eH : upd (upd H dd (.dK [])) dd (.dK (mergeK [] firstKV)) = H1
  have s1 : Same H H1 := fun b o e => by
    rw [← eH, upd_ne (ne_of_none e hdd), upd_ne (ne_of_none e hdd)]
    exact e
  have hd1 : H1 dd = some (.dK firstKV) := by
    rw [← eH, upd_same, mergeFirst]
  have hv1 := dp_mono s1 _ _ hv
  have hu1 := dp_mono s1 _ _ hu0
  have hlv : LenV K v H1 R.L.length := by
    cases hv1 with
    | @tup a2 xs2 _ sq2 ha2 => exact .inr ⟨xs2, sq2, (dpAll_len ha2).symm⟩
  refine ⟨dd, rfl, .inl ⟨_, .inl hd1⟩, _, rfl, v, rfl, v, _, rfl, hlv, _, DGet.k (k := Sum.inr R.word) hd1, ?_⟩
  -- the end: sets
  refine ⟨_, rfl, (by show 2 ≤ sizeLine; decide), fun p1 hp1 => ⟨_, _, rfl, .inr (.inl (.inl upd_same)), rfl, rfl, _, rfl, ?_⟩⟩
  have s2 := s1.trans (same_new (o := .tup [.str "call", .str "apply"]) hp1)
  generalize upd H1 p1 (.tup [.str "call", .str "apply"]) = H2 at s2 ⊢
  have hv2 := dp_mono s2 _ _ hv
  have hu2 := dp_mono s2 _ _ hu0
  show if in2 R.word "call" "apply" = true then _ else _
  cases h1 : in2 R.word "call" "apply" with
  | false =>
    refine iteF ⟨_, rfl, rfl, _, rfl, ?_⟩
    show if eqw R.word "copy" = true then _ else _
    cases h2 : eqw R.word "copy" with
    | true =>
      obtain ⟨a, b, rfl⟩ := ops2 h2
      refine iteT ⟨v, rfl, 2, rfl, _, hv2, fun z3 H3 s3 h3 => ?_⟩
      rw [show (some (2 : Int)) = some ((2 : Nat) : Int) from rfl, cutP_to] at h3
      refine ⟨u, rfl, v, rfl, _, 2, _, dp_mono s3 _ _ hv2, rfl, rfl, fun z4 h4 => ?_⟩
      cases h4
      refine ⟨S, b, _, dp_mono s3 _ _ hu2, rfl, sv_get (hR.ops _ List.mem_cons_self b List.mem_cons_self), fun z5 h5 => ⟨(by show 1 ≤ sizeLine; decide), fun p6 hp6 => ?_⟩⟩
      have s6 := same_new (o := .tup [z5]) hp6
      refine ⟨_, _, dp_mono s6 _ _ h3, dp_tupN hp6 (.cons h5 .nil), (by show 3 ≤ sizeLine; decide), fun z7 H7 s7 h7 => ?_⟩
      exact row_tail (R := .cp a b) hR hu0 (s2.trans (s3.trans (s6.trans s7))) h7 q
    | false =>
      obtain ⟨k, ek, hk, ed, ew⟩ := row_first h1 h2
      refine iteF ⟨v, rfl, _, rfl, (k : Int), ek, _, hv2, fun z3 H3 s3 h3 => ?_⟩
      rw [cutP_to] at h3
      refine ⟨v, rfl, _, rfl, (k : Int), ek, _, dp_mono s3 _ _ hv2, fun z4 H4 s4 h4 => ?_⟩
      rw [cutP_from, ed] at h4
      have s24 := s2.trans (s3.trans s4)
      cases h4 with
      | @tup a5 x5 _ sq5 ha5 =>
        refine ⟨a5, rfl, ⟨x5, sq5⟩, fun D hD => lc_mk (as := R.ops) (g0 := oD) (f := oS S) sq5 ha5 (Nat.le_trans hR.len (by decide)) hD (fun a _ => noL_o S hS a) (fun x e H6 QQ RR hm hx s6 hq => ?_) fun H6 ys hD6 hY s6 => ?_⟩
        · exact ⟨rfl, tyes ⟨x, rfl, u, rfl, x, u, e, S, rfl, dp_mono s6 _ _ hx, dp_mono (s24.trans s6) _ _ hu0, hR.ops e hm, fun z H7 s7 hz => hq z H7 hz s7⟩⟩
        refine ⟨D, ys, rfl, .inl ⟨.inl (.inl hD6), fun p7 hp7 => ?_⟩⟩
        have s7 := same_new (o := .tup ys) hp7
        refine ⟨_, _, dp_mono (s4.trans (s6.trans s7)) _ _ h3, dp_tupN hp7 hY, ?_, fun z8 H8 s8 h8 => ?_⟩
        · rw [List.length_take, List.length_map]
          have := hR.len
          have hL : R.L.length ≤ 5 := by cases R <;> exact Nat.le_of_ble_eq_true rfl
          rw [sizeLine_eq]
          omega
        rw [ew S] at h8
        exact row_tail hR hu0 (s24.trans (s6.trans (s7.trans s8))) h8 q
  | true =>
    refine iteT ⟨v, rfl, 3, rfl, _, hv2, fun z3 H3 s3 h3 => ?_⟩
    rw [show (some (3 : Int)) = some ((3 : Nat) : Int) from rfl, cutP_to] at h3
    have s23 := s2.trans s3
    refine ⟨_, rfl, rfl, _, rfl, ?_⟩
    show if eqw R.word "apply" = true then _ else _
    -- the arguments
    cases h2 : eqw R.word "apply" with
    | true =>
      obtain ⟨o, f, as, rfl⟩ := ops3 h2
      refine iteT ⟨v, rfl, 2, rfl, _, dp_mono s23 _ _ hv, fun z4 H4 s4 h4 => ?_⟩
      rw [show (some (2 : Int)) = some ((2 : Nat) : Int) from rfl, cutP_to] at h4
      have s24 := s23.trans s4
      refine ⟨u, rfl, v, rfl, _, 2, _, dp_mono s24 _ _ hv, rfl, rfl, fun z5 h5 => ?_⟩
      cases h5
      refine ⟨S, f, _, dp_mono s24 _ _ hu0, rfl, sv_get (hR.ops _ List.mem_cons_self f List.mem_cons_self), fun z6 h6 => ⟨(by show 1 ≤ sizeLine; decide), fun p7 hp7 => ?_⟩⟩
      have s7 := same_new (o := .tup [z6]) hp7
      refine ⟨_, _, dp_mono s7 _ _ h4, dp_tupN hp7 (.cons h6 .nil), (by show 3 ≤ sizeLine; decide), fun z8 H8 s8 h8 => ?_⟩
      have s28 := s24.trans (s7.trans s8)
      refine ⟨z8, rfl, v, rfl, _, 3, _, dp_mono s28 _ _ hv, rfl, rfl, fun z9 h9 => ?_⟩
      have hlen := hR.len
      cases h9 with
      | @tup a5 x5 _ sq5 ha5 =>
        refine ⟨a5, rfl, ⟨x5, sq5⟩, fun D hD => lc_mk (as := as) (g0 := oD) (f := oS S) sq5 ha5 (by have : as.length + 1 ≤ 1000 := hlen; omega) hD (fun a _ => noL_o S hS a) (fun x e H10 QQ RR hm hx s10 hq => ?_) fun H10 ys hD10 hY s10 => ?_⟩
        · exact ⟨rfl, tyes ⟨x, rfl, u, rfl, x, u, e, S, rfl, dp_mono s10 _ _ hx, dp_mono (s28.trans s10) _ _ hu0, hR.ops e (List.mem_cons_of_mem _ hm), fun z H7 s7 hz => hq z H7 hz s7⟩⟩
        refine ⟨D, ys, rfl, .inl ⟨.inl (.inl hD10), fun p11 hp11 => ⟨(by show 1 ≤ sizeLine; decide), fun p12 hp12 => ?_⟩⟩⟩
        have s11 := same_new (o := .tup ys) hp11
        have s12 := same_new (o := .tup [.ref p11]) hp12
        refine ⟨_, _, dp_mono (s10.trans (s11.trans s12)) _ _ h8, dp_tupN hp12 (.cons (dp_tupN hp11 hY) .nil), (by show 4 ≤ sizeLine; decide), fun z13 H13 s13 h13 => ?_⟩
        exact row_tail (R := .ap o f as) hR hu0 (s28.trans (s10.trans (s11.trans (s12.trans s13)))) h13 q
    | false =>
      obtain ⟨o, f, as, rfl⟩ := row_ca h1 h2
      refine iteF ⟨z3, rfl, v, rfl, _, 3, _, dp_mono s23 _ _ hv, rfl, rfl, fun z9 h9 => ?_⟩
      have hlen := hR.len
      cases h9 with
      | @tup a5 x5 _ sq5 ha5 =>
        refine ⟨a5, rfl, ⟨x5, sq5⟩, fun D hD => lc_mk (as := as) (g0 := oD) (f := oS S) sq5 ha5 (by have : as.length ≤ 1000 := hlen; omega) hD (fun a _ => noL_o S hS a) (fun x e H10 QQ RR hm hx s10 hq => ?_) fun H10 ys hD10 hY s10 => ?_⟩
        · exact ⟨rfl, tyes ⟨x, rfl, u, rfl, x, u, e, S, rfl, dp_mono s10 _ _ hx, dp_mono (s23.trans s10) _ _ hu0, hR.ops e hm, fun z H7 s7 hz => hq z H7 hz s7⟩⟩
        refine ⟨D, ys, rfl, .inl ⟨.inl (.inl hD10), fun p11 hp11 => ⟨(by show 1 ≤ sizeLine; decide), fun p12 hp12 => ?_⟩⟩⟩
        have s11 := same_new (o := .tup ys) hp11
        have s12 := same_new (o := .tup [.ref p11]) hp12
        refine ⟨_, _, dp_mono (s10.trans (s11.trans s12)) _ _ h3, dp_tupN hp12 (.cons (dp_tupN hp11 hY) .nil), (by show 4 ≤ sizeLine; decide), fun z13 H13 s13 h13 => ?_⟩
        exact row_tail (R := .ca o f as) hR hu0 (s23.trans (s10.trans (s11.trans (s12.trans s13)))) h13 q
end
end K52

set_option maxHeartbeats 4000000
namespace K52
open PySem PySem.Spec PyProof.Rows L2 HG P52
def spEndR (K : PySem.W.Frag) : Sp := fun vs H Q _ => ∃ (v u : V) (E : Stp) (S : List PyData) (k : Nat), vs = [v, .int (k : Int), u] ∧ Dp K H v E.D ∧ Dp K H u (.tuple S) ∧ (∀ a ∈ E.ops, ∀ n ∈ a.vars, n < S.length) ∧
  ∀ (a : Addr) (ys : List V) H', Same H H' → H a = none → H' a = some (.lst ys) → DpAll K H' ys ((E.code S (k + 1)).map PyData.tuple) → Q (.ref a) H'
theorem addI (k : Nat) : ((k : Nat) : Int) + 1 = ((k + 1 : Nat) : Int) := by omega
theorem none_same {H H' : Hp} (s : Same H H') {b : Addr} (h : H' b = none) : H b = none := by
  cases q : H b with
  | none => rfl
  | some o =>
    rw [s b o q] at h
    cases h
section
variable {P : Program} {w : World} {K : PySem.W.Frag} {mg : Str → Option Value} {base : Heap}
set_option pp.maxSteps 600 in
theorem c_endR (T : Txt w K mg) : Cal P w K mg base "_law_end_rows" 2 ["_law_end_here", "_law_number", "_law_rooms"] (spEndR K) := by
  obtain ⟨fd, F⟩ := T.d__law_end_rows
  have C__law_in_slots := c_lin (P := P) (base := base) T
  refine ⟨⟨fd, F.ok sc__law_end_rows (fun vs H Q E h => ?_) (fun cdv A outer s H vs Q E hr h => ?_), F.bindsN fun _ _ _ _ _ _ us hl => match us, hl with | [_, _, _], _ => rfl⟩, T.g _ (by decide), F.kp⟩
  · obtain ⟨v, u, E1, S, k, rfl, _⟩ := h
    rfl
  obtain ⟨v, u, E1, S, k, rfl, hv, hu0, hn, q⟩ := h
  refine ⟨_, PSs.nox (pss_cons (ps_if (pt_cmpR op_eq (pe_ix (ix_P (K := K) rfl) (pv 0) pe_int (fun _ _ => rfl)) pe_str (nomark _)) (pss_one (ps_ret (pe_op op_rep (pe_lst (pa_cons (pv 0) pa_nil)) (pe_callTy call_intIB (by rfl) T.n_int (by decide +kernel) (pa_cons (pe_cmpR op_ne (pe_ix (ix_P (K := K) rfl) (pv 0) pe_int (fun _ _ => rfl)) (pe_op op_add (pv 1) pe_int) (nomark _)) pa_nil))))) pss_nil)
      (pss_cons (ps_if (pt_cmpR op_eq (pe_ix (ix_P (K := K) rfl) (pv 0) pe_int (fun _ _ => rfl)) pe_str (nomark _)) (pss_cons (ps_set (i := 3) sc__law_end_rows.nd rfl (.inl rfl) (pe_cal C__law_in_slots (hr.mono (by omega)) (by rfl) (pa_cons (pe_ix (ix_P (K := K) rfl) (pv 0) pe_int (fun _ _ => rfl)) (pa_cons (pv 2) pa_nil))))
      (pss_cons (ps_if (pt_cmpR op_eq (pe_ix (ix_P (K := K) rfl) (pv 0) pe_int (fun _ _ => rfl)) (pe_op op_add (pv 1) pe_int) (nomark _)) (pss_one (ps_ret (pe_lst (pa_cons (pe_tup (pa_cons pe_str (pa_cons (pv 3) (pa_cons (pe_ix (ix_P (K := K) rfl) (pv 0) pe_int (fun _ _ => rfl)) pa_nil)))) pa_nil)))) pss_nil)
      (pss_cons (ps_if (pt_cmpR op_eq (pe_ix (ix_P (K := K) rfl) (pv 0) pe_int (fun _ _ => rfl)) (pe_op op_add (pv 1) pe_int) (nomark _)) (pss_one (ps_ret (pe_lst (pa_cons (pe_tup (pa_cons pe_str (pa_cons (pv 3) (pa_cons (pe_ix (ix_P (K := K) rfl) (pv 0) pe_int (fun _ _ => rfl)) pa_nil)))) pa_nil)))) pss_nil)
      (pss_one (ps_ret (pe_lst (pa_cons (pe_tup (pa_cons pe_str (pa_cons (pv 3) (pa_cons (pe_ix (ix_P (K := K) rfl) (pv 0) pe_int (fun _ _ => rfl)) pa_nil)))) (pa_cons (pe_tup (pa_cons pe_str (pa_cons (pe_ix (ix_P (K := K) rfl) (pv 0) pe_int (fun _ _ => rfl)) pa_nil))) pa_nil)))))))) pss_nil)
      (pss_cons (ps_if (PW.pt (pw_and (pt_cmpR op_eq (pe_ix (ix_P (K := K) rfl) (pv 0) pe_int (fun _ _ => rfl)) pe_str (nomark _)) (pw_and1 (pt_cmpR op_notN (pe_ix (ix_P (K := K) rfl) (pv 0) pe_int (fun _ _ => rfl)) pe_non (nomark _))))) (pss_one (ps_ret (pe_lst (pa_cons (pe_tup (pa_cons pe_str (pa_cons (pe_cal C__law_in_slots (hr.mono (by omega)) (by rfl) (pa_cons (pe_ix (ix_P (K := K) rfl) (pv 0) pe_int (fun _ _ => rfl)) (pa_cons (pv 2) pa_nil))) pa_nil))) pa_nil)))) pss_nil)
      (pss_one (ps_ret (pe_lst (pa_cons (pv 0) pa_nil))))))), ?_⟩
  have one : ∀ (H1 : Hp), Same H H1 → E1.code S (k + 1) = [E1.L] → 1 ≤ sizeLine ∧ ∀ p, H1 p = none → Q (.ref p) (upd H1 p (.lst [v])) := fun H1 s1 h => ⟨by decide, fun p hp => q p _ _ (s1.trans (same_new hp)) (none_same s1 hp) upd_same (by
    rw [h]
    exact .cons (dp_mono (s1.trans (same_new hp)) _ _ hv) .nil)⟩
  refine ⟨v, rfl, _, 0, _, hv, rfl, rfl, fun z hz => ?_⟩
  cases hz
  refine ⟨rfl, _, rfl, ?_⟩
  show if eqw E1.word "jump" = true then _ else _
  cases h1 : eqw E1.word "jump" with
  | true =>
    obtain ⟨n, rfl⟩ := stj h1
    refine iteT ⟨v, rfl, (by show 1 ≤ sizeLine; decide), fun p hp => ⟨v, rfl, _, 1, _, dp_mono (same_new hp) _ _ hv, rfl, rfl, fun z hz => ?_⟩⟩
    cases hz
    refine ⟨.int (k : Int), rfl, _, _, rfl, rfl, rfl, .inr ⟨_, rfl, ?_⟩⟩
    show rRep _ (V.int (b2I (!decide (V.int (n : Int) = V.int ((k : Int) + 1))))) _ _
    rw [addI, len_eq]
    have s1 := same_new (o := .lst [v]) hp
    have hp1 : (upd H p (.lst [v])) p = some (.lst [v]) := upd_same
    by_cases hk : n = k + 1
    · rw [decide_eq_true hk]
      refine ⟨p, 0, _, rfl, rfl, hp1, by decide, by decide, (by show 1 * 0 ≤ sizeLine; decide), fun p2 hp2 => q p2 [] _ (s1.trans (same_new hp2)) (none_same s1 hp2) upd_same ?_⟩
      have : (Stp.jp n).code S (k + 1) = [] := if_pos hk
      rw [this]
      exact .nil
    · rw [decide_eq_false hk]
      refine ⟨p, 1, _, rfl, rfl, hp1, by decide, by decide, (by show 1 * 1 ≤ sizeLine; decide), fun p2 hp2 => q p2 [v] _ (s1.trans (same_new hp2)) (none_same s1 hp2) upd_same ?_⟩
      have : (Stp.jp n).code S (k + 1) = [(Stp.jp n).L] := if_neg hk
      rw [this]
      exact .cons (dp_mono (s1.trans (same_new hp2)) _ _ hv) .nil
  | false =>
    refine iteF ⟨v, rfl, _, 0, _, hv, rfl, rfl, fun z hz => ?_⟩
    cases hz
    refine ⟨rfl, _, rfl, ?_⟩
    show if eqw E1.word "branch" = true then _ else _
    cases h2 : eqw E1.word "branch" with
    | true =>
      obtain ⟨a, n, m, rfl⟩ := stp1 h2
      refine iteT ⟨v, rfl, _, 1, _, hv, rfl, rfl, fun z hz => ⟨u, rfl, z, u, a, S, rfl, hz, hu0, hn a List.mem_cons_self, fun z1 H1 s1 h1 => ?_⟩⟩
      have hv1 := dp_mono s1 _ _ hv
      refine ⟨v, rfl, _, 3, _, hv1, rfl, rfl, fun z hz => ?_⟩
      cases hz
      refine ⟨.int (k : Int), rfl, _, _, rfl, rfl, rfl, _, rfl, ?_⟩
      show if decide (V.int (m : Int) = V.int ((k : Int) + 1)) = true then _ else _
      rw [addI, len_eq]
      by_cases hm : m = k + 1
      · rw [decide_eq_true hm]
        refine iteT ⟨z1, rfl, v, rfl, _, 2, _, hv1, rfl, rfl, fun z hz => ?_⟩
        cases hz
        refine ⟨(by show 3 ≤ sizeLine; decide), fun p hp => ⟨(by show 1 ≤ sizeLine; decide), fun p2 hp2 => q p2 _ _ (s1.trans ((same_new hp).trans (same_new hp2))) (none_same (s1.trans (same_new hp)) hp2) upd_same ?_⟩⟩
        have : (Stp.br a n m).code S (k + 1) = [[.str "branch", oS S a, .int n]] := if_pos hm
        rw [this]
        exact .cons (dp_mono (same_new hp2) _ _ (dp_tupN hp (.cons (.str _) (.cons h1 (.cons (.int _) .nil))))) .nil
      · rw [decide_eq_false hm]
        refine iteF ⟨v, rfl, _, 2, _, hv1, rfl, rfl, fun z hz => ?_⟩
        cases hz
        refine ⟨.int (k : Int), rfl, _, _, rfl, rfl, rfl, _, rfl, ?_⟩
        show if decide (V.int (n : Int) = V.int ((k : Int) + 1)) = true then _ else _
        rw [addI, len_eq]
        by_cases hk : n = k + 1
        · rw [decide_eq_true hk]
          refine iteT ⟨z1, rfl, v, rfl, _, 3, _, hv1, rfl, rfl, fun z hz => ?_⟩
          cases hz
          refine ⟨(by show 3 ≤ sizeLine; decide), fun p hp => ⟨(by show 1 ≤ sizeLine; decide), fun p2 hp2 => q p2 _ _ (s1.trans ((same_new hp).trans (same_new hp2))) (none_same (s1.trans (same_new hp)) hp2) upd_same ?_⟩⟩
          have : (Stp.br a n m).code S (k + 1) = [[.str "unless", oS S a, .int m]] := (if_neg hm).trans (if_pos hk)
          rw [this]
          exact .cons (dp_mono (same_new hp2) _ _ (dp_tupN hp (.cons (.str _) (.cons h1 (.cons (.int _) .nil))))) .nil
        · rw [decide_eq_false hk]
          refine iteF ⟨z1, rfl, v, rfl, _, 2, _, hv1, rfl, rfl, fun z hz => ?_⟩
          cases hz
          refine ⟨(by show 3 ≤ sizeLine; decide), fun p hp => ⟨v, rfl, _, 3, _, dp_mono (same_new hp) _ _ hv1, rfl, rfl, fun z hz => ?_⟩⟩
          cases hz
          refine ⟨(by show 2 ≤ sizeLine; decide), fun p2 hp2 => ⟨(by show 2 ≤ sizeLine; decide), fun p3 hp3 => q p3 _ _ (s1.trans ((same_new hp).trans ((same_new hp2).trans (same_new hp3)))) (none_same (s1.trans ((same_new hp).trans (same_new hp2))) hp3) upd_same ?_⟩⟩
          have : (Stp.br a n m).code S (k + 1) = [[.str "branch", oS S a, .int n], [.str "jump", .int m]] := (if_neg hm).trans (if_neg hk)
          rw [this]
          exact .cons (dp_mono ((same_new hp2).trans (same_new hp3)) _ _ (dp_tupN hp (.cons (.str _) (.cons h1 (.cons (.int _) .nil))))) (.cons (dp_mono (same_new hp3) _ _ (dp_tupN hp2 (.cons (.str _) (.cons (.int _) .nil)))) .nil)
    | false =>
      refine iteF ⟨v, rfl, _, 0, _, hv, rfl, rfl, fun z hz => ?_⟩
      cases hz
      refine ⟨rfl, _, rfl, ?_⟩
      show if eqw E1.word "return" = true then _ else _
      cases h3 : eqw E1.word "return" with
      | true =>
        obtain ⟨a, rfl⟩ := stp2 h3
        refine iteT ⟨v, rfl, _, 1, _, hv, rfl, rfl, fun z hz => ⟨rfl, _, rfl, ?_⟩⟩
        cases a with
        | none =>
          cases hz
          exact iteF ⟨v, rfl, one H (Same.refl _) rfl⟩
        | some o =>
          have ne : (!decide (z = V.non)) = true := by
            cases o with
            | w i =>
              cases hz
              rfl
            | v n =>
              cases hz
              rfl
          rw [ne]
          refine iteT ⟨v, rfl, _, 1, _, hv, rfl, rfl, fun z hz => ⟨u, rfl, z, u, o, S, rfl, hz, hu0, hn o List.mem_cons_self, fun z1 H1 s1 h1 => ⟨(by show 2 ≤ sizeLine; decide), fun p hp => ⟨(by show 1 ≤ sizeLine; decide), fun p2 hp2 => q p2 _ _ (s1.trans ((same_new hp).trans (same_new hp2))) (none_same (s1.trans (same_new hp)) hp2) upd_same ?_⟩⟩⟩⟩
          exact .cons (dp_mono (same_new hp2) _ _ (dp_tupN hp (.cons (.str _) (.cons h1 .nil)))) .nil
      | false =>
        refine iteF (iteF ⟨v, rfl, one H (Same.refl _) ?_⟩)
        cases E1 <;> first | rfl | (dsimp only [Stp.word] at h1; exact absurd h1 (by decide +kernel)) | (dsimp only [Stp.word] at h2; exact absurd h2 (by decide +kernel)) | (dsimp only [Stp.word] at h3; exact absurd h3 (by decide +kernel))
end
end K52

set_option maxHeartbeats 4000000
namespace K52
open PySem PySem.Spec PyProof.Rows L2 HG P52
theorem cr_sumK {X : Cx} {K : PySem.W.Frag} (h : X.K = K) (hc : X.calm = true) : CallR X (.builtin "sum") (rSum K) := h ▸ cr_sum hc
theorem pi_listK {X : Cx} {K : PySem.W.Frag} {tg e : Expr} {te : TE} (h : X.K = K) (he : PE X e te) : PI X tg e (iList K te) := h ▸ pi_list he
/-- the parts as lists, none of which is the list a -/
inductive PL (K : PySem.W.Frag) (H : Hp) (a : Addr) : List Addr → List (List (List PyData)) → Prop
  | nil : PL K H a [] []
  | cons {b : Addr} {ys : List V} {p : List (List PyData)} {bs : List Addr} {ps : List (List (List PyData))} : b ≠ a → H b = some (.lst ys) → DpAll K H ys (p.map PyData.tuple) → PL K H a bs ps → PL K H a (b :: bs) (p :: ps)
section
variable {K : PySem.W.Frag} {H H' : Hp} {a : Addr} {bs : List Addr} {ps : List (List (List PyData))}
theorem PL.mono (s : Same H H') (h : PL K H a bs ps) : PL K H' a bs ps := by
  induction h with
  | nil => exact .nil
  | cons n e d _ ih => exact .cons n (s _ _ e) (dpAll_mono s _ _ d) ih
theorem PL.len (h : PL K H a bs ps) : bs.length = ps.length := by
  induction h with
  | nil => rfl
  | cons _ _ _ _ ih => rw [List.length_cons, List.length_cons, ih]
theorem PL.upd {o : HO} {l : List V} (ha : H a = some (.lst l)) (hn : ∀ p ∈ ps, ∀ ds ∈ p, noL (.tuple ds) = true) (h : PL K H a bs ps) : PL K (upd H a o) a bs ps := by
  induction h with
  | nil => exact .nil
  | cons n e d _ ih => exact .cons n (by rw [upd_ne n]; exact e) (dpAll_kt (KT.lst ha) _ _ (noLAll_map fun ds hd => hn _ List.mem_cons_self ds hd) d) (ih fun p hp => hn p (List.mem_cons_of_mem _ hp))
theorem PL.snoc {b : Addr} {ys : List V} {p : List (List PyData)} (h : PL K H a bs ps) (n : b ≠ a) (e : H b = some (.lst ys)) (d : DpAll K H ys (p.map PyData.tuple)) : PL K H a (bs ++ [b]) (ps ++ [p]) := by
  induction h with
  | nil => exact .cons n e d .nil
  | cons n e d _ ih => exact .cons n e d ih
theorem PL.get {i : Nat} {b : Addr} (h : PL K H a bs ps) (hb : bs[i]? = some b) : ∃ ys p, ps[i]? = some p ∧ H b = some (.lst ys) ∧ ys.length = p.length := by
  induction h generalizing i with
  | nil => simp at hb
  | cons n e d _ ih =>
    cases i with
    | zero =>
      simp at hb
      subst hb
      have := dpAll_len d
      rw [List.length_map] at this
      exact ⟨_, _, rfl, e, this⟩
    | succ i =>
      obtain ⟨ys, p, h1, h2⟩ := ih (i := i) (by simpa using hb)
      exact ⟨ys, p, by simpa using h1, h2⟩
theorem PL.flat (h : PL K H a bs ps) : ∃ yss : List (List V), bs.length = yss.length ∧ (∀ (i : Nat) (b : Addr), bs[i]? = some b → ∃ ys, yss[i]? = some ys ∧ H b = some (.lst ys)) ∧ DpAll K H yss.flatten (ps.flatten.map PyData.tuple) := by
  induction h with
  | nil => exact ⟨[], rfl, fun i b h => by simp at h, .nil⟩
  | @cons b ys p bs ps n e d _ ih =>
    obtain ⟨yss, h1, h2, h3⟩ := ih
    refine ⟨ys :: yss, by rw [List.length_cons, List.length_cons, h1], fun i b' hb => ?_, ?_⟩
    · cases i with
      | zero =>
        simp at hb
        subst hb
        exact ⟨ys, rfl, e⟩
      | succ i =>
        obtain ⟨zs, h4, h5⟩ := h2 i b' (by simpa using hb)
        exact ⟨zs, by simpa using h4, h5⟩
    · rw [List.flatten_cons, List.flatten_cons, List.map_append]
      exact dpAll_app d h3
end
theorem starts_at : ∀ (ps : List (List (List PyData))) (n j : Nat), j < ps.length → (startsFrom n ps)[j]? = some (n + (ps.take j).flatten.length)
  | [], _, _, h => by simp at h
  | p :: ps, n, 0, _ => by simp [startsFrom]
  | p :: ps, n, j + 1, h => by
    rw [List.length_cons] at h
    simp only [startsFrom, List.getElem?_cons_succ, List.take_succ_cons, List.flatten_cons, List.length_append]
    rw [starts_at ps (n + p.length) j (by omega), Nat.add_assoc]
theorem sum_lens : ∀ ps : List (List (List PyData)), (ps.map fun p => ((p.length : Nat) : Int)).sum = ((ps.flatten.length : Nat) : Int)
  | [] => rfl
  | p :: ps => by
    rw [List.map_cons, List.sum_cons, sum_lens ps, List.flatten_cons, List.length_append]
    omega
def spDue (K : PySem.W.Frag) : Sp := fun vs H Q _ => ∃ (vg vk vs0 : V) (b : Bool) (g : Gr) (ks : List Nat) (S : List PyData), vs = [vg, vk, .bl b, vs0] ∧ Dp K H vg g.D ∧ Dp K H vk (.tuple (ks.map nD)) ∧ Dp K H vs0 (.tuple S) ∧ g.In S ∧ (∀ n ∈ ks, n < S.length) ∧ ks.length ≤ 1000 ∧ (∀ d ∈ S, noL d = true) ∧ 0 < g.blocks.length ∧
  ∀ z H', Same H H' → Dp K H' z (codeD S ks b g) → Q z H'
section
variable {P : Program} {w : World} {K : PySem.W.Frag} {mg : Str → Option Value} {base : Heap}
set_option pp.maxSteps 600 in
theorem c_due (T : Txt w K mg) : Cal P w K mg base "_law_due" 3 ["_law_shape", "_law_held", "_law_gives", "_law_rooms"] (spDue K) := by
  obtain ⟨fd, F⟩ := T.d__law_due
  have C__law_row_in_slots := c_rowS (P := P) (base := base) T
  have C__law_end_rows := c_endR (P := P) (base := base) T
  refine ⟨⟨fd, F.ok sc__law_due (fun vs H Q E h => ?_) (fun cdv A outer s H vs Q E hr h => ?_), F.bindsN fun _ _ _ _ _ _ us hl => match us, hl with | [_, _, _, _], _ => rfl⟩, T.g _ (by decide), F.kp⟩
  · obtain ⟨vg, vk, vs0, b, g, ks, S, rfl, _⟩ := h
    rfl
  obtain ⟨vg, vk, vs0, b, g, ks, S, rfl, hg, hk, hv, hI, hks, hkl, hS, hne, q⟩ := h
  refine ⟨_, PSs.nox (pss_cons (ps_set (i := 4) sc__law_due.nd rfl (.inr rfl) (pe_lst pa_nil))
      (pss_cons (ps_for PassesOwn.never rfl (pi_enumT (by rfl) T.n_enumerate (pa_cons (pe_ix (ix_P (K := K) rfl) (pv 0) pe_int (fun _ _ => rfl)) pa_nil)) (pg_tupK (K := K) (n := 2) rfl rfl (pgs_cons (pg_name (i := 5) sc__law_due.nd rfl (.inl rfl)) (pgs_cons (pg_name (i := 6) sc__law_due.nd rfl (.inl rfl)) pgs_nil))) (pss_cons (ps_setLc (i := 7) (own := [("_law_row_here", 10)]) (by rfl) sc__law_due.nd rfl rfl (sw_true rfl rfl rfl (by decide +kernel)) (pi_tup (pe_ix (ix_P (K := K) rfl) (pv 6) pe_int (fun _ _ => rfl))) (blkOk_by (own := [("_law_row_here", 10)]) (N := N__law_due) (sc := defScope s__law_due) (by decide +kernel)) (fun _ _ _ _ _ => (pg_name (i := 10) sc__law_due.nd rfl (.inl rfl))) (fun _ _ _ _ _ => pts_nil) (fun _ _ _ _ _ => (pe_cal C__law_row_in_slots (hr.mono (by omega)) (by rfl) (pa_cons (pv 10) (pa_cons (pv 3) pa_nil)))))
      (pss_one (ps_expr (pe_bm PySem.F.plainAttrs_list PySem.F.slot_list_append PySem.F.type_list_append mt_append (pv 4) (pa_cons (pe_op op_cat (pv 7) (pe_cal C__law_end_rows (hr.mono (by omega)) (by rfl) (pa_cons (pe_ix (ix_P (K := K) rfl) (pv 6) pe_int (fun _ _ => rfl)) (pa_cons (pv 5) (pa_cons (pv 3) pa_nil))))) pa_nil))))))
      (pss_cons (ps_setLc (i := 8) (own := [("_law_number", 5)]) (by rfl) sc__law_due.nd rfl rfl (sw_true rfl rfl rfl (by decide +kernel)) (pi_range1 (by rfl) T.n_range (pa_cons (pe_callB (lenK (K := K) rfl) (by rfl) T.n_len (by decide +kernel) (pa_cons (pv 4) pa_nil)) pa_nil)) (blkOk_by (own := [("_law_number", 5)]) (N := N__law_due) (sc := defScope s__law_due) (by decide +kernel)) (fun _ _ _ _ _ => (pg_name (i := 5) sc__law_due.nd rfl (.inl rfl))) (fun _ _ _ _ _ => pts_nil) (fun _ _ _ _ _ => (pe_callB (cr_sumK (K := K) rfl rfl) (by rfl) T.n_sum (by decide +kernel) (pa_cons (pe_lc (own := [("_law_part", 11)]) (by rfl) sc__law_due.nd (pi_listK (K := K) rfl (pe_slice (sl_listK (K := K) rfl) (pv 4) po_none (po_some (pv 5)))) (blkOk_by (own := [("_law_part", 11)]) (N := N__law_due) (by kernel_rfl)) (fun _ _ _ _ _ => (pg_name (i := 11) sc__law_due.nd rfl (.inl rfl))) (fun _ _ _ _ _ => pts_nil) (fun _ _ _ _ _ => (pe_callB (lenK (K := K) rfl) (by rfl) T.n_len (by decide +kernel) (pa_cons (pv 11) pa_nil)))) pa_nil))))
      (pss_cons (ps_set (i := 9) sc__law_due.nd rfl (.inl rfl) (pe_lst pa_nil))
      (pss_cons (ps_for PassesOwn.never rfl (pi_list (pe_callB (cr_sumL rfl) (by rfl) T.n_sum (by decide +kernel) (pa_cons (pv 4) (pa_cons (pe_lst pa_nil) pa_nil)))) (pg_name (i := 10) sc__law_due.nd rfl (.inl rfl)) (pss_cons (ps_if (pt_cmpR (op_in_seqK (K := K) rfl) (pe_ix (ix_P (K := K) rfl) (pv 10) pe_int (fun _ _ => rfl)) (pe_tup (pa_cons pe_str (pa_cons pe_str (pa_cons pe_str pa_nil)))) (by rfl)) (pss_one (ps_set (i := 10) sc__law_due.nd rfl (.inl rfl) (pe_op (op_catP (K := K) rfl) (pe_slice (sl_P (K := K) rfl) (pv 10) po_none (po_some (pe_un un_neg pe_int))) (pe_tup (pa_cons (pe_ix (ix_listK (K := K) rfl) (pv 8) (pe_ix (ix_lastP (K := K) rfl) (pv 10) (pe_un un_neg pe_int) (fun _ _ => rfl)) (fun _ _ => rfl)) pa_nil))))) pss_nil)
      (pss_one (ps_expr (pe_bm PySem.F.plainAttrs_list PySem.F.slot_list_append PySem.F.type_list_append mt_append (pv 9) (pa_cons (pv 10) pa_nil))))))
      (pss_one (ps_ret (pe_tup (pa_cons (pe_callTy call_tuple_of (by rfl) T.n_tuple (by decide +kernel) (pa_cons (pe_lc (own := [("_law_v", 12)]) (by rfl) sc__law_due.nd (pi_tup (pv 1)) (blkOk_by (own := [("_law_v", 12)]) (N := N__law_due) (sc := defScope s__law_due) (by decide +kernel)) (fun _ _ _ _ _ => (pg_name (i := 12) sc__law_due.nd rfl (.inl rfl))) (fun _ _ _ _ _ => pts_nil) (fun _ _ _ _ _ => (pe_ix (ix_P (K := K) rfl) (pv 3) (pv 12) (fun _ _ => rfl)))) pa_nil)) (pa_cons (pv 2) (pa_cons (pe_callTy call_tuple_of (by rfl) T.n_tuple (by decide +kernel) (pa_cons (pv 9) pa_nil)) pa_nil))))))))))), ?_⟩
  refine ⟨Nat.zero_le _, fun a4 ha4 => ?_⟩
  have s0 := same_new (o := .lst []) ha4
  have h40 : (upd H a4 (.lst [])) a4 = some (.lst []) := upd_same
  generalize upd H a4 (.lst []) = H0 at s0 h40 ⊢
  refine ⟨vg, rfl, _, 1, _, dp_mono s0 _ _ hg, rfl, rfl, fun zb hzb => ?_⟩
  have nlP : ∀ (l : List Blk), ∀ p ∈ partsFrom S 0 l, ∀ ds ∈ p, noL (.tuple ds) = true := fun l p hp ds hd => by
    obtain ⟨b', _, j, rfl⟩ := partsFrom_mem hp
    exact nlTs hS b' j ds hd
  cases hzb with
  | @tup ab xb _ sqb hab =>
    have hlb := dpAll_len hab
    rw [List.length_map] at hlb
    refine ⟨ab, xb, rfl, sqb, ?_⟩
    refine for_it (walk_enumT (xs := xb)) (fun i σ H3 => ∃ bs x5 x6 x7 x8 x9 x10 x11 x12, σ = [some vg, some vk, some (.bl b), some vs0, some (.ref a4), x5, x6, x7, x8, x9, x10, x11, x12] ∧ H3 a4 = some (.lst (bs.map V.ref)) ∧ PL K H3 a4 bs (partsFrom S 0 (g.blocks.take i)) ∧ Same H H3 ∧ KT H0 H3) ⟨[], _, _, _, _, _, _, _, _, rfl, h40, .nil, s0, KT.refl _⟩ ?_ ?_ ?_
    · rintro i σ H3 _ ⟨bs, x5, x6, x7, x8, x9, x10, x11, x12, rfl, _, _, _, k3⟩
      exact sqT_kt k3 sqb
    · rintro i x σ H3 H4 hi ⟨bs, x5, x6, x7, x8, x9, x10, x11, x12, rfl, h43, hPL, s3, k3⟩ ⟨T1, y1, y2, rfl, hT1, rfl, e1, e2⟩
      injection e1 with e1
      subst e1
      obtain ⟨bk, hbk, hy2⟩ := dpAll_map_get hab e2
      have hbm := List.mem_of_getElem? hbk
      have sT := same_new (o := .tup [.int (i : Nat), y2]) hT1
      have hy2 := dp_mono sT _ _ (dp_kt k3 _ _ (nlB bk) hy2)
      have hiB : i < g.blocks.length := (List.getElem?_eq_some_iff.mp hbk).1
      refine ⟨T1, _, rfl, .inl (.inl upd_same), rfl, _, _, rfl, _, _, rfl, rfl, ?_⟩
      have s4 := s3.trans sT
      have k4 := k3.trans (KT.of sT)
      have h44 := sT _ _ h43
      have hP4 := hPL.mono sT
      generalize upd H3 T1 (.tup [.int (i : Nat), y2]) = H4 at hy2 s4 k4 h44 hP4 ⊢
      have hv4 := dp_mono s4 _ _ hv
      refine ⟨y2, rfl, _, 0, _, hy2, rfl, rfl, fun z hz => ?_⟩
      cases hz with
      | @tup a3 xs3 _ sq3 ha3 =>
        have hrl := hI.rows bk hbm
        refine ⟨a3, rfl, ⟨xs3, sq3⟩, fun D hD => lc_mk (as := bk.rows) (g0 := Rw.D) (f := fun R => .tuple (R.S S)) sq3 ha3 (by omega) hD (fun R _ => nlRS hS R) (fun x R H5 QQ RR hm hx s5 hq => ?_) fun H5 us hD5 hU s5 => ?_⟩
        · exact ⟨rfl, tyes ⟨x, rfl, vs0, rfl, x, vs0, R, S, rfl, dp_mono s5 _ _ hx, dp_mono s5 _ _ hv4, ⟨hI.ops bk hbm R hm, hI.set bk hbm R hm, hI.len bk hbm R hm⟩, hS, fun z H6 s6 hz => hq z H6 hz s6⟩⟩
        have hul := dpAll_len hU
        rw [List.length_map] at hul
        have h45 := s5 _ _ h44
        refine ⟨.ref a4, rfl, .inl ⟨rfl, _, .inl (.inl h45)⟩, .ref D, rfl, y2, rfl, _, 1, _, dp_mono s5 _ _ hy2, rfl, rfl, fun z hz => ⟨.int (i : Nat), rfl, vs0, rfl, z, vs0, bk.stop, S, i, rfl, hz, dp_mono s5 _ _ hv4, hI.end_ bk hbm, fun ae es H6 s6 nae hae hE => ?_⟩⟩
        have hel := dpAll_len hE
        rw [List.length_map] at hel
        have hcl := code_len S (i + 1) bk.stop
        refine ⟨D, ae, us, es, rfl, rfl, s6 _ _ hD5, hae, by rw [sizeLine_eq]; omega, fun p7 hp7 => ?_⟩
        have s67 := s6.trans (same_new (o := .lst (us ++ es)) hp7)
        have h47 := s67 _ _ h45
        have np : p7 ≠ a4 := fun z => by
          have := s6 _ _ h45
          rw [z, this] at hp7
          cases hp7
        have s57 := s5.trans s67
        have hW : DpAll K (upd H6 p7 (.lst (us ++ es))) (us ++ es) ((bk.code S i).map PyData.tuple) := by
          have e9 : (bk.code S i).map PyData.tuple = (bk.rows.map fun R => PyData.tuple (R.S S)) ++ (bk.stop.code S (i + 1)).map PyData.tuple := by
            simp only [Blk.code, List.map_append, List.map_map]
            rfl
          rw [e9]
          exact dpAll_app (dpAll_mono s67 _ _ hU) (dpAll_mono (same_new hp7) _ _ hE)
        have hP7 := hP4.mono s57
        have hnew : (upd H6 p7 (.lst (us ++ es))) p7 = some (.lst (us ++ es)) := upd_same
        have hgrow := hPL.len
        refine ⟨a4, _, _, rfl, rfl, h47, ?_, ?_⟩
        · rw [List.length_map, hgrow, partsFrom_len, List.length_take]
          have := hI.many
          exact small_line (by omega)
        refine ⟨bs ++ [p7], _, _, _, _, _, _, _, _, rfl, ?_, ?_, ?_, ?_⟩
        · rw [upd_same, List.map_append]
          rfl
        · rw [parts_take hbk]
          refine PL.upd h47 (fun p hp ds hd => ?_) (hP7.snoc np hnew hW)
          rw [← parts_take hbk] at hp
          exact nlP _ p hp ds hd
        · intro b' o' e'
          rw [upd_ne (ne_of_none e' ha4)]
          exact s57 _ _ (s4 _ _ e')
        · exact (k4.trans (KT.of s57)).trans (KT.lst h47)
    · rintro σ H3 ⟨bs, x5, x6, x7, x8, x9, x10, x11, x12, rfl, h43, hPL, s3, k3⟩
      rw [hlb, List.take_length] at hPL
      have hbl : bs.length = g.blocks.length := by rw [hPL.len, partsFrom_len]
      have hmany := hI.many
      have hpl := hPL.len
      refine ⟨.ref a4, rfl, .ref a4, _, rfl, .inl ⟨_, .inl (.inl h43), rfl⟩, _, rfl, by omega, by rw [List.length_map]; omega, fun D hD => ?_⟩
      have nD4 : a4 ≠ D := ne_of_none h43 hD
      refine lc_range (lo := 0) (n := (((bs.map V.ref).length : Nat) : Int).toNat) (fun j H4 => H4 D = some (.lst (((startsFrom 0 (g.parts S)).take j).map nV)) ∧ Same H3 H4) ⟨upd_same, same_new hD⟩ ?_ ?_
      · rintro j H4 hj ⟨hD4, s4⟩
        have hj : j < bs.length := by
          rw [List.length_map] at hj
          omega
        have hjp : j < (g.parts S).length := by rw [← hpl]; exact hj
        refine ⟨rfl, tyes ⟨.ref a4, rfl, .int (0 + (j : Int)), rfl, (0 + (j : Int)), rfl, a4, _, rfl, .inl (.inl (s4 _ _ h43)), fun p5 hp5 => ?_⟩⟩
        rw [Int.zero_add, cut_to]
        have s5 := same_new (o := .lst ((bs.map V.ref).take j)) hp5
        have hp5' : (upd H4 p5 (.lst ((bs.map V.ref).take j))) p5 = some (.lst ((bs.map V.ref).take j)) := upd_same
        generalize upd H4 p5 (.lst ((bs.map V.ref).take j)) = H5 at s5 hp5' ⊢
        refine ⟨p5, rfl, ⟨_, .inl (.inl hp5')⟩, fun D6 hD6 => ?_⟩
        refine lc_list (xs := (bs.map V.ref).take j) (fun i H6 => H6 D6 = some (.lst ((((g.parts S).take i).map fun p => ((p.length : Nat) : Int)).map V.int)) ∧ Same H5 H6) ⟨upd_same, same_new hD6⟩ ?_ ?_ ?_
        · rintro i H6 _ ⟨_, s6⟩
          exact .inl (.inl (s6 _ _ hp5'))
        · rintro i x H6 hx ⟨h6, s6⟩
          have hij : i < j := by
            have := (List.getElem?_eq_some_iff.mp hx).1
            rw [List.length_take] at this
            omega
          rw [List.getElem?_take_of_lt hij, List.getElem?_map] at hx
          obtain ⟨b5, hb5, rfl⟩ := Option.map_eq_some_iff.mp hx
          obtain ⟨ys5, p5', hp5e, hb5H, hyl⟩ := hPL.get hb5
          refine ⟨rfl, tyes ⟨.ref b5, rfl, .ref b5, ys5.length, rfl, .inl ⟨ys5, .inl (.inl ((s4.trans (s5.trans s6)) _ _ hb5H)), rfl⟩, _, h6, ?_, ?_, ?_⟩⟩
          · rw [List.length_map, List.length_map, List.length_take]
            exact small_line (by omega)
          · rw [upd_same, List.take_add_one, hp5e, hyl, List.map_append, List.map_append]
            rfl
          · intro b' o' e'
            rw [upd_ne (ne_of_none e' hD6)]
            exact s6 _ _ e'
        · rintro H6 ⟨h6, s6⟩
          have ej : ((bs.map V.ref).take j).length = j := by
            rw [List.length_take, List.length_map]
            omega
          rw [ej] at h6
          refine ⟨D6, _, rfl, .inl (.inl h6), ?_⟩
          rw [sum_lens]
          have s46 := s5.trans s6
          refine ⟨_, s46 _ _ hD4, ?_, ?_, ?_⟩
          · rw [List.length_map, List.length_take]
            exact small_line (by omega)
          · rw [upd_same, List.take_add_one, starts_at _ 0 j hjp, Nat.zero_add, List.map_append]
            rfl
          · intro b' o' e'
            rw [upd_ne (ne_of_none e' hD)]
            exact s46 _ _ (s4 _ _ e')
      rintro H4 ⟨hD4, s4⟩
      have en : (((bs.map V.ref).length : Nat) : Int).toNat = bs.length := by
        rw [List.length_map]
        omega
      rw [en, List.take_of_length_le (by rw [startsFrom_len]; exact Nat.le_of_eq hpl.symm)] at hD4
      -- found = []
      refine ⟨Nat.zero_le _, fun a9 ha9 => ?_⟩
      have s5 := s4.trans (same_new (o := .lst []) ha9)
      have h95 : (upd H4 a9 (.lst [])) a9 = some (.lst []) := upd_same
      have nD9 : D ≠ a9 := ne_of_none hD4 ha9
      have ha9H : H a9 = none := none_same (s3.trans s4) ha9
      have hD5 : (upd H4 a9 (.lst [])) D = some (.lst ((startsFrom 0 (g.parts S)).map nV)) := upd_get ha9 hD4
      generalize upd H4 a9 (.lst []) = H5 at s5 h95 hD5 ⊢
      have s05 := s3.trans s5
      -- sum(parts, [])
      refine ⟨.ref a4, rfl, Nat.zero_le _, fun a6 ha6 => ?_⟩
      have s6 := s5.trans (same_new (o := .lst []) ha6)
      have h66 : (upd H5 a6 (.lst [])) a6 = some (.lst []) := upd_same
      have h96 : (upd H5 a6 (.lst [])) a9 = some (.lst []) := upd_get ha6 h95
      have hD6 : (upd H5 a6 (.lst [])) D = some (.lst ((startsFrom 0 (g.parts S)).map nV)) := upd_get ha6 hD5
      have s06 := s05.trans (same_new (o := .lst []) ha6)
      generalize upd H5 a6 (.lst []) = H6 at s6 h66 h96 hD6 s06 ⊢
      have hP6 := hPL.mono s6
      obtain ⟨yss, hyl, hyg, hyD⟩ := hP6.flat
      have hfl : (g.parts S).flatten.length ≤ 100 * 102 := by
        have h1 := flat_len (S := S) (m := 100) (k := 0) (l := g.blocks) fun b hb => hI.rows b hb
        exact Nat.le_trans h1 (Nat.mul_le_mul hI.many (Nat.le_refl _))
      have hyf : yss.flatten.length = (g.parts S).flatten.length := by
        have := dpAll_len hyD
        rw [List.length_map] at this
        exact this
      refine ⟨a4, a6, bs, yss, rfl, s6 _ _ h43, h66, hyl, by omega, by rw [sizeLine_eq]; omega, hyg, fun p7 hp7 => ?_⟩
      have s7 := same_new (o := .lst yss.flatten) hp7
      have h97 := s7 _ _ h96
      have hD7 := s7 _ _ hD6
      have hp7' : (upd H6 p7 (.lst yss.flatten)) p7 = some (.lst yss.flatten) := upd_same
      have hy7 := dpAll_mono s7 _ _ hyD
      have s07 := s06.trans s7
      have n97 : p7 ≠ a9 := fun z => by rw [z, h96] at hp7; cases hp7
      generalize upd H6 p7 (.lst yss.flatten) = H7 at h97 hD7 hp7' hy7 s07 ⊢
      have nlF : ∀ ds ∈ (g.parts S).flatten, noL (.tuple ds) = true := fun ds hds => by
        obtain ⟨p, hp, hd⟩ := List.mem_flatten.mp hds
        exact nlP _ p hp ds hd
      refine ⟨p7, rfl, ⟨_, .inl (.inl hp7')⟩, ?_⟩
      refine for_list (xs := yss.flatten) (fun i σ H8 => ∃ ws x5 x6 x7 x10 x11 x12, σ = [some vg, some vk, some (.bl b), some vs0, some (.ref a4), x5, x6, x7, some (.ref D), some (.ref a9), x10, x11, x12] ∧ H8 a9 = some (.lst ws) ∧ DpAll K H8 ws ((((g.parts S).flatten.take i).map (place (startsFrom 0 (g.parts S)))).map PyData.tuple) ∧ H8 p7 = some (.lst yss.flatten) ∧ H8 D = some (.lst ((startsFrom 0 (g.parts S)).map nV)) ∧ Same H H8 ∧ KT H7 H8)
        ⟨[], _, _, _, _, _, _, rfl, h97, .nil, hp7', hD7, s07, KT.refl _⟩ ?_ ?_ ?_
      · rintro i σ H8 _ ⟨ws, x5, x6, x7, x10, x11, x12, rfl, _, _, h, _⟩
        exact .inl (.inl h)
      · rintro i x σ H8 hx ⟨ws, x5, x6, x7, x10, x11, x12, rfl, h98, hW, hp8, hD8, s8, k8⟩
        obtain ⟨ds, hds, hxd⟩ := dpAll_map_get hy7 hx
        have hm := List.mem_of_getElem? hds
        have hxd := dp_kt k8 _ _ (nlF ds hm) hxd
        obtain ⟨xw, r, rfl, hj, hlen⟩ := ci_code hI ds hm
        have hwl := dpAll_len hW
        rw [List.length_map, List.length_map, List.length_take] at hwl
        have hwsl : ws.length < sizeLine := small_line (by omega)
        -- found.append
        have app : ∀ (z : V) (H9 : Hp), Same H8 H9 → Dp K H9 z (.tuple (place (startsFrom 0 (g.parts S)) (.str xw :: r))) →
            H9 a9 = some (.lst ws) ∧ DpAll K (upd H9 a9 (.lst (ws ++ [z]))) (ws ++ [z]) ((((g.parts S).flatten.take (i + 1)).map (place (startsFrom 0 (g.parts S)))).map PyData.tuple) ∧ (upd H9 a9 (.lst (ws ++ [z]))) p7 = some (.lst yss.flatten) ∧ (upd H9 a9 (.lst (ws ++ [z]))) D = some (.lst ((startsFrom 0 (g.parts S)).map nV)) ∧ Same H (upd H9 a9 (.lst (ws ++ [z]))) ∧ KT H7 (upd H9 a9 (.lst (ws ++ [z]))) := by
          intro z H9 s9 hz
          have h99 := s9 _ _ h98
          have ke := KT.lst (o := .lst (ws ++ [z])) h99
          refine ⟨h99, ?_, by rw [upd_ne n97]; exact s9 _ _ hp8, by rw [upd_ne nD9]; exact s9 _ _ hD8, fun b' o' e' => ?_, (k8.trans (KT.of s9)).trans ke⟩
          · rw [List.take_add_one, hds, List.map_append, List.map_append]
            refine dpAll_app (dpAll_kt ((KT.of s9).trans ke) _ _ ?_ hW) (.cons (dp_kt ke _ _ (nl_place _ (nlF _ hm)) hz) .nil)
            rw [List.map_map]
            exact noLAll_map fun ds hd => nl_place _ (nlF ds (List.mem_of_mem_take hd))
          · rw [upd_ne (ne_of_none e' ha9H)]
            exact s9 _ _ (s8 _ _ e')
        refine ⟨x, rfl, _, 0, .str xw, hxd, rfl, rfl, fun z hz => ?_⟩
        cases hz
        refine ⟨(by show 3 ≤ sizeLine; decide), fun p1 hp1 => ⟨_, _, rfl, .inr (.inl (.inl upd_same)), rfl, rfl, _, rfl, ?_⟩⟩
        have s1 := same_new (o := .tup [.str "jump", .str "branch", .str "unless"]) hp1
        generalize upd H8 p1 (.tup [.str "jump", .str "branch", .str "unless"]) = H9 at s1 ⊢
        have hx9 := dp_mono s1 _ _ hxd
        show if isJ xw = true then _ else _
        cases hxj : isJ xw with
        | false =>
          have e9 : place (startsFrom 0 (g.parts S)) (.str xw :: r) = .str xw :: r := by simp [place, hxj]
          obtain ⟨m1, m2, m3, m4, m5, m6⟩ := app x H9 s1 (by rw [e9]; exact hx9)
          exact iteF ⟨.ref a9, rfl, .inl ⟨rfl, _, .inl (.inl m1)⟩, x, rfl, a9, _, _, rfl, rfl, m1, hwsl, _, _, _, _, _, _, _, rfl, upd_same, m2, m3, m4, m5, m6⟩
        | true =>
          obtain ⟨n, hn, hlt⟩ := hj hxj
          have hnl : n < (startsFrom 0 (g.parts S)).length := by
            rw [startsFrom_len, partsFrom_len]
            exact hlt
          refine iteT ⟨x, rfl, 1, rfl, _, rfl, _, hx9, fun z1 H10 s10 h10 => ?_⟩
          have e1 : cutP (.str xw :: r) none (some (-1)) = (PyData.str xw :: r).dropLast := dropLast_cut _
          have h10 : Dp K H10 z1 (.tuple (cutP (.str xw :: r) none (some (-1)))) := h10
          rw [e1] at h10
          have hpn : ((startsFrom 0 (g.parts S)).map nV)[n]? = some (.int (((startsFrom 0 (g.parts S)).getD n 0 : Nat) : Int)) := by
            rw [List.getElem?_map, List.getElem?_eq_getElem hnl, List.getD_eq_getElem?_getD, List.getElem?_eq_getElem hnl]
            rfl
          refine ⟨.ref D, rfl, x, rfl, 1, rfl, _, _, dp_mono s10 _ _ hx9, rfl, hn, fun z3 h3 => ?_⟩
          cases h3
          refine ⟨D, _, n, _, rfl, rfl, .inl (.inl ((s1.trans s10) _ _ hD8)), atI_nat hpn, (by show 1 ≤ sizeLine; decide), fun p5 hp5 => ?_⟩
          have s11 := same_new (o := .tup [.int (((startsFrom 0 (g.parts S)).getD n 0 : Nat) : Int)]) hp5
          refine ⟨_, _, dp_mono s11 _ _ h10, dp_tupN hp5 (.cons (.int _) .nil), ?_, fun z6 H12 s12 h12 => ?_⟩
          · rw [List.length_dropLast, sizeLine_eq]
            show (PyData.str xw :: r).length - 1 + 1 ≤ 16777216
            omega
          have e9 : place (startsFrom 0 (g.parts S)) (.str xw :: r) = (PyData.str xw :: r).dropLast ++ [.int (((startsFrom 0 (g.parts S)).getD n 0 : Nat) : Int)] := by
            refine (if_pos hxj).trans ?_
            rw [hn]
            rfl
          obtain ⟨m1, m2, m3, m4, m5, m6⟩ := app z6 H12 (s1.trans (s10.trans (s11.trans s12))) (by rw [e9]; exact h12)
          exact ⟨.ref a9, rfl, .inl ⟨rfl, _, .inl (.inl m1)⟩, z6, rfl, a9, _, _, rfl, rfl, m1, hwsl, _, _, _, _, _, _, _, rfl, upd_same, m2, m3, m4, m5, m6⟩
      · rintro σ H8 ⟨ws, x5, x6, x7, x10, x11, x12, rfl, h98, hW, hp8, hD8, s8, k8⟩
        rw [hyf, List.take_length] at hW
        have hv8 := dp_mono s8 _ _ hv
        have hk8 := dp_mono s8 _ _ hk
        cases hk8 with
        | @tup ak xk _ sqk hak =>
          refine ⟨.ref ak, rfl, ak, rfl, ⟨xk, sqk⟩, fun D9 hD9 => ?_⟩
          refine lc_mk (as := ks) (g0 := nD) (f := sv S) sqk hak (by omega) hD9 (fun n _ => nlSv hS n) (fun x n H9 QQ RR hm hx s9 hq => ?_) fun H9 us hD9' hU s9 => ?_
          · cases hx
            exact ⟨rfl, tyes ⟨vs0, rfl, _, rfl, S, n, _, dp_mono s9 _ _ hv8, rfl, sv_get (hks n hm), fun z hz => hq z _ hz (Same.refl _)⟩⟩
          refine ⟨D9, us, rfl, .inl ⟨.inl (.inl hD9'), fun p5 hp5 => ?_⟩⟩
          have s10 := s9.trans (same_new (o := .tup us) hp5)
          have hU5 : Dp K (upd H9 p5 (.tup us)) (.ref p5) (.tuple (ks.map (sv S))) := dp_tupN hp5 hU
          generalize upd H9 p5 (.tup us) = H10 at s10 hU5 ⊢
          refine ⟨.bl b, rfl, .ref a9, rfl, a9, ws, rfl, .inl ⟨.inl (.inl (s10 _ _ h98)), fun p11 hp11 => ⟨(by show 3 ≤ sizeLine; decide), fun p12 hp12 => ?_⟩⟩⟩
          have s11 := same_new (o := .tup ws) hp11
          have s12 := same_new (o := .tup [.ref p5, .bl b, .ref p11]) hp12
          refine q _ _ (s8.trans (s10.trans (s11.trans s12))) ?_
          exact dp_tupN hp12 (.cons (dp_mono s11 _ _ hU5) (.cons (.bl b) (.cons (dp_tupN hp11 (dpAll_mono s10 _ _ hW)) .nil)))
end
end K52

set_option maxHeartbeats 4000000
namespace K52
open PySem PySem.Spec PyProof.Rows L2 HG P52
/-- not too wide -/
def Nar (d : PyData) : Prop := P54.wt d ≤ 10000000
def spSame (K : PySem.W.Frag) (m : Nat) : Sp := fun vs H Q _ => ∃ (v u : V) (D : PyData), vs = [v, u] ∧ Dp K H v D ∧ Dp K H u D ∧ noL D = true ∧ D.depth < m ∧ P54.wt D ≤ 10000000 ∧ ∀ H', Same H H' → Q (.bl true) H'
section
variable {P : Program} {w : World} {K : PySem.W.Frag} {mg : Str → Option Value} {base : Heap}
set_option pp.maxSteps 600 in
theorem ok_same (T : Txt w K mg) : ∀ m : Nat, ∃ fd, FnOk P w K mg base CX0 (1 + m) (He.ga K "_law_same") fd ["_law_found", "_law_due_here"] (spSame K m) ∧ Binds K fd ["_law_found", "_law_due_here"] []
  | 0 => by
    obtain ⟨fd, F⟩ := T.d__law_same
    exact ⟨fd, ⟨fun _ _ _ _ h => by obtain ⟨_, _, _, _, _, _, _, h, _⟩ := h; omega, fun _ _ _ _ _ _ _ _ _ _ _ _ _ h => by obtain ⟨_, _, _, _, _, _, _, h, _⟩ := h; omega⟩, F.bindsN fun _ _ _ _ _ _ us hl => match us, hl with | [_, _], _ => rfl⟩
  | m + 1 => by
    have C__law_same : Cal P w K mg base "_law_same" (1 + m) ["_law_found", "_law_due_here"] (spSame K m) := ⟨ok_same T m, T.g _ (by decide), by obtain ⟨fd, F⟩ := T.d__law_same; exact F.kp⟩
    obtain ⟨fd, F⟩ := T.d__law_same
    refine ⟨fd, F.ok (k := 1 + m) sc__law_same (fun vs H Q E h => ?_) (fun cdv A outer s H vs Q E hr h => ?_), F.bindsN fun _ _ _ _ _ _ us hl => match us, hl with | [_, _], _ => rfl⟩
    · obtain ⟨v, u, D, rfl, _⟩ := h
      rfl
    obtain ⟨v, u, D, rfl, hv, hu, hn, hd, hw, q⟩ := h
    refine ⟨_, PSs.nox (pss_cons (ps_if (pt_val (pe_callB (isiK (K := K) rfl) (by rfl) T.n_isinstance (by decide +kernel) (pa_cons (pv 1) (pa_cons (pe_bltn (v := .ty "tuple") (u := .type "tuple") (by rfl) T.n_tuple (by decide +kernel) rfl) pa_nil)))) (pss_cons (ps_if (PW.pt (pw_or (pt_not (pt_val (pe_callB (isiK (K := K) rfl) (by rfl) T.n_isinstance (by decide +kernel) (pa_cons (pv 0) (pa_cons (pe_bltn (v := .ty "tuple") (u := .type "tuple") (by rfl) T.n_tuple (by decide +kernel) rfl) pa_nil))))) (pw_or1 (pt_cmpR op_ne (pe_callB (lenK (K := K) rfl) (by rfl) T.n_len (by decide +kernel) (pa_cons (pv 0) pa_nil)) (pe_callB (lenK (K := K) rfl) (by rfl) T.n_len (by decide +kernel) (pa_cons (pv 1) pa_nil)) (nomark _))))) (pss_one (ps_ret pe_bl)) pss_nil)
      (pss_one (ps_ret (pe_cmpR (op_eqDK (K := K) rfl hr.units) (pe_lc (own := [("_law_k", 2)]) (by rfl) sc__law_same.nd (pi_range1 (by rfl) T.n_range (pa_cons (pe_callB (lenK (K := K) rfl) (by rfl) T.n_len (by decide +kernel) (pa_cons (pv 1) pa_nil)) pa_nil)) (blkOk_by (own := [("_law_k", 2)]) (N := N__law_same) (sc := defScope s__law_same) (by decide +kernel)) (fun _ _ _ _ _ => (pg_name (i := 2) sc__law_same.nd rfl (.inl rfl))) (fun _ _ _ _ _ => pts_one (pt_not (pt_val (pe_cal C__law_same (hr.mono (by omega)) (by rfl) (pa_cons (pe_ix (ix_P (K := K) rfl) (pv 0) (pv 2) (fun _ _ => rfl)) (pa_cons (pe_ix (ix_P (K := K) rfl) (pv 1) (pv 2) (fun _ _ => rfl)) pa_nil)))))) (fun _ _ _ _ _ => (pv 2))) (pe_lst pa_nil) (nomark _))))) pss_nil)
      (pss_cons (ps_if (PW.pt (pw_or (pt_cmpR op_isN (pv 1) pe_non (nomark _)) (pw_or1 (pt_val (pe_callB (isiTK (K := K) rfl) (by rfl) T.n_isinstance (by decide +kernel) (pa_cons (pv 1) (pa_cons (pe_tup (pa_cons (pe_bltn (v := .ty "bool") (u := .type "bool") (by rfl) T.n_bool (by decide +kernel) rfl) (pa_cons (pe_bltn (v := .ty "str") (u := .type "str") (by rfl) T.n_str (by decide +kernel) rfl) pa_nil))) pa_nil))))))) (pss_one (ps_ret (pe_and (pe_cmpR op_eq (pe_callB (isiK (K := K) rfl) (by rfl) T.n_isinstance (by decide +kernel) (pa_cons (pv 0) (pa_cons (pe_bltn (v := .ty "bool") (u := .type "bool") (by rfl) T.n_bool (by decide +kernel) rfl) pa_nil))) (pe_callB (isiK (K := K) rfl) (by rfl) T.n_isinstance (by decide +kernel) (pa_cons (pv 1) (pa_cons (pe_bltn (v := .ty "bool") (u := .type "bool") (by rfl) T.n_bool (by decide +kernel) rfl) pa_nil))) (nomark _)) (pe_one (pe_cmpR op_eq (pv 0) (pv 1) (nomark _)))))) pss_nil)
      (pss_one (ps_ret (pe_and (pe_callB (isiK (K := K) rfl) (by rfl) T.n_isinstance (by decide +kernel) (pa_cons (pv 0) (pa_cons (pe_bltn (v := .ty "int") (u := .type "int") (by rfl) T.n_int (by decide +kernel) rfl) pa_nil))) (pe_and (pe_not (pe_callB (isiK (K := K) rfl) (by rfl) T.n_isinstance (by decide +kernel) (pa_cons (pv 0) (pa_cons (pe_bltn (v := .ty "bool") (u := .type "bool") (by rfl) T.n_bool (by decide +kernel) rfl) pa_nil)))) (pe_one (pe_cmpR op_eq (pv 0) (pv 1) (nomark _))))))))), ?_⟩
    refine ⟨u, rfl, u, .ty "tuple", _, _, _, rfl, .ty _, dp_ty hu, kit_ty (kit_tuple D), _, rfl, ?_⟩
    cases D with
    | list _ => simp [noL] at hn
    | dict _ => simp [noL] at hn
    | tuple ds =>
      have hv0 := hv
      have hu0 := hu
      cases hv with
      | @tup a xs _ sq ha =>
        cases hu with
        | @tup a' xs' _ sq' ha' =>
          have hl := dpAll_len ha
          have hl' := dpAll_len ha'
          refine iteT ⟨.ref a, rfl, .ref a, .ty "tuple", _, _, _, rfl, .ty _, dp_ty hv0, kit_ty (kit_tuple _), _, rfl, ?_⟩
          refine iteF ⟨.ref a, rfl, .ref a, _, rfl, .inr ⟨xs, sq, rfl⟩, .ref a', rfl, .ref a', _, rfl, .inr ⟨xs', sq', rfl⟩, rfl, _, rfl, ?_⟩
          have el : decide (V.int (xs.length : Int) = V.int (xs'.length : Int)) = true := by rw [len_eq, hl, hl']; exact decide_eq_true rfl
          rw [el]
          refine iteF ⟨.ref a', rfl, .ref a', _, rfl, .inr ⟨xs', sq', rfl⟩, _, rfl, by omega, ?_, fun D hD => ?_⟩
          · have h8 := P54.wtAll_len ds
            rw [P54.wt_tup] at hw
            omega
          have hnl := noL_tup.mp hn
          refine lc_range (lo := 0) (n := ((xs'.length : Nat) : Int).toNat) (fun j H4 => H4 D = some (.lst []) ∧ Same H H4) ⟨upd_same, same_new hD⟩ ?_ ?_
          · rintro j H4 hj ⟨hD4, s4⟩
            have hj : j < ds.length := by omega
            have hdj : ds[j]? = some ds[j] := List.getElem?_eq_getElem hj
            have hm := List.mem_of_getElem? hdj
            refine ⟨rfl, .ref a, rfl, .int (0 + (j : Int)), rfl, ds, j, _, dp_mono s4 _ _ hv0, by rw [Int.zero_add], hdj, fun z1 h1 => ⟨.ref a', rfl, .int (0 + (j : Int)), rfl, ds, j, _, dp_mono s4 _ _ hu0, by rw [Int.zero_add], hdj, fun z2 h2 => ?_⟩⟩
            refine ⟨z1, z2, _, rfl, h1, h2, hnl _ hm, ?_, ?_, fun H5 s5 => ⟨_, rfl, iteF ⟨s5 _ _ hD4, s4.trans s5⟩⟩⟩
            · have h8 := P54.depthAll_mem hm
              rw [P54.dp_tup] at hd
              omega
            · have h8 := P54.wtAll_mem hm
              rw [P54.wt_tup] at hw
              omega
          rintro H4 ⟨hD4, s4⟩
          refine ⟨Nat.zero_le _, fun p hp => ⟨.list [], .list [], .lst (.inl (.inl (upd_get hp hD4))) .nil, .lst (.inl (.inl upd_same)) .nil, by decide, by decide, ?_⟩⟩
          exact q _ (s4.trans (same_new hp))
    | none =>
      cases hv
      cases hu
      refine iteF ⟨_, rfl, rfl, _, rfl, iteT (iteT ?_)⟩
      exact ⟨_, rfl, _, .ty "bool", _, _, _, rfl, .ty _, dp_ty .non, kit_ty (kit_bool .none), _, rfl, _, .ty "bool", _, _, _, rfl, .ty _, dp_ty .non, kit_ty (kit_bool .none), rfl, _, rfl, iteT ⟨_, rfl, _, rfl, rfl, q _ (Same.refl _)⟩⟩
    | bool b =>
      cases hv
      cases hu
      refine iteF ⟨_, rfl, rfl, _, rfl, iteF ⟨_, rfl, (by show 2 ≤ sizeLine; decide), fun p hp => ⟨.bl b, p, _, .type "bool", [.type "bool", .type "str"], true, rfl, upd_same, .cons (.ty _) (.cons (.ty _) .nil), dp_ty (.bl b), kitAny_cons (kit_ty (kit_bool (.bool b))) (fun z => by cases z) (fun _ => rfl), _, rfl, iteT ?_⟩⟩⟩
      have s1 := same_new (o := .tup [.ty "bool", .ty "str"]) hp
      refine ⟨_, rfl, _, .ty "bool", _, _, _, rfl, .ty _, dp_ty (.bl b), kit_ty (kit_bool (.bool b)), _, rfl, _, .ty "bool", _, _, _, rfl, .ty _, dp_ty (.bl b), kit_ty (kit_bool (.bool b)), rfl, _, rfl, iteT ⟨_, rfl, _, rfl, rfl, ?_⟩⟩
      have e : decide (V.bl b = V.bl b) = true := decide_eq_true rfl
      rw [e]
      exact q _ s1
    | str x =>
      cases hv
      cases hu
      refine iteF ⟨_, rfl, rfl, _, rfl, iteF ⟨_, rfl, (by show 2 ≤ sizeLine; decide), fun p hp => ⟨.str x, p, _, .type "str", [.type "bool", .type "str"], true, rfl, upd_same, .cons (.ty _) (.cons (.ty _) .nil), dp_ty (.str x), kitAny_cons (kit_ty (kit_bool (.str x))) (fun _ => kitAny_cons (kit_ty (kit_str (.str x))) (fun z => by cases z) (fun _ => rfl)) (fun z => by cases z), _, rfl, iteT ?_⟩⟩⟩
      have s1 := same_new (o := .tup [.ty "bool", .ty "str"]) hp
      refine ⟨_, rfl, _, .ty "bool", _, _, _, rfl, .ty _, dp_ty (.str x), kit_ty (kit_bool (.str x)), _, rfl, _, .ty "bool", _, _, _, rfl, .ty _, dp_ty (.str x), kit_ty (kit_bool (.str x)), rfl, _, rfl, iteT ⟨_, rfl, _, rfl, rfl, ?_⟩⟩
      have e : decide (V.str x = V.str x) = true := decide_eq_true rfl
      rw [e]
      exact q _ s1
    | int i =>
      cases hv
      cases hu
      refine iteF ⟨_, rfl, rfl, _, rfl, iteF ⟨_, rfl, (by show 2 ≤ sizeLine; decide), fun p hp => ⟨.int i, p, _, .type "int", [.type "bool", .type "str"], false, rfl, upd_same, .cons (.ty _) (.cons (.ty _) .nil), dp_ty (.int i), kitAny_cons (kit_ty (kit_bool (.int i))) (fun _ => kitAny_cons (kit_ty (kit_str (.int i))) (fun _ => rfl) (fun z => by cases z)) (fun z => by cases z), _, rfl, iteF ?_⟩⟩⟩
      have s1 := same_new (o := .tup [.ty "bool", .ty "str"]) hp
      refine ⟨_, rfl, _, .ty "int", _, _, _, rfl, .ty _, dp_ty (.int i), kit_ty (kit_int (.int i)), _, rfl, iteT ⟨_, rfl, _, .ty "bool", _, _, _, rfl, .ty _, dp_ty (.int i), kit_ty (kit_bool (.int i)), _, rfl, _, rfl, iteT ⟨_, rfl, _, rfl, rfl, ?_⟩⟩⟩
      have e : decide (V.int i = V.int i) = true := decide_eq_true rfl
      rw [e]
      exact q _ s1
end
end K52

set_option maxHeartbeats 4000000
namespace K52
open PySem PySem.Spec PyProof.Rows L2 HG P52
/-! ### frames -/
theorem ext_kt {d c : Addr} {n : Nat} {H H' : Hp} (dk : Deck d c n H) (X : Ext d c H H') : KT H H' := by
  obtain ⟨ns, m, t, e1, e2, _⟩ := dk.ex
  refine ⟨fun b xs e => X.at (fun z => by rw [z, e1] at e; cases e) (fun z => by rw [z, e2] at e; cases e) e, fun b o u e => X.at (fun z => by rw [z, e1] at e; cases e) (fun z => by rw [z, e2] at e; cases e) e⟩
theorem grow {d c : Addr} {n : Nat} {H H' : Hp} (X : Ext d c H H') (D : Deck d c n H') {b : Addr} (h : H' b = none) : H b = none := by
  have nn := D.has h
  cases q : H b with
  | none => rfl
  | some o =>
    rw [X.at nn.1 nn.2 q] at h
    cases h
theorem off_same_mono {d c : Addr} {H H1 : Hp} (s : Same H H1) : Same (off d c H) (off d c H1) := fun b o h => by
  unfold off at h ⊢
  split at h
  · cases h
  · rename_i n
    rw [if_neg n]
    exact s b o h
theorem off_at {d c b : Addr} {H : Hp} {o : HO} (h : off d c H b = some o) : H b = some o ∧ b ≠ d ∧ b ≠ c := by
  unfold off at h
  split at h
  · cases h
  · rename_i n
    exact ⟨h, fun z => n (.inl z), fun z => n (.inr z)⟩
theorem seqIx {j n : Nat} (h : j < n) : seqIndex? (j : Int) n = some j := by
  unfold seqIndex?
  simp
  omega
theorem many40 {n : Nat} (h : n ≤ 1000000) : ((n : Nat) : Int) < 10 ^ 40 := by
  have : (1000000 : Int) < 10 ^ 40 := by decide
  omega
theorem erase_str : ∀ (l : List Str) (j : Nat), (l.map V.str).eraseIdx j = (l.eraseIdx j).map V.str
  | [], _ => rfl
  | _ :: _, 0 => rfl
  | x :: l, j + 1 => by
    simp only [List.map_cons, List.eraseIdx_cons_succ, erase_str l j]
theorem off_kt {d c : Addr} {n : Nat} {H : Hp} (dk : Deck d c n H) : KT H (off d c H) := by
  obtain ⟨ns, m, t, e1, e2, _⟩ := dk.ex
  refine ⟨fun b xs e => ?_, fun b o u e => ?_⟩
  · rw [off_get (fun z => by rw [z, e1] at e; cases e) (fun z => by rw [z, e2] at e; cases e)]
    exact e
  · rw [off_get (fun z => by rw [z, e1] at e; cases e) (fun z => by rw [z, e2] at e; cases e)]
    exact e
/-! ### names -/
abbrev words19 : List Str := ["f", "g", "x", "y", "t", "a", "b", "ab", "abc", "abcdefgh", "let", "call", "load", "func", "var", "const", "zz", "main", "print"]
theorem split19 : Txt.split "f g x y t a b ab abc abcdefgh let call load func var const zz main print" " " = words19 := by decide +kernel
theorem w19 : ∀ z ∈ words19, OkS 9 z := by
  have : ∀ z ∈ words19, z.length ≤ 9 ∧ ∀ c ∈ cp z, c < 128 := by decide +kernel
  exact fun z hz => ⟨(this z hz).1, (this z hz).2⟩
theorem mW : OkS 2 ("m." : Str) := ⟨by decide +kernel, by decide +kernel⟩
def spNames (K : PySem.W.Frag) : Sp := fun vs H Q _ => ∃ (d c : Addr) (n k : Nat), vs = [.ref d, .int (k : Int)] ∧ k ≤ 9 ∧ n < 2 ^ 50 ∧ Deck d c n H ∧
  ∀ (a : Addr) (zs : List Str) (H' : Hp), zs.length = k → (∀ z ∈ zs, Nm z) → Deck d c (n + 20) H' → Ext d c H H' → H a = none → H' a = some (.lst (zs.map V.str)) → Q (.ref a) H'
section
variable {P : Program} {w : World} {K : PySem.W.Frag} {mg : Str → Option Value} {base : Heap}
set_option pp.maxSteps 600 in
theorem c_names (T : Txt w K mg) : Cal P w K mg base "_law_names" 2 ["_law_deck_here", "_law_many"] (spNames K) := by
  obtain ⟨fd, F⟩ := T.d__law_names
  have C__law_draw := c_draw (P := P) (base := base) T
  refine ⟨⟨fd, F.ok sc__law_names (fun vs H Q E h => ?_) (fun cdv A outer s H vs Q E hr h => ?_), F.bindsN fun _ _ _ _ _ _ us hl => match us, hl with | [_, _], _ => rfl⟩, T.g _ (by decide), F.kp⟩
  · obtain ⟨d, c, n, k, rfl, _⟩ := h
    rfl
  obtain ⟨d, c, n, k, rfl, hk, hn, dk, q⟩ := h
  refine ⟨_, PSs.nox (pss_cons (ps_set (i := 2) sc__law_names.nd rfl (.inl rfl) (pe_bm PySem.F.plainAttrs_str PySem.F.slot_str_split PySem.F.type_str_split mt_split pe_str (pa_cons pe_str pa_nil)))
      (pss_cons (ps_set (i := 3) sc__law_names.nd rfl (.inl rfl) (pe_lst pa_nil))
      (pss_cons (ps_for PassesOwn.never rfl (pi_range1 (by rfl) T.n_range (pa_cons (pv 1) pa_nil)) (pg_name (i := 4) sc__law_names.nd rfl (.inl rfl)) (pss_cons (ps_set (i := 5) sc__law_names.nd rfl (.inl rfl) (pe_bm PySem.F.plainAttrs_list PySem.F.slot_list_pop PySem.F.type_list_pop mt_popAt (pv 2) (pa_cons (pe_cal C__law_draw (hr.mono (by omega)) (by rfl) (pa_cons (pv 0) (pa_cons (pe_callB (lenK (K := K) rfl) (by rfl) T.n_len (by decide +kernel) (pa_cons (pv 2) pa_nil)) pa_nil))) pa_nil)))
      (pss_one (ps_expr (pe_bm PySem.F.plainAttrs_list PySem.F.slot_list_append PySem.F.type_list_append mt_append (pv 3) (pa_cons (pe_ix (ix_listK (K := K) rfl) (pe_lst (pa_cons (pe_op op_add_str pe_str (pv 5)) (pa_cons (pv 5) (pa_cons (pv 5) (pa_cons (pv 5) pa_nil))))) (pe_cal C__law_draw (hr.mono (by omega)) (by rfl) (pa_cons (pv 0) (pa_cons pe_int pa_nil))) (fun _ _ => rfl)) pa_nil))))))
      (pss_one (ps_ret (pv 3)))))), ?_⟩
  refine ⟨rfl, _, _, rfl, rfl, rfl, (by decide), fun p2 hp2 => ?_⟩
  rw [split19]
  have n2 := dk.has hp2
  have dk1 := dk.new (o := .lst (words19.map V.str)) hp2
  have X1 : Ext d c H (upd H p2 (.lst (words19.map V.str))) := Ext.new hp2
  have e21 : (upd H p2 (.lst (words19.map V.str))) p2 = some (.lst (words19.map V.str)) := upd_same
  generalize upd H p2 (.lst (words19.map V.str)) = H1 at dk1 X1 e21 ⊢
  refine ⟨Nat.zero_le _, fun p3 hp3 => ?_⟩
  have n3 := dk1.has hp3
  have hp3H := grow X1 dk1 hp3
  have n23 : p2 ≠ p3 := ne_of_none e21 hp3
  have dk2 := dk1.new (o := .lst []) hp3
  have X2 := X1.trans (Ext.new (o := .lst []) hp3)
  have e22 := upd_get (o := .lst []) hp3 e21
  have e32 : (upd H1 p3 (.lst [])) p3 = some (.lst []) := upd_same
  generalize upd H1 p3 (.lst []) = H2 at dk2 X2 e22 e32 ⊢
  refine ⟨_, rfl, _, rfl, by omega, by omega, for_range (lo := 0) (n := (k : Int).toNat) (fun i σ H3 => ∃ ws zs x4 x5, σ = [some (.ref d), some (.int (k : Int)), some (.ref p2), some (.ref p3), x4, x5] ∧ H3 p2 = some (.lst (ws.map V.str)) ∧ H3 p3 = some (.lst (zs.map V.str)) ∧ ws.length + i = 19 ∧ zs.length = i ∧ (∀ z ∈ ws, z ∈ words19) ∧ (∀ z ∈ zs, Nm z) ∧ Deck d c (n + 2 * i) H3 ∧ Ext d c H H3)
    ⟨words19, [], _, _, rfl, e22, e32, rfl, rfl, fun z h => h, (fun _ h => nomatch h), dk2, X2⟩ ?_ ?_⟩
  · rintro i σ H3 hi ⟨ws, zs, x4, x5, rfl, e2, e3, hwl, hzl, hws, hzs, dk3, X3⟩
    have hi : i < 9 := by omega
    refine ⟨.ref p2, rfl, .inl ⟨rfl, _, .inl (.inl e2)⟩, .ref d, rfl, .ref p2, rfl, .ref p2, _, rfl, .inl ⟨_, .inl (.inl e2), rfl⟩, d, c, n + 2 * i, _, rfl, ?_, ?_, by omega, dk3, fun r H4 r0 r1 dk4 X4 => ?_⟩
    · rw [List.length_map]
      omega
    · rw [List.length_map]
      exact many40 (by omega)
    rw [List.length_map] at r1
    obtain ⟨j, rfl⟩ := Int.eq_ofNat_of_zero_le r0
    have hj : j < ws.length := by omega
    have e24 := X4.at n2.1 n2.2 e2
    have e34 := X4.at n3.1 n3.2 e3
    refine ⟨p2, _, _, j, .str ws[j], rfl, rfl, e24, by omega, by omega, by rw [List.length_map]; exact seqIx hj, by rw [List.getElem?_map, List.getElem?_eq_getElem hj]; rfl, ?_⟩
    have hwj := hws _ (List.getElem_mem hj)
    have ee : (ws.map V.str).eraseIdx j = (ws.eraseIdx j).map V.str := erase_str _ _
    rw [ee]
    have dk5 := dk4.upd (o := .lst ((ws.eraseIdx j).map V.str)) n2.1 n2.2
    have X5 : Ext d c H (upd H4 p2 (.lst ((ws.eraseIdx j).map V.str))) := (X3.trans X4).mut hp2
    have e25 : (upd H4 p2 (.lst ((ws.eraseIdx j).map V.str))) p2 = some (.lst ((ws.eraseIdx j).map V.str)) := upd_same
    have e35 : (upd H4 p2 (.lst ((ws.eraseIdx j).map V.str))) p3 = some (.lst (zs.map V.str)) := by rw [upd_ne n23.symm]; exact e34
    generalize upd H4 p2 (.lst ((ws.eraseIdx j).map V.str)) = H5 at dk5 X5 e25 e35 ⊢
    have ok9 := w19 _ hwj
    have ok11 : OkS 11 ("m." ++ ws[j]) := mW.app ok9
    refine ⟨.ref p3, rfl, .inl ⟨rfl, _, .inl (.inl e35)⟩, .str ws[j], rfl, _, _, rfl, rfl, ?_, .str ws[j], rfl, .str ws[j], rfl, .str ws[j], rfl, (by show 4 ≤ sizeLine; decide), fun p6 hp6 => ?_⟩
    · have h1 := mW.len
      have h2 := ok9.len
      rw [sizeLine_eq]
      omega
    have n6 := dk5.has hp6
    have n63 : p3 ≠ p6 := ne_of_none e35 hp6
    have n62 : p2 ≠ p6 := ne_of_none e25 hp6
    have dk6 := dk5.new (o := .lst [.str ("m." ++ ws[j]), .str ws[j], .str ws[j], .str ws[j]]) hp6
    have X6 := X5.trans (Ext.new (o := .lst [.str ("m." ++ ws[j]), .str ws[j], .str ws[j], .str ws[j]]) hp6)
    have e66 : (upd H5 p6 (.lst [.str ("m." ++ ws[j]), .str ws[j], .str ws[j], .str ws[j]])) p6 = some (.lst [.str ("m." ++ ws[j]), .str ws[j], .str ws[j], .str ws[j]]) := upd_same
    have e26 := upd_get (o := .lst [.str ("m." ++ ws[j]), .str ws[j], .str ws[j], .str ws[j]]) hp6 e25
    have e36 := upd_get (o := .lst [.str ("m." ++ ws[j]), .str ws[j], .str ws[j], .str ws[j]]) hp6 e35
    generalize upd H5 p6 (.lst [.str ("m." ++ ws[j]), .str ws[j], .str ws[j], .str ws[j]]) = H6 at dk6 X6 e66 e26 e36 ⊢
    refine ⟨.ref d, rfl, d, c, n + 2 * i + 1, 4, rfl, by decide, by decide, by omega, dk6, fun r H7 r0 r1 dk7 X7 => ?_⟩
    obtain ⟨l, rfl⟩ := Int.eq_ofNat_of_zero_le r0
    have hl : l < 4 := by omega
    have hpick : ∃ z, ([V.str ("m." ++ ws[j]), V.str ws[j], V.str ws[j], V.str ws[j]] : List V)[l]? = some (.str z) ∧ Nm z := by
      match l, hl with
      | 0, _ => exact ⟨_, rfl, ok11.up (by decide)⟩
      | 1, _ => exact ⟨_, rfl, ok9.up (by decide)⟩
      | 2, _ => exact ⟨_, rfl, ok9.up (by decide)⟩
      | 3, _ => exact ⟨_, rfl, ok9.up (by decide)⟩
    obtain ⟨z, hz1, hz2⟩ := hpick
    have e37 := X7.at n3.1 n3.2 e36
    have e27 := X7.at n2.1 n2.2 e26
    refine ⟨p6, _, l, .str z, rfl, rfl, .inl (.inl (X7.at n6.1 n6.2 e66)), atI_nat hz1, p3, _, _, rfl, rfl, e37, ?_, ?_⟩
    · rw [List.length_map]
      exact small_line (by omega)
    refine ⟨ws.eraseIdx j, zs ++ [z], _, _, rfl, by rw [upd_ne n23]; exact e27, by rw [upd_same, List.map_append]; rfl, ?_, by rw [List.length_append, hzl]; rfl, fun y hy => hws y (List.mem_of_mem_eraseIdx hy), fun y hy => ?_, dk7.upd n3.1 n3.2 |>.up (by omega), (X6.trans X7).mut hp3H⟩
    · rw [List.length_eraseIdx_of_lt hj]
      omega
    · rcases List.mem_append.mp hy with h | h
      · exact hzs y h
      · rw [List.mem_singleton.mp h]
        exact hz2
  · rintro σ H3 ⟨ws, zs, x4, x5, rfl, e2, e3, hwl, hzl, hws, hzs, dk3, X3⟩
    exact ⟨_, rfl, q p3 zs H3 (by omega) hzs (dk3.up (by omega)) X3 hp3H e3⟩
/-! ### the world -/
def prD (p : Str × Nat) : PyData := .tuple [.str p.1, .int (p.2 : Int)]
theorem nlPr (l : List (Str × Nat)) : noLAll (l.map prD) = true := noLAll_map fun _ _ => rfl
def wdKV (ca ce ar : Addr) (h : Str) : List (Key × V) := [(Sum.inr "calls", .ref ca), (Sum.inr "cells", .ref ce), (Sum.inr "holder", .str h), (Sum.inr "arrays", .ref ar)]
structure Wd (K : PySem.W.Frag) (H : Hp) (wd : Addr) : Prop where
  ex : ∃ (ca ce ar : Addr) (h : Str) (cs as : List (Str × Nat)) (cvs avs : List V) (es : List Str), H wd = some (.dK (wdKV ca ce ar h)) ∧ H ca = some (.lst cvs) ∧ DpAll K H cvs (cs.map prD) ∧
    H ce = some (.lst (es.map V.str)) ∧ H ar = some (.lst avs) ∧ DpAll K H avs (as.map prD) ∧ cs.length = 4 ∧ (∀ p ∈ cs, Nm p.1 ∧ p.2 ≤ 2) ∧ es.length = 2 ∧ (∀ z ∈ es, Nm z) ∧ as.length = 2 ∧ (∀ p ∈ as, Nm p.1) ∧ Nm h
theorem Wd.mono {K : PySem.W.Frag} {H H' : Hp} {wd : Addr} (h : Wd K H wd) (s : Same H H') : Wd K H' wd := by
  obtain ⟨ca, ce, ar, hh, cs, as, cvs, avs, es, h1, h2, h3, h4, h5, h6, r⟩ := h.ex
  exact ⟨ca, ce, ar, hh, cs, as, cvs, avs, es, s _ _ h1, s _ _ h2, dpAll_mono s _ _ h3, s _ _ h4, s _ _ h5, dpAll_mono s _ _ h6, r⟩
def spWorld (K : PySem.W.Frag) : Sp := fun vs H Q _ => ∃ (d c : Addr) (n : Nat), vs = [.ref d] ∧ n < 2 ^ 49 ∧ Deck d c n H ∧
  ∀ (wd : Addr) (H' : Hp), Deck d c (n + 30) H' → Ext d c H H' → Wd K (off d c H') wd → Q (.ref wd) H'
theorem list9 {zs : List Str} (h : zs.length = 9) : ∃ a b c d e f g i j, zs = [a, b, c, d, e, f, g, i, j] := by
  match zs, h with
  | [a, b, c, d, e, f, g, i, j], _ => exact ⟨a, b, c, d, e, f, g, i, j, rfl⟩
set_option pp.maxSteps 600 in
theorem c_world (T : Txt w K mg) : Cal P w K mg base "_law_world" 3 ["_law_deck_here"] (spWorld K) := by
  obtain ⟨fd, F⟩ := T.d__law_world
  have C__law_draw := c_draw (P := P) (base := base) T
  have C__law_names := c_names (P := P) (base := base) T
  refine ⟨⟨fd, F.ok sc__law_world (fun vs H Q E h => ?_) (fun cdv A outer s H vs Q E hr h => ?_), F.bindsN fun _ _ _ _ _ _ us hl => match us, hl with | [_], _ => rfl⟩, T.g _ (by decide), F.kp⟩
  · obtain ⟨d, c, n, rfl, _⟩ := h
    rfl
  obtain ⟨d, c, n, rfl, hn, dk, q⟩ := h
  refine ⟨_, PSs.nox (pss_cons (ps_set (i := 1) sc__law_world.nd rfl (.inl rfl) (pe_cal C__law_names (hr.mono (by omega)) (by rfl) (pa_cons (pv 0) (pa_cons pe_int pa_nil))))
      (pss_cons (ps_set (i := 2) sc__law_world.nd rfl (.inl rfl) (pe_lst (pa_cons (pe_tup (pa_cons (pe_ix (ix_listK (K := K) rfl) (pv 1) pe_int (fun _ _ => rfl)) (pa_cons pe_int pa_nil))) (pa_cons (pe_tup (pa_cons (pe_ix (ix_listK (K := K) rfl) (pv 1) pe_int (fun _ _ => rfl)) (pa_cons pe_int pa_nil))) (pa_cons (pe_tup (pa_cons (pe_ix (ix_listK (K := K) rfl) (pv 1) pe_int (fun _ _ => rfl)) (pa_cons pe_int pa_nil))) (pa_cons (pe_tup (pa_cons (pe_ix (ix_listK (K := K) rfl) (pv 1) pe_int (fun _ _ => rfl)) (pa_cons pe_int pa_nil))) pa_nil))))))
      (pss_cons (ps_set (i := 3) sc__law_world.nd rfl (.inl rfl) (pe_lst (pa_cons (pe_tup (pa_cons (pe_ix (ix_listK (K := K) rfl) (pv 1) pe_int (fun _ _ => rfl)) (pa_cons (pe_op op_add pe_int (pe_cal C__law_draw (hr.mono (by omega)) (by rfl) (pa_cons (pv 0) (pa_cons pe_int pa_nil)))) pa_nil))) (pa_cons (pe_tup (pa_cons (pe_ix (ix_listK (K := K) rfl) (pv 1) pe_int (fun _ _ => rfl)) (pa_cons (pe_op op_add pe_int (pe_cal C__law_draw (hr.mono (by omega)) (by rfl) (pa_cons (pv 0) (pa_cons pe_int pa_nil)))) pa_nil))) pa_nil))))
      (pss_one (ps_ret (pe_disp (pps_cons pe_str (pv 2) (pps_cons pe_str (pe_slice (sl_listK (K := K) rfl) (pv 1) (po_some pe_int) (po_some pe_int)) (pps_cons pe_str (pe_ix (ix_listK (K := K) rfl) (pv 1) pe_int (fun _ _ => rfl)) (pps_cons pe_str (pv 3) pps_nil)))) (by rfl) (by rfl) (fun z => by cases z) (by decide))))))), ?_⟩
  refine ⟨.ref d, rfl, d, c, n, 9, rfl, by decide, by omega, dk, fun a zs H1 hzl hzs dk1 X1 ha0 ha => ?_⟩
  obtain ⟨z0, z1, z2, z3, z4, z5, z6, z7, z8, rfl⟩ := list9 hzl
  have na := dk.has ha0
  have ix : ∀ (H2 : Hp) (j : Nat) (z : Str) (Q2 : VK), H2 a = some (.lst (([z0, z1, z2, z3, z4, z5, z6, z7, z8] : List Str).map V.str)) → (([z0, z1, z2, z3, z4, z5, z6, z7, z8] : List Str).map V.str)[j]? = some (.str z) → Q2 (.str z) H2 → rIxL K (.ref a) (.int (j : Int)) H2 Q2 := fun H2 j z Q2 h1 h2 h3 => ⟨a, _, j, .str z, rfl, rfl, .inl (.inl h1), atI_nat h2, h3⟩
  refine ⟨.ref a, rfl, ix H1 0 z0 _ ha rfl ⟨(by show 2 ≤ sizeLine; decide), fun t1 ht1 => ?_⟩⟩
  have s1 := same_new (o := .tup [.str z0, .int 0]) ht1
  have g1 : Dp K (upd H1 t1 (.tup [.str z0, .int 0])) (.ref t1) (prD (z0, 0)) := dp_tupN ht1 (.cons (.str _) (.cons (.int _) .nil))
  generalize upd H1 t1 (.tup [.str z0, .int 0]) = H2 at s1 g1 ⊢
  refine ⟨.ref a, rfl, ix H2 1 z1 _ (s1 _ _ ha) rfl ⟨(by show 2 ≤ sizeLine; decide), fun t2 ht2 => ?_⟩⟩
  have s2 := same_new (o := .tup [.str z1, .int 1]) ht2
  have g2 : Dp K (upd H2 t2 (.tup [.str z1, .int 1])) (.ref t2) (prD (z1, 1)) := dp_tupN ht2 (.cons (.str _) (.cons (.int _) .nil))
  have S2 := s1.trans s2
  generalize upd H2 t2 (.tup [.str z1, .int 1]) = H3 at s2 S2 g2 ⊢
  refine ⟨.ref a, rfl, ix H3 2 z2 _ (S2 _ _ ha) rfl ⟨(by show 2 ≤ sizeLine; decide), fun t3 ht3 => ?_⟩⟩
  have s3 := same_new (o := .tup [.str z2, .int 1]) ht3
  have g3 : Dp K (upd H3 t3 (.tup [.str z2, .int 1])) (.ref t3) (prD (z2, 1)) := dp_tupN ht3 (.cons (.str _) (.cons (.int _) .nil))
  have S3 := S2.trans s3
  generalize upd H3 t3 (.tup [.str z2, .int 1]) = H4 at s3 S3 g3 ⊢
  refine ⟨.ref a, rfl, ix H4 3 z3 _ (S3 _ _ ha) rfl ⟨(by show 2 ≤ sizeLine; decide), fun t4 ht4 => ?_⟩⟩
  have s4 := same_new (o := .tup [.str z3, .int 2]) ht4
  have g4 : Dp K (upd H4 t4 (.tup [.str z3, .int 2])) (.ref t4) (prD (z3, 2)) := dp_tupN ht4 (.cons (.str _) (.cons (.int _) .nil))
  have S4 := S3.trans s4
  have hcs : DpAll K (upd H4 t4 (.tup [.str z3, .int 2])) [.ref t1, .ref t2, .ref t3, .ref t4] (([(z0, 0), (z1, 1), (z2, 1), (z3, 2)] : List (Str × Nat)).map prD) :=
    .cons (dp_mono (s2.trans (s3.trans s4)) _ _ g1) (.cons (dp_mono (s3.trans s4) _ _ g2) (.cons (dp_mono s4 _ _ g3) (.cons g4 .nil)))
  generalize upd H4 t4 (.tup [.str z3, .int 2]) = H5 at S4 hcs ⊢
  refine ⟨(by show 4 ≤ sizeLine; decide), fun ca hca => ?_⟩
  have s5 := same_new (o := .lst [.ref t1, .ref t2, .ref t3, .ref t4]) hca
  have S5 := S4.trans s5
  have eca : (upd H5 ca (.lst [.ref t1, .ref t2, .ref t3, .ref t4])) ca = some (.lst [.ref t1, .ref t2, .ref t3, .ref t4]) := upd_same
  have hcs := dpAll_mono s5 _ _ hcs
  have dk6 := dk1.same S5
  have nca := (dk1.same S4).has hca
  generalize upd H5 ca (.lst [.ref t1, .ref t2, .ref t3, .ref t4]) = H6 at S5 eca hcs dk6 ⊢
  have X6 : Ext d c H H6 := X1.trans (off_same_mono S5)
  have ha6 := S5 _ _ ha
  -- lengths
  refine ⟨.ref a, rfl, a, _, 7, .str z7, rfl, rfl, .inl (.inl ha6), atI_nat (j := 7) rfl, ?_⟩
  refine ⟨.ref d, rfl, d, c, n + 20, 4, rfl, by decide, by decide, by omega, dk6, fun r7 H7 r70 r71 dk7 X7 => ?_⟩
  obtain ⟨l7, rfl⟩ := Int.eq_ofNat_of_zero_le r70
  refine ⟨_, _, rfl, rfl, (by show 2 ≤ sizeLine; decide), fun t5 ht5 => ?_⟩
  have e7 : (1 : Int) + (l7 : Int) = ((1 + l7 : Nat) : Int) := by omega
  generalize eHH8 : upd H7 t5 _ = H8
  have eHH8 : H8 = upd H7 t5 (.tup [.str z7, .int (1 + (l7 : Int))]) := eHH8.symm
  have s7 : Same H7 H8 := by rw [eHH8]; exact same_new ht5
  have g5 : Dp K H8 (.ref t5) (prD (z7, 1 + l7)) := by
    rw [eHH8]
    unfold prD
    rw [← e7]
    exact dp_tupN ht5 (.cons (.str _) (.cons (.int _) .nil))
  have dk8 := dk7.same s7
  have X8 : Ext d c H6 H8 := X7.trans (off_same_mono s7)
  refine ⟨.ref a, rfl, a, _, 8, .str z8, rfl, rfl, .inl (.inl (X8.at na.1 na.2 ha6)), atI_nat (j := 8) rfl, ?_⟩
  refine ⟨.ref d, rfl, d, c, n + 20 + 1, 4, rfl, by decide, by decide, by omega, dk8, fun r9 H9 r90 r91 dk9 X9 => ?_⟩
  obtain ⟨l9, rfl⟩ := Int.eq_ofNat_of_zero_le r90
  refine ⟨_, _, rfl, rfl, (by show 2 ≤ sizeLine; decide), fun t6 ht6 => ?_⟩
  have e9 : (1 : Int) + (l9 : Int) = ((1 + l9 : Nat) : Int) := by omega
  generalize eHH10 : upd H9 t6 _ = H10
  have eHH10 : H10 = upd H9 t6 (.tup [.str z8, .int (1 + (l9 : Int))]) := eHH10.symm
  have s9 : Same H9 H10 := by rw [eHH10]; exact same_new ht6
  have g6 : Dp K H10 (.ref t6) (prD (z8, 1 + l9)) := by
    rw [eHH10]
    unfold prD
    rw [← e9]
    exact dp_tupN ht6 (.cons (.str _) (.cons (.int _) .nil))
  have dk10 := dk9.same s9
  have X810 : Ext d c H8 H10 := X9.trans (off_same_mono s9)
  have has : DpAll K H10 [.ref t5, .ref t6] (([(z7, 1 + l7), (z8, 1 + l9)] : List (Str × Nat)).map prD) := .cons (dp_kt (ext_kt dk8 X810) _ _ rfl g5) (.cons g6 .nil)
  refine ⟨(by show 2 ≤ sizeLine; decide), fun ar har => ?_⟩
  have s11 := same_new (o := .lst [.ref t5, .ref t6]) har
  have nar := dk10.has har
  have dk11 := dk10.same s11
  have ear : (upd H10 ar (.lst [.ref t5, .ref t6])) ar = some (.lst [.ref t5, .ref t6]) := upd_same
  have has := dpAll_mono s11 _ _ has
  have X11 : Ext d c H6 (upd H10 ar (.lst [.ref t5, .ref t6])) := (X8.trans X810).trans (off_same_mono s11)
  generalize upd H10 ar (.lst [.ref t5, .ref t6]) = H11 at dk11 ear has X11 ⊢
  have ha11 := X11.at na.1 na.2 ha6
  have eca11 := X11.at nca.1 nca.2 eca
  have hcs11 := dpAll_kt (ext_kt dk6 X11) _ _ (nlPr _) hcs
  -- the dict
  intro wd hwd
  have s12 := same_new (o := .dK []) hwd
  have nwd := dk11.has hwd
  have dk12 := dk11.same s12
  have ewd : (upd H11 wd (.dK [])) wd = some (.dK []) := upd_same
  generalize eH12 : upd H11 wd (.dK []) = H12 at s12 dk12 ewd ⊢
  refine ⟨.ref ca, rfl, .ref a, rfl, 4, rfl, 6, rfl, a, _, rfl, .inl (.inl (s12 _ _ ha11)), fun ce hce => ?_⟩
  have ecut : cutV (([z0, z1, z2, z3, z4, z5, z6, z7, z8] : List Str).map V.str) (some 4) (some 6) = ([z4, z5] : List Str).map V.str := rfl
  generalize eH13 : upd H12 ce _ = H13
  have eH13 : H13 = upd H12 ce (.lst (([z4, z5] : List Str).map V.str)) := eH13.symm
  have s13 : Same H12 H13 := by rw [eH13]; exact same_new hce
  have ece : H13 ce = some (.lst (([z4, z5] : List Str).map V.str)) := by rw [eH13]; exact upd_same
  have nce := dk12.has hce
  have ncw : ce ≠ wd := fun z => by rw [z, ewd] at hce; cases hce
  have s1113 := s12.trans s13
  have dk13 := dk12.same s13
  refine ⟨.ref a, rfl, a, _, 6, .str z6, rfl, rfl, .inl (.inl (s1113 _ _ ha11)), atI_nat (j := 6) rfl, .ref ar, rfl, s13 _ _ ewd, wdKV ca ce ar z6, rfl, (by show 4 ≤ 15; decide), ?_⟩
  generalize eH14 : upd H13 wd _ = H14
  have em : mergeK [] (wdKV ca ce ar z6) = wdKV ca ce ar z6 := rfl
  rw [em] at eH14
  have nH11 : ∀ b o, H11 b = some o → b ≠ wd := fun b o e => ne_of_none e hwd
  have s14 : Same H11 H14 := fun b o e => by
    rw [← eH14, upd_ne (nH11 b o e)]
    exact s1113 _ _ e
  have e14 : H14 wd = some (.dK (wdKV ca ce ar z6)) := by rw [← eH14]; exact upd_same
  have ece14 : H14 ce = some (.lst (([z4, z5] : List Str).map V.str)) := by rw [← eH14, upd_ne ncw]; exact ece
  have dk14 := dk11.same s14
  have k14 := off_kt dk14
  have nm := fun z hz => hzs z hz
  refine q wd H14 (dk14.up (by omega)) ((X6.trans X11).trans (off_same_mono s14)) ⟨ca, ce, ar, z6, [(z0, 0), (z1, 1), (z2, 1), (z3, 2)], [(z7, 1 + l7), (z8, 1 + l9)], _, _, [z4, z5], ?_, ?_, dpAll_kt k14 _ _ (nlPr _) (dpAll_mono s14 _ _ hcs11), ?_, ?_, dpAll_kt k14 _ _ (nlPr _) (dpAll_mono s14 _ _ has), rfl, ?_, rfl, ?_, rfl, ?_, ?_⟩
  · rw [off_get nwd.1 nwd.2]; exact e14
  · rw [off_get nca.1 nca.2]; exact s14 _ _ eca11
  · rw [off_get nce.1 nce.2]; exact ece14
  · rw [off_get nar.1 nar.2]; exact s14 _ _ ear
  · intro p hp
    simp only [List.mem_cons, List.not_mem_nil, or_false] at hp
    rcases hp with rfl | rfl | rfl | rfl
    · exact ⟨nm _ (by simp), Nat.le_of_ble_eq_true rfl⟩
    · exact ⟨nm _ (by simp), Nat.le_of_ble_eq_true rfl⟩
    · exact ⟨nm _ (by simp), Nat.le_of_ble_eq_true rfl⟩
    · exact ⟨nm _ (by simp), Nat.le_of_ble_eq_true rfl⟩
  · intro z hz
    simp only [List.mem_cons, List.not_mem_nil, or_false] at hz
    rcases hz with rfl | rfl
    · exact nm _ (by simp)
    · exact nm _ (by simp)
  · intro p hp
    simp only [List.mem_cons, List.not_mem_nil, or_false] at hp
    rcases hp with rfl | rfl
    · exact nm _ (by simp)
    · exact nm _ (by simp)
  · exact nm _ (by simp)
/-! ### words and operands -/
def spWord (K : PySem.W.Frag) : Sp := fun vs H Q _ => ∃ (d c : Addr) (n : Nat), vs = [.ref d] ∧ n < 2 ^ 50 ∧ Deck d c n H ∧ ∀ (i : Int) (H' : Hp), 0 ≤ i → i < 65536 → Deck d c (n + 1) H' → Ext d c H H' → Q (.int i) H'
abbrev wordsI : List Int := [0, 1, 2, 3, 5, 65535, 256, 0]
theorem wordsI_ok : ∀ i ∈ wordsI, 0 ≤ i ∧ i < 65536 := by decide
set_option pp.maxSteps 600 in
theorem c_word (T : Txt w K mg) : Cal P w K mg base "_law_word" 2 ["_law_deck_here"] (spWord K) := by
  obtain ⟨fd, F⟩ := T.d__law_word
  have C__law_draw := c_draw (P := P) (base := base) T
  refine ⟨⟨fd, F.ok sc__law_word (fun vs H Q E h => ?_) (fun cdv A outer s H vs Q E hr h => ?_), F.bindsN fun _ _ _ _ _ _ us hl => match us, hl with | [_], _ => rfl⟩, T.g _ (by decide), F.kp⟩
  · obtain ⟨d, c, n, rfl, _⟩ := h
    rfl
  obtain ⟨d, c, n, rfl, hn, dk, q⟩ := h
  refine ⟨_, PSs.nox (pss_one (ps_ret (pe_ix (ix_listK (K := K) rfl) (pe_lst (pa_cons pe_int (pa_cons pe_int (pa_cons pe_int (pa_cons pe_int (pa_cons pe_int (pa_cons pe_int (pa_cons pe_int (pa_cons pe_int pa_nil))))))))) (pe_cal C__law_draw (hr.mono (by omega)) (by rfl) (pa_cons (pv 0) (pa_cons pe_int pa_nil))) (fun _ _ => rfl)))), ?_⟩
  refine ⟨(by show 8 ≤ sizeLine; decide), fun p hp => ?_⟩
  have np := dk.has hp
  have ep : (upd H p (.lst (wordsI.map V.int))) p = some (.lst (wordsI.map V.int)) := upd_same
  refine ⟨.ref d, rfl, d, c, n, 8, rfl, by decide, by decide, by omega, dk.new hp, fun r H1 r0 r1 dk1 X1 => ?_⟩
  obtain ⟨j, rfl⟩ := Int.eq_ofNat_of_zero_le r0
  have hj : j < wordsI.length := by
    show j < 8
    omega
  have hg : (wordsI.map V.int)[j]? = some (.int wordsI[j]) := by rw [List.getElem?_map, List.getElem?_eq_getElem hj]; rfl
  have ok := wordsI_ok _ (List.getElem_mem hj)
  exact ⟨p, _, j, _, rfl, rfl, .inl (.inl (X1.at np.1 np.2 ep)), atI_nat hg, q _ _ ok.1 ok.2 dk1 ((Ext.new hp).trans X1)⟩
structure Kt (H : Hp) (kt : Addr) (cnt M f : Nat) : Prop where
  ex : ∃ wa fa : Addr, H kt = some (.dK [(Sum.inr "count", .int (cnt : Int)), (Sum.inr "words", .ref wa), (Sum.inr "funcs", .ref fa)]) ∧ H wa = some (.lst ((List.range M).map fun i => V.int ((i : Nat) : Int))) ∧ H fa = some (.lst ((List.range f).map fun i => V.int ((M + i : Nat) : Int)))
  lt : cnt < M
  c3 : cnt ≤ 3
  M8 : M ≤ 8
  f1 : 0 < f
  f2 : f ≤ 2
theorem Kt.mono {H H' : Hp} {kt : Addr} {cnt M f : Nat} (h : Kt H kt cnt M f) (s : Same H H') : Kt H' kt cnt M f := by
  obtain ⟨wa, fa, h1, h2, h3⟩ := h.ex
  exact ⟨⟨wa, fa, s _ _ h1, s _ _ h2, s _ _ h3⟩, h.lt, h.c3, h.M8, h.f1, h.f2⟩
theorem range_get {M j : Nat} {y : V} (h : ((List.range M).map fun i => V.int ((i : Nat) : Int))[j]? = some y) : j < M ∧ y = .int ((j : Nat) : Int) := by
  rw [List.getElem?_map] at h
  obtain ⟨i, hi, rfl⟩ := Option.map_eq_some_iff.mp h
  have hj : j < M := by
    have := (List.getElem?_eq_some_iff.mp hi).1
    simpa using this
  rw [List.getElem?_range hj] at hi
  cases hi
  exact ⟨hj, rfl⟩
theorem rangeF_get {M f j : Nat} {y : V} (h : ((List.range f).map fun i => V.int ((M + i : Nat) : Int))[j]? = some y) : j < f ∧ y = .int ((M + j : Nat) : Int) := by
  rw [List.getElem?_map] at h
  obtain ⟨i, hi, rfl⟩ := Option.map_eq_some_iff.mp h
  have hj : j < f := by
    have := (List.getElem?_eq_some_iff.mp hi).1
    simpa using this
  rw [List.getElem?_range hj] at hi
  cases hi
  exact ⟨hj, rfl⟩
def spOperand (K : PySem.W.Frag) : Sp := fun vs H Q _ => ∃ (d c kt : Addr) (n cnt M f : Nat), vs = [.ref d, .ref kt] ∧ n < 2 ^ 49 ∧ Deck d c n H ∧ Kt (off d c H) kt cnt M f ∧ ∀ (v : V) (a : Opd) (H' : Hp), Deck d c (n + 3) H' → Ext d c H H' → Dp K H' v (oD a) → OpdOk M a → Q v H'
set_option pp.maxSteps 600 in
theorem c_operand (T : Txt w K mg) : Cal P w K mg base "_law_operand" 3 ["_law_deck_here", "_law_kit"] (spOperand K) := by
  obtain ⟨fd, F⟩ := T.d__law_operand
  have C__law_draw := c_draw (P := P) (base := base) T
  have C__law_word := c_word (P := P) (base := base) T
  have C__law_pick := c_pick (P := P) (base := base) T
  refine ⟨⟨fd, F.ok sc__law_operand (fun vs H Q E h => ?_) (fun cdv A outer s H vs Q E hr h => ?_), F.bindsN fun _ _ _ _ _ _ us hl => match us, hl with | [_, _], _ => rfl⟩, T.g _ (by decide), F.kp⟩
  · obtain ⟨d, c, kt, n, cnt, M, f, rfl, _⟩ := h
    rfl
  obtain ⟨d, c, kt, n, cnt, M, f, rfl, hn, dk, hk, q⟩ := h
  have hu := hu_of hr
  refine ⟨_, PSs.nox (pss_one (ps_ret (pe_ifExp (pt_cmpR op_eq (pe_cal C__law_draw (hr.mono (by omega)) (by rfl) (pa_cons (pv 0) (pa_cons pe_int pa_nil))) pe_int (nomark _)) (pe_cal C__law_word (hr.mono (by omega)) (by rfl) (pa_cons (pv 0) pa_nil)) (pe_tup (pa_cons pe_str (pa_cons (pe_cal C__law_pick (hr.mono (by omega)) (by rfl) (pa_cons (pv 0) (pa_cons (pe_dget hu (pv 1) pe_str (fun _ _ => rfl)) pa_nil))) pa_nil)))))), ?_⟩
  refine ⟨.ref d, rfl, d, c, n, 3, rfl, by decide, by decide, by omega, dk, fun r H1 r0 r1 dk1 X1 => ⟨rfl, _, rfl, ?_⟩⟩
  have hk1 := hk.mono X1
  cases hb : decide (V.int r = V.int 0) with
  | true => exact iteT ⟨.ref d, rfl, d, c, n + 1, rfl, by omega, dk1, fun i H2 i0 i1 dk2 X2 => q _ (.w i) _ (dk2.up (by omega)) (X1.trans X2) (.int i) ⟨i0, i1⟩⟩
  | false =>
    obtain ⟨wa, fa, e1, e2, e3⟩ := hk1.ex
    have hM := hk.lt
    have hM8 := hk.M8
    refine iteF ⟨.ref d, rfl, .ref kt, rfl, kt, _, rfl, DGet.k (k := Sum.inr "words") (off_at e1).1, d, c, wa, n + 1, _, rfl, dk1, by omega, .inl (.inl e2), ?_, ?_, fun j y H2 hy dk2 X2 => ⟨(by show 2 ≤ sizeLine; decide), fun p hp => ?_⟩⟩
    · rw [List.length_map, List.length_range]; omega
    · rw [List.length_map, List.length_range]; omega
    obtain ⟨hj, rfl⟩ := range_get hy
    exact q _ (.v j) _ ((dk2.new hp).up (by omega)) ((X1.trans X2).trans (Ext.new hp)) (dp_tupN hp (.cons (.str _) (.cons (.int _) .nil))) hj
end
end K52

set_option maxHeartbeats 4000000
namespace K52
open PySem PySem.Spec PyProof.Rows L2 HG P52
/-! ### where things are while a graph is drawn -/
structure S52 (K : PySem.W.Frag) (d c wd kt : Addr) (cnt M f n : Nat) (H0 H : Hp) : Prop where
  dk : Deck d c n H
  X : Ext d c H0 H
  wd : Wd K (off d c H) wd
  kt : Kt (off d c H) kt cnt M f
section
variable {K : PySem.W.Frag} {d c wd kt : Addr} {cnt M f n m : Nat} {H0 H H' : Hp}
theorem ext_all (X : Ext d c H H') : Same (off d c H) H' := fun b o e => off_same b o (X b o e)
theorem S52.step (S : S52 K d c wd kt cnt M f n H0 H) (dk : Deck d c m H') (X : Ext d c H H') : S52 K d c wd kt cnt M f m H0 H' := ⟨dk, S.X.trans X, S.wd.mono X, S.kt.mono X⟩
theorem S52.same (S : S52 K d c wd kt cnt M f n H0 H) (s : Same H H') : S52 K d c wd kt cnt M f n H0 H' := S.step (S.dk.same s) (off_same_mono s)
theorem S52.new {p : Addr} {o : HO} (S : S52 K d c wd kt cnt M f n H0 H) (hp : H p = none) : S52 K d c wd kt cnt M f n H0 (upd H p o) := S.same (same_new hp)
theorem S52.words (S : S52 K d c wd kt cnt M f n H0 H) : ∃ wa xs, DGet H kt (.str "words") (some (.ref wa)) ∧ SqL K (off d c H) wa xs ∧ 0 < xs.length ∧ xs.length ≤ 1000 ∧ (∀ (j : Nat) (y : V), xs[j]? = some y → ∃ i : Nat, i < M ∧ y = .int (i : Int)) ∧ xs = (List.range M).map fun i => V.int ((i : Nat) : Int) := by
  obtain ⟨wa, fa, e1, e2, e3⟩ := S.kt.ex
  have h1 := S.kt.lt
  have h2 := S.kt.M8
  exact ⟨wa, _, DGet.k (k := Sum.inr "words") (off_at e1).1, .inl (.inl e2), by rw [List.length_map, List.length_range]; omega, by rw [List.length_map, List.length_range]; omega, fun j y hy => ⟨j, range_get hy⟩, rfl⟩
theorem S52.count (S : S52 K d c wd kt cnt M f n H0 H) : DGet H kt (.str "count") (some (.int (cnt : Int))) := by
  obtain ⟨wa, fa, e1, e2, e3⟩ := S.kt.ex
  exact DGet.k (k := Sum.inr "count") (off_at e1).1
theorem S52.funcs (S : S52 K d c wd kt cnt M f n H0 H) : ∃ fa xs, DGet H kt (.str "funcs") (some (.ref fa)) ∧ SqL K (off d c H) fa xs ∧ 0 < xs.length ∧ xs.length ≤ 1000 ∧ (∀ (j : Nat) (y : V), xs[j]? = some y → ∃ i : Nat, i < M + f ∧ y = .int (i : Int)) ∧ xs.length ≤ 2 := by
  obtain ⟨wa, fa, e1, e2, e3⟩ := S.kt.ex
  have h1 := S.kt.f1
  have h2 := S.kt.f2
  refine ⟨fa, _, DGet.k (k := Sum.inr "funcs") (off_at e1).1, .inl (.inl e3), by rw [List.length_map, List.length_range]; omega, by rw [List.length_map, List.length_range]; omega, fun j y hy => ?_, by rw [List.length_map, List.length_range]; omega⟩
  obtain ⟨hj, e⟩ := rangeF_get hy
  exact ⟨M + j, by omega, e⟩
theorem S52.cells (S : S52 K d c wd kt cnt M f n H0 H) : ∃ ce xs, DGet H wd (.str "cells") (some (.ref ce)) ∧ SqL K (off d c H) ce xs ∧ 0 < xs.length ∧ xs.length ≤ 1000 ∧ ∀ (j : Nat) (y : V), xs[j]? = some y → ∃ z, Nm z ∧ y = .str z := by
  obtain ⟨ca, ce, ar, h, cs, as, cvs, avs, es, e1, e2, e3, e4, e5, e6, l1, o1, l2, o2, l3, o3, o4⟩ := S.wd.ex
  refine ⟨ce, _, DGet.k (k := Sum.inr "cells") (off_at e1).1, .inl (.inl e4), by rw [List.length_map]; omega, by rw [List.length_map]; omega, fun j y hy => ?_⟩
  rw [List.getElem?_map] at hy
  obtain ⟨z, hz, rfl⟩ := Option.map_eq_some_iff.mp hy
  exact ⟨z, o2 z (List.mem_of_getElem? hz), rfl⟩
theorem S52.holder (S : S52 K d c wd kt cnt M f n H0 H) : ∃ z, DGet H wd (.str "holder") (some (.str z)) ∧ Nm z := by
  obtain ⟨ca, ce, ar, h, cs, as, cvs, avs, es, e1, e2, e3, e4, e5, e6, l1, o1, l2, o2, l3, o3, o4⟩ := S.wd.ex
  exact ⟨h, DGet.k (k := Sum.inr "holder") (off_at e1).1, o4⟩
theorem S52.arrays (S : S52 K d c wd kt cnt M f n H0 H) : ∃ ar xs, DGet H wd (.str "arrays") (some (.ref ar)) ∧ SqL K (off d c H) ar xs ∧ 0 < xs.length ∧ xs.length ≤ 1000 ∧ ∀ (j : Nat) (y : V), xs[j]? = some y → ∃ p : Str × Nat, Nm p.1 ∧ Dp K (off d c H) y (prD p) := by
  obtain ⟨ca, ce, ar, h, cs, as, cvs, avs, es, e1, e2, e3, e4, e5, e6, l1, o1, l2, o2, l3, o3, o4⟩ := S.wd.ex
  have hl := dpAll_len e6
  rw [List.length_map] at hl
  refine ⟨ar, _, DGet.k (k := Sum.inr "arrays") (off_at e1).1, .inl (.inl e5), by omega, by omega, fun j y hy => ?_⟩
  obtain ⟨p, hp, hyp⟩ := dpAll_map_get e6 hy
  exact ⟨p, o3 p (List.mem_of_getElem? hp), hyp⟩
theorem S52.calls (S : S52 K d c wd kt cnt M f n H0 H) : ∃ ca xs, DGet H wd (.str "calls") (some (.ref ca)) ∧ SqL K (off d c H) ca xs ∧ 0 < xs.length ∧ xs.length ≤ 1000 ∧ (∀ (y : V), y ∈ xs → ∃ p : Str × Nat, Nm p.1 ∧ p.2 ≤ 2 ∧ Dp K (off d c H) y (prD p)) ∧ (cutV xs (some 1) (some 3)).length = 2 := by
  obtain ⟨ca, ce, ar, h, cs, as, cvs, avs, es, e1, e2, e3, e4, e5, e6, l1, o1, l2, o2, l3, o3, o4⟩ := S.wd.ex
  have hl := dpAll_len e3
  rw [List.length_map] at hl
  refine ⟨ca, _, DGet.k (k := Sum.inr "calls") (off_at e1).1, .inl (.inl e2), by omega, by omega, fun y hy => ?_, ?_⟩
  · obtain ⟨i, hi⟩ := List.getElem?_of_mem hy
    obtain ⟨p, hp, hyp⟩ := dpAll_map_get e3 hi
    have ok := o1 p (List.mem_of_getElem? hp)
    exact ⟨p, ok.1, ok.2, hyp⟩
  · unfold cutV
    rw [show HT.sIx cvs.length 0 (some 1) = 1 by rw [show (some (1 : Int)) = some ((1 : Nat) : Int) from rfl, HT.sIx_nat]; omega, show HT.sIx cvs.length cvs.length (some 3) = 3 by rw [show (some (3 : Int)) = some ((3 : Nat) : Int) from rfl, HT.sIx_nat]; omega, List.length_take, List.length_drop]
    omega
theorem cutV_sub {xs : List V} {lo hi : Option Int} {y : V} (h : y ∈ cutV xs lo hi) : y ∈ xs := by
  unfold cutV at h
  exact List.mem_of_mem_drop (List.mem_of_mem_take h)
end
end K52

set_option maxHeartbeats 4000000
namespace K52
open PySem PySem.Spec PyProof.Rows L2 HG P52
def spOther (K : PySem.W.Frag) : Sp := fun vs H Q _ => ∃ (d c wd kt : Addr) (n cnt M f : Nat) (v1 v2 : V) (a1 a2 : Opd), vs = [.ref d, .ref wd, .ref kt, v1, v2] ∧ n < 2 ^ 48 ∧ S52 K d c wd kt cnt M f n H H ∧ Dp K H v1 (oD a1) ∧ Dp K H v2 (oD a2) ∧ OpdOk M a1 ∧ OpdOk M a2 ∧
  ∀ (v : V) (R : Rw) (H' : Hp), S52 K d c wd kt cnt M f (n + 20) H H' → Dp K H' v R.D → RwOk (M + f) R → Q v H'
theorem opd_up {M N : Nat} {a : Opd} (h : OpdOk M a) (hN : M ≤ N) : OpdOk N a := by
  cases a with
  | w i => exact h
  | v n => exact Nat.lt_of_lt_of_le h hN
theorem last_range {M : Nat} (h : 0 < M) : atI ((List.range M).map fun i => V.int ((i : Nat) : Int)) (-1) = some (.int ((M - 1 : Nat) : Int)) := by
  unfold atI ixN
  rw [List.length_map, List.length_range]
  have h1 : ¬ (0 ≤ (-1 : Int)) := by omega
  have h2 : -(M : Int) ≤ -1 := by omega
  rw [if_neg h1, if_pos h2]
  have h3 : (-1 + (M : Int)).toNat = M - 1 := by omega
  show ((List.range M).map fun i => V.int ((i : Nat) : Int))[(-1 + (M : Int)).toNat]? = _
  rw [h3, List.getElem?_map, List.getElem?_range (by omega)]
  rfl
theorem nm_same : Nm ("same" : Str) := ⟨by decide +kernel, by decide +kernel⟩
section
variable {P : Program} {w : World} {K : PySem.W.Frag} {mg : Str → Option Value} {base : Heap}
set_option pp.maxSteps 600 in
theorem c_other (T : Txt w K mg) : Cal P w K mg base "_law_other_row" 3 ["_law_deck_here", "_law_world_here", "_law_kit", "_law_one", "_law_two"] (spOther K) := by
  obtain ⟨fd, F⟩ := T.d__law_other_row
  have C__law_draw := c_draw (P := P) (base := base) T
  have C__law_pick := c_pick (P := P) (base := base) T
  refine ⟨⟨fd, F.ok sc__law_other_row (fun vs H Q E h => ?_) (fun cdv A outer s H vs Q E hr h => ?_), F.bindsN fun _ _ _ _ _ _ us hl => match us, hl with | [_, _, _, _, _], _ => rfl⟩, T.g _ (by decide), F.kp⟩
  · obtain ⟨d, c, wd, kt, n, cnt, M, f, v1, v2, a1, a2, rfl, _⟩ := h
    rfl
  obtain ⟨d, c, wd, kt, n, cnt, M, f, v1, v2, a1, a2, rfl, hn, S, h1, h2, o1, o2, q⟩ := h
  have hu := hu_of hr
  refine ⟨_, PSs.nox (pss_cons (ps_par3 (i := 5) (j := 6) (l := 7) rfl sc__law_other_row.nd rfl rfl rfl (by decide) (by decide) (by decide) rfl rfl rfl (pa_cons (pe_cal C__law_draw (hr.mono (by omega)) (by rfl) (pa_cons (pv 0) (pa_cons pe_int pa_nil))) (pa_cons (pe_cal C__law_pick (hr.mono (by omega)) (by rfl) (pa_cons (pv 0) (pa_cons (pe_dget hu (pv 2) pe_str (fun _ _ => rfl)) pa_nil))) (pa_cons (pe_cal C__law_pick (hr.mono (by omega)) (by rfl) (pa_cons (pv 0) (pa_cons (pe_dget hu (pv 2) pe_str (fun _ _ => rfl)) pa_nil))) pa_nil))) (by rfl))
      (pss_cons (ps_set (i := 8) sc__law_other_row.nd rfl (.inl rfl) (pe_lst (pa_cons (pe_tup (pa_cons pe_str (pa_cons (pe_cal C__law_pick (hr.mono (by omega)) (by rfl) (pa_cons (pv 0) (pa_cons (pe_dget hu (pv 1) pe_str (fun _ _ => rfl)) pa_nil))) (pa_cons (pv 3) pa_nil)))) (pa_cons (pe_tup (pa_cons pe_str (pa_cons (pv 3) pa_nil))) (pa_cons (pe_tup (pa_cons pe_str (pa_cons (pe_dget hu (pv 1) pe_str (fun _ _ => rfl)) (pa_cons (pe_tup (pa_cons pe_str (pa_cons (pv 6) pa_nil))) pa_nil)))) pa_nil)))))
      (pss_cons (ps_set (i := 8) sc__law_other_row.nd rfl (.inl rfl) (pe_op op_cat (pv 8) (pe_op op_rep (pe_lst (pa_cons (pe_tup (pa_cons pe_str (pa_cons (pe_ix (ix_P (K := K) rfl) (pe_cal C__law_pick (hr.mono (by omega)) (by rfl) (pa_cons (pv 0) (pa_cons (pe_dget hu (pv 1) pe_str (fun _ _ => rfl)) pa_nil))) pe_int (fun _ _ => rfl)) (pa_cons (pv 3) (pa_cons (pv 4) pa_nil))))) pa_nil)) pe_int)))
      (pss_cons (ps_set (i := 8) sc__law_other_row.nd rfl (.inl rfl) (pe_op op_cat (pv 8) (pe_lst (pa_cons (pe_tup (pa_cons pe_str (pa_cons (pv 6) (pa_cons (pe_tup (pa_cons pe_str (pa_cons (pe_ix (ix_P (K := K) rfl) (pe_cal C__law_pick (hr.mono (by omega)) (by rfl) (pa_cons (pv 0) (pa_cons (pe_slice (sl_listK (K := K) rfl) (pe_dget hu (pv 1) pe_str (fun _ _ => rfl)) (po_some pe_int) (po_some pe_int)) pa_nil))) pe_int (fun _ _ => rfl)) pa_nil))) pa_nil)))) (pa_cons (pe_tup (pa_cons pe_str (pa_cons (pv 6) (pa_cons (pv 7) pa_nil)))) pa_nil)))))
      (pss_one (ps_ret (pe_ix (ix_listK (K := K) rfl) (pe_op op_cat (pv 8) (pe_lst (pa_cons (pe_tup (pa_cons pe_str (pa_cons (pv 6) (pa_cons (pe_dget hu (pv 1) pe_str (fun _ _ => rfl)) pa_nil)))) (pa_cons (pe_tup (pa_cons pe_str (pa_cons (pe_ix (ix_listK (K := K) rfl) (pe_dget hu (pv 2) pe_str (fun _ _ => rfl)) (pe_un un_neg pe_int) (fun _ _ => rfl)) (pa_cons pe_str (pa_cons (pe_tup (pa_cons pe_str (pa_cons (pv 6) pa_nil))) (pa_cons (pe_tup (pa_cons pe_str (pa_cons (pv 7) pa_nil))) pa_nil)))))) pa_nil)))) (pv 5) (fun _ _ => rfl)))))))), ?_⟩
  have dk0 := S.dk
  refine ⟨.ref d, rfl, d, c, _, 9, rfl, by decide, by decide, by omega, S.dk, fun r1 H1 r01 r11 dk1 X1 => ?_⟩
  obtain ⟨way, rfl⟩ := Int.eq_ofNat_of_zero_le r01
  have S1 := S.step dk1 X1
  have k1 := ext_kt S.dk X1
  obtain ⟨pa2, xs2, dg2, sq2, lo2, hi2, pk2, _⟩ := S1.funcs
  refine ⟨.ref d, rfl, .ref kt, rfl, kt, _, rfl, dg2, d, c, pa2, _, xs2, rfl, S1.dk, by omega, sq2, lo2, hi2, fun j2 y2 H2 hy2 dk2 X2 => ?_⟩
  obtain ⟨jf, hjf, rfl⟩ := pk2 j2 y2 hy2
  have S2 := S1.step dk2 X2
  have k2 := ext_kt S1.dk X2
  obtain ⟨pa3, xs3, dg3, sq3, lo3, hi3, pk3, _⟩ := S2.funcs
  refine ⟨.ref d, rfl, .ref kt, rfl, kt, _, rfl, dg3, d, c, pa3, _, xs3, rfl, S2.dk, by omega, sq3, lo3, hi3, fun j3 y3 H3 hy3 dk3 X3 => ?_⟩
  obtain ⟨jg, hjg, rfl⟩ := pk3 j3 y3 hy3
  have S3 := S2.step dk3 X3
  have k3 := ext_kt S2.dk X3
  refine ⟨_, _, _, rfl, ?_⟩
  obtain ⟨pa4, xs4, dg4, sq4, lo4, hi4, pk4⟩ := S3.cells
  refine ⟨.ref d, rfl, .ref wd, rfl, wd, _, rfl, dg4, d, c, pa4, _, xs4, rfl, S3.dk, by omega, sq4, lo4, hi4, fun j4 y4 H4 hy4 dk4 X4 => ?_⟩
  obtain ⟨zc, hzc, rfl⟩ := pk4 j4 y4 hy4
  have S4 := S3.step dk4 X4
  have k4 := ext_kt S3.dk X4
  refine ⟨v1, rfl, (by show 3 ≤ sizeLine; decide), fun t1 ht1 => ?_⟩
  have s5 := same_new (o := .tup [.str "store", .str zc, v1]) ht1
  have S5 := S4.same s5
  have k5 := KT.of s5
  have gt1 : Dp K (upd H4 t1 (.tup [.str "store", .str zc, v1])) (.ref t1) ((Rw.st zc a1).D) := dp_tupN ht1 (.cons (.str _) (.cons (.str _) (.cons (dp_kt (k1.trans (k2.trans (k3.trans k4))) _ _ (nlO a1) h1) .nil)))
  generalize upd H4 t1 (.tup [.str "store", .str zc, v1]) = H5 at s5 S5 k5 gt1 ⊢
  refine ⟨v1, rfl, (by show 2 ≤ sizeLine; decide), fun t2 ht2 => ?_⟩
  have s6 := same_new (o := .tup [.str "print", v1]) ht2
  have S6 := S5.same s6
  have k6 := KT.of s6
  have gt2 : Dp K (upd H5 t2 (.tup [.str "print", v1])) (.ref t2) ((Rw.pr a1).D) := dp_tupN ht2 (.cons (.str _) (.cons (dp_kt (k1.trans (k2.trans (k3.trans (k4.trans k5)))) _ _ (nlO a1) h1) .nil))
  generalize upd H5 t2 (.tup [.str "print", v1]) = H6 at s6 S6 k6 gt2 ⊢
  obtain ⟨zh, dgh, hzh⟩ := S6.holder
  refine ⟨.ref wd, rfl, wd, _, rfl, dgh, _, rfl, (by show 2 ≤ sizeLine; decide), fun t3 ht3 => ?_⟩
  have s7 := same_new (o := .tup [.str "var", .int (jf : Int)]) ht3
  have S7 := S6.same s7
  have k7 := KT.of s7
  have gt3 : Dp K (upd H6 t3 (.tup [.str "var", .int (jf : Int)])) (.ref t3) (oD (.v jf)) := dp_tupN ht3 (.cons (.str _) (.cons (.int _) .nil))
  generalize upd H6 t3 (.tup [.str "var", .int (jf : Int)]) = H7 at s7 S7 k7 gt3 ⊢
  refine ⟨(by show 3 ≤ sizeLine; decide), fun t4 ht4 => ?_⟩
  have s8 := same_new (o := .tup [.str "store", .str zh, .ref t3]) ht4
  have S8 := S7.same s8
  have k8 := KT.of s8
  have gt4 : Dp K (upd H7 t4 (.tup [.str "store", .str zh, .ref t3])) (.ref t4) ((Rw.st zh (.v jf)).D) := dp_tupN ht4 (.cons (.str _) (.cons (.str _) (.cons gt3 .nil)))
  generalize upd H7 t4 (.tup [.str "store", .str zh, .ref t3]) = H8 at s8 S8 k8 gt4 ⊢
  refine ⟨(by show 3 ≤ sizeLine; decide), fun l1 hl1 => ?_⟩
  have nl1 := S8.dk.has hl1
  have s9 := same_new (o := .lst [.ref t1, .ref t2, .ref t4]) hl1
  have S9 := S8.same s9
  have k9 := KT.of s9
  have el1 : (upd H8 l1 (.lst [.ref t1, .ref t2, .ref t4])) l1 = some (.lst [.ref t1, .ref t2, .ref t4]) := upd_same
  generalize upd H8 l1 (.lst [.ref t1, .ref t2, .ref t4]) = H9 at s9 S9 k9 el1 ⊢
  obtain ⟨pa10, xs10, dg10, sq10, lo10, hi10, pk10⟩ := S9.arrays
  refine ⟨.ref l1, rfl, .ref d, rfl, .ref wd, rfl, wd, _, rfl, dg10, d, c, pa10, _, xs10, rfl, S9.dk, by omega, sq10, lo10, hi10, fun j10 y10 H10 hy10 dk10 X10 => ?_⟩
  obtain ⟨pA, hpA, gA⟩ := pk10 j10 y10 hy10
  have S10 := S9.step dk10 X10
  have k10 := ext_kt S9.dk X10
  have el1 := X10.at nl1.1 nl1.2 el1
  have gA := dp_mono (ext_all X10) _ _ gA
  refine ⟨_, 0, _, gA, rfl, rfl, fun z hz => ?_⟩
  cases hz
  refine ⟨v1, rfl, v2, rfl, (by show 4 ≤ sizeLine; decide), fun t5 ht5 => ?_⟩
  have s11 := same_new (o := .tup [.str "write", .str pA.1, v1, v2]) ht5
  have S11 := S10.same s11
  have k11 := KT.of s11
  have el1 := s11 _ _ el1
  have gt5 : Dp K (upd H10 t5 (.tup [.str "write", .str pA.1, v1, v2])) (.ref t5) ((Rw.wr pA.1 a1 a2).D) := dp_tupN ht5 (.cons (.str _) (.cons (.str _) (.cons (dp_kt (k1.trans (k2.trans (k3.trans (k4.trans (k5.trans (k6.trans (k7.trans (k8.trans (k9.trans k10))))))))) _ _ (nlO a1) h1) (.cons (dp_kt (k1.trans (k2.trans (k3.trans (k4.trans (k5.trans (k6.trans (k7.trans (k8.trans (k9.trans k10))))))))) _ _ (nlO a2) h2) .nil))))
  generalize upd H10 t5 (.tup [.str "write", .str pA.1, v1, v2]) = H11 at s11 S11 k11 el1 gt5 ⊢
  refine ⟨(by show 1 ≤ sizeLine; decide), fun l2 hl2 => ?_⟩
  have nl2 := S11.dk.has hl2
  have s12 := same_new (o := .lst [.ref t5]) hl2
  have S12 := S11.same s12
  have k12 := KT.of s12
  have el1 := s12 _ _ el1
  have el2 : (upd H11 l2 (.lst [.ref t5])) l2 = some (.lst [.ref t5]) := upd_same
  generalize upd H11 l2 (.lst [.ref t5]) = H12 at s12 S12 k12 el1 el2 ⊢
  refine ⟨l2, 2, _, rfl, rfl, el2, by decide, by decide, (by show 1 * 2 ≤ sizeLine; decide), fun l3 hl3 => ?_⟩
  generalize eH13 : upd H12 l3 _ = H13
  have eH13 : H13 = upd H12 l3 (.lst [.ref t5, .ref t5]) := eH13.symm
  have nl3 := S12.dk.has hl3
  have s13 : Same H12 H13 := by rw [eH13]; exact same_new hl3
  have S13 := S12.same s13
  have k13 := KT.of s13
  have el1 := s13 _ _ el1
  have el3 : H13 l3 = some (.lst [.ref t5, .ref t5]) := by rw [eH13]; exact upd_same
  refine ⟨l1, l3, _, _, rfl, rfl, el1, el3, (by show 5 ≤ sizeLine; decide), fun l4 hl4 => ?_⟩
  generalize eH14 : upd H13 l4 _ = H14
  have eH14 : H14 = upd H13 l4 (.lst [.ref t1, .ref t2, .ref t4, .ref t5, .ref t5]) := eH14.symm
  have nl4 := S13.dk.has hl4
  have s14 : Same H13 H14 := by rw [eH14]; exact same_new hl4
  have S14 := S13.same s14
  have k14 := KT.of s14
  have el4 : H14 l4 = some (.lst [.ref t1, .ref t2, .ref t4, .ref t5, .ref t5]) := by rw [eH14]; exact upd_same
  refine ⟨.ref l4, rfl, .int (jf : Int), rfl, .ref d, rfl, ?_⟩
  obtain ⟨pca, xca, dgca, sqca, _, _, pkca, lca⟩ := S14.calls
  refine ⟨.ref wd, rfl, wd, _, rfl, dgca, 1, rfl, 3, rfl, pca, _, rfl, offL sqca, fun l5 hl5 => ?_⟩
  have nl5 := S14.dk.has hl5
  have s15 := same_new (o := .lst (cutV xca (some 1) (some 3))) hl5
  have S15 := S14.same s15
  have k15 := KT.of s15
  have el5 : (upd H14 l5 (.lst (cutV xca (some 1) (some 3)))) l5 = some (.lst (cutV xca (some 1) (some 3))) := upd_same
  have el4 := s15 _ _ el4
  generalize upd H14 l5 (.lst (cutV xca (some 1) (some 3))) = H15 at s15 S15 k15 el5 el4 ⊢
  refine ⟨d, c, l5, _, _, rfl, S15.dk, by omega, .inl (.inl (by rw [off_get nl5.1 nl5.2]; exact el5)), by omega, by omega, fun j16 y16 H16 hy16 dk16 X16 => ?_⟩
  obtain ⟨pC, hpC, _, gC⟩ := pkca y16 (cutV_sub (List.mem_of_getElem? hy16))
  have gC := dp_mono (ext_all ((off_same_mono s15).trans X16)) _ _ gC
  have S16 := S15.step dk16 X16
  have k16 := ext_kt S15.dk X16
  have el4 := X16.at nl4.1 nl4.2 el4
  refine ⟨_, 0, _, gC, rfl, rfl, fun z hz => ?_⟩
  cases hz
  refine ⟨(by show 2 ≤ sizeLine; decide), fun t6 ht6 => ?_⟩
  have s17 := same_new (o := .tup [.str "func", .str pC.1]) ht6
  have S17 := S16.same s17
  have k17 := KT.of s17
  have el4 := s17 _ _ el4
  have gt6 : Dp K (upd H16 t6 (.tup [.str "func", .str pC.1])) (.ref t6) (.tuple [.str "func", .str pC.1]) := dp_tupN ht6 (.cons (.str _) (.cons (.str _) .nil))
  generalize upd H16 t6 (.tup [.str "func", .str pC.1]) = H17 at s17 S17 k17 el4 gt6 ⊢
  refine ⟨(by show 3 ≤ sizeLine; decide), fun t7 ht7 => ?_⟩
  have s18 := same_new (o := .tup [.str "const", .int (jf : Int), .ref t6]) ht7
  have S18 := S17.same s18
  have k18 := KT.of s18
  have el4 := s18 _ _ el4
  have gt7 : Dp K (upd H17 t7 (.tup [.str "const", .int (jf : Int), .ref t6])) (.ref t7) ((Rw.cf jf pC.1).D) := dp_tupN ht7 (.cons (.str _) (.cons (.int _) (.cons gt6 .nil)))
  generalize upd H17 t7 (.tup [.str "const", .int (jf : Int), .ref t6]) = H18 at s18 S18 k18 el4 gt7 ⊢
  refine ⟨_, rfl, _, rfl, (by show 3 ≤ sizeLine; decide), fun t8 ht8 => ?_⟩
  have s19 := same_new (o := .tup [.str "copy", .int (jf : Int), .int (jg : Int)]) ht8
  have S19 := S18.same s19
  have k19 := KT.of s19
  have el4 := s19 _ _ el4
  have gt8 : Dp K (upd H18 t8 (.tup [.str "copy", .int (jf : Int), .int (jg : Int)])) (.ref t8) ((Rw.cp jf jg).D) := dp_tupN ht8 (.cons (.str _) (.cons (.int _) (.cons (.int _) .nil)))
  generalize upd H18 t8 (.tup [.str "copy", .int (jf : Int), .int (jg : Int)]) = H19 at s19 S19 k19 el4 gt8 ⊢
  refine ⟨(by show 2 ≤ sizeLine; decide), fun l6 hl6 => ?_⟩
  have nl6 := S19.dk.has hl6
  have s20 := same_new (o := .lst [.ref t7, .ref t8]) hl6
  have S20 := S19.same s20
  have k20 := KT.of s20
  have el4 := s20 _ _ el4
  have el6 : (upd H19 l6 (.lst [.ref t7, .ref t8])) l6 = some (.lst [.ref t7, .ref t8]) := upd_same
  generalize upd H19 l6 (.lst [.ref t7, .ref t8]) = H20 at s20 S20 k20 el4 el6 ⊢
  refine ⟨l4, l6, _, _, rfl, rfl, el4, el6, (by show 7 ≤ sizeLine; decide), fun l7 hl7 => ?_⟩
  generalize eH21 : upd H20 l7 _ = H21
  have eH21 : H21 = upd H20 l7 (.lst [.ref t1, .ref t2, .ref t4, .ref t5, .ref t5, .ref t7, .ref t8]) := eH21.symm
  have nl7 := S20.dk.has hl7
  have s21 : Same H20 H21 := by rw [eH21]; exact same_new hl7
  have S21 := S20.same s21
  have k21 := KT.of s21
  have el7 : H21 l7 = some (.lst [.ref t1, .ref t2, .ref t4, .ref t5, .ref t5, .ref t7, .ref t8]) := by rw [eH21]; exact upd_same
  obtain ⟨zk, dgk, hzk⟩ := S21.holder
  refine ⟨.ref l7, rfl, _, rfl, .ref wd, rfl, wd, _, rfl, dgk, (by show 3 ≤ sizeLine; decide), fun t9 ht9 => ?_⟩
  have s22 := same_new (o := .tup [.str "load", .int (jf : Int), .str zk]) ht9
  have S22 := S21.same s22
  have k22 := KT.of s22
  have el7 := s22 _ _ el7
  have gt9 : Dp K (upd H21 t9 (.tup [.str "load", .int (jf : Int), .str zk])) (.ref t9) ((Rw.ld jf zk).D) := dp_tupN ht9 (.cons (.str _) (.cons (.int _) (.cons (.str _) .nil)))
  generalize upd H21 t9 (.tup [.str "load", .int (jf : Int), .str zk]) = H22 at s22 S22 k22 el7 gt9 ⊢
  obtain ⟨pw, xw, dgw, sqw, low, _, _, exw⟩ := S22.words
  have hM := S22.kt.lt
  have hlast : atI xw (-1) = some (.int ((M - 1 : Nat) : Int)) := by rw [exw]; exact last_range (by omega)
  refine ⟨.ref kt, rfl, kt, _, rfl, dgw, 1, rfl, pw, xw, _, _, rfl, rfl, offL sqw, hlast, _, rfl, (by show 2 ≤ sizeLine; decide), fun ta hta => ?_⟩
  have s23 := same_new (o := .tup [.str "var", .int (jf : Int)]) hta
  have S23 := S22.same s23
  have k23 := KT.of s23
  have el7 := s23 _ _ el7
  have gta : Dp K (upd H22 ta (.tup [.str "var", .int (jf : Int)])) (.ref ta) (oD (.v jf)) := dp_tupN hta (.cons (.str _) (.cons (.int _) .nil))
  generalize upd H22 ta (.tup [.str "var", .int (jf : Int)]) = H23 at s23 S23 k23 el7 gta ⊢
  refine ⟨_, rfl, (by show 2 ≤ sizeLine; decide), fun tb htb => ?_⟩
  have s24 := same_new (o := .tup [.str "var", .int (jg : Int)]) htb
  have S24 := S23.same s24
  have k24 := KT.of s24
  have el7 := s24 _ _ el7
  have gtb : Dp K (upd H23 tb (.tup [.str "var", .int (jg : Int)])) (.ref tb) (oD (.v jg)) := dp_tupN htb (.cons (.str _) (.cons (.int _) .nil))
  generalize upd H23 tb (.tup [.str "var", .int (jg : Int)]) = H24 at s24 S24 k24 el7 gtb ⊢
  refine ⟨(by show 5 ≤ sizeLine; decide), fun tc htc => ?_⟩
  have s25 := same_new (o := .tup [.str "op", .int ((M - 1 : Nat) : Int), .str "same", .ref ta, .ref tb]) htc
  have S25 := S24.same s25
  have k25 := KT.of s25
  have el7 := s25 _ _ el7
  have gtc : Dp K (upd H24 tc (.tup [.str "op", .int ((M - 1 : Nat) : Int), .str "same", .ref ta, .ref tb])) (.ref tc) ((Rw.op (M - 1) "same" (.v jf) (.v jg)).D) := dp_tupN htc (.cons (.str _) (.cons (.int _) (.cons (.str _) (.cons (dp_kt k24 _ _ rfl gta) (.cons gtb .nil)))))
  generalize upd H24 tc (.tup [.str "op", .int ((M - 1 : Nat) : Int), .str "same", .ref ta, .ref tb]) = H25 at s25 S25 k25 el7 gtc ⊢
  refine ⟨(by show 2 ≤ sizeLine; decide), fun l8 hl8 => ?_⟩
  have nl8 := S25.dk.has hl8
  have s26 := same_new (o := .lst [.ref t9, .ref tc]) hl8
  have S26 := S25.same s26
  have k26 := KT.of s26
  have el7 := s26 _ _ el7
  have el8 : (upd H25 l8 (.lst [.ref t9, .ref tc])) l8 = some (.lst [.ref t9, .ref tc]) := upd_same
  generalize upd H25 l8 (.lst [.ref t9, .ref tc]) = H26 at s26 S26 k26 el7 el8 ⊢
  refine ⟨l7, l8, _, _, rfl, rfl, el7, el8, (by show 9 ≤ sizeLine; decide), fun l9 hl9 => ?_⟩
  generalize eH27 : upd H26 l9 _ = H27
  have eH27 : H27 = upd H26 l9 (.lst [.ref t1, .ref t2, .ref t4, .ref t5, .ref t5, .ref t7, .ref t8, .ref t9, .ref tc]) := eH27.symm
  have nl9 := S26.dk.has hl9
  have s27 : Same H26 H27 := by rw [eH27]; exact same_new hl9
  have S27 := S26.same s27
  have k27 := KT.of s27
  have el9 : H27 l9 = some (.lst [.ref t1, .ref t2, .ref t4, .ref t5, .ref t5, .ref t7, .ref t8, .ref t9, .ref tc]) := by rw [eH27]; exact upd_same
  have all : DpAll K H27 [.ref t1, .ref t2, .ref t4, .ref t5, .ref t5, .ref t7, .ref t8, .ref t9, .ref tc] (([.st zc a1, .pr a1, .st zh (.v jf), .wr pA.1 a1 a2, .wr pA.1 a1 a2, .cf jf pC.1, .cp jf jg, .ld jf zk, .op (M - 1) "same" (.v jf) (.v jg)] : List Rw).map Rw.D) :=
    .cons (dp_kt (k6.trans (k7.trans (k8.trans (k9.trans (k10.trans (k11.trans (k12.trans (k13.trans (k14.trans (k15.trans (k16.trans (k17.trans (k18.trans (k19.trans (k20.trans (k21.trans (k22.trans (k23.trans (k24.trans (k25.trans (k26.trans k27))))))))))))))))))))) _ _ (nlR _) gt1) (.cons (dp_kt (k7.trans (k8.trans (k9.trans (k10.trans (k11.trans (k12.trans (k13.trans (k14.trans (k15.trans (k16.trans (k17.trans (k18.trans (k19.trans (k20.trans (k21.trans (k22.trans (k23.trans (k24.trans (k25.trans (k26.trans k27)))))))))))))))))))) _ _ (nlR _) gt2) (.cons (dp_kt (k9.trans (k10.trans (k11.trans (k12.trans (k13.trans (k14.trans (k15.trans (k16.trans (k17.trans (k18.trans (k19.trans (k20.trans (k21.trans (k22.trans (k23.trans (k24.trans (k25.trans (k26.trans k27)))))))))))))))))) _ _ (nlR _) gt4) (.cons (dp_kt (k12.trans (k13.trans (k14.trans (k15.trans (k16.trans (k17.trans (k18.trans (k19.trans (k20.trans (k21.trans (k22.trans (k23.trans (k24.trans (k25.trans (k26.trans k27))))))))))))))) _ _ (nlR _) gt5) (.cons (dp_kt (k12.trans (k13.trans (k14.trans (k15.trans (k16.trans (k17.trans (k18.trans (k19.trans (k20.trans (k21.trans (k22.trans (k23.trans (k24.trans (k25.trans (k26.trans k27))))))))))))))) _ _ (nlR _) gt5) (.cons (dp_kt (k19.trans (k20.trans (k21.trans (k22.trans (k23.trans (k24.trans (k25.trans (k26.trans k27)))))))) _ _ (nlR _) gt7) (.cons (dp_kt (k20.trans (k21.trans (k22.trans (k23.trans (k24.trans (k25.trans (k26.trans k27))))))) _ _ (nlR _) gt8) (.cons (dp_kt (k23.trans (k24.trans (k25.trans (k26.trans k27)))) _ _ (nlR _) gt9) (.cons (dp_kt (k26.trans k27) _ _ (nlR _) gtc) .nil))))))))
  have hw9 : way < 9 := by omega
  obtain ⟨y, hy⟩ : ∃ y, ([.ref t1, .ref t2, .ref t4, .ref t5, .ref t5, .ref t7, .ref t8, .ref t9, .ref tc] : List V)[way]? = some y := ⟨_, List.getElem?_eq_getElem (show way < 9 from hw9)⟩
  obtain ⟨R, hR, hyR⟩ := dpAll_map_get all hy
  refine ⟨.int (way : Int), rfl, l9, _, _, _, rfl, rfl, .inl (.inl el9), atI_nat hy, q y R _ ⟨S27.dk.up (by omega), S27.X, S27.wd, S27.kt⟩ hyR ?_⟩
  have hRm := List.mem_of_getElem? hR
  have u1 := opd_up o1 (show M ≤ M + f by omega)
  have u2 := opd_up o2 (show M ≤ M + f by omega)
  simp only [List.mem_cons, List.not_mem_nil, or_false] at hRm
  rcases hRm with rfl | rfl | rfl | rfl | rfl | rfl | rfl | rfl | rfl
  · exact ⟨hzc, u1⟩
  · exact u1
  · exact ⟨hzh, hjf⟩
  · exact ⟨hpA, u1, u2⟩
  · exact ⟨hpA, u1, u2⟩
  · exact ⟨hjf, hpC⟩
  · exact ⟨hjf, hjg⟩
  · exact ⟨hjf, hzk⟩
  · exact ⟨by omega, nm_same, hjf, hjg⟩
end
end K52

set_option maxHeartbeats 4000000
namespace K52
open PySem PySem.Spec PyProof.Rows L2 HG P52
def spFirst (K : PySem.W.Frag) : Sp := fun vs H Q _ => ∃ (d c wd kt : Addr) (n cnt M f : Nat), vs = [.ref d, .ref wd, .ref kt] ∧ n < 2 ^ 48 ∧ S52 K d c wd kt cnt M f n H H ∧
  ∀ (a : Addr) (us : List V) (rows : List Rw) (H' : Hp), S52 K d c wd kt cnt M f (n + 20) H H' → H a = none → H' a = some (.lst us) → DpAll K H' us (rows.map Rw.D) → rows.length ≤ 10 → (∀ R ∈ rows, RwOk (M + f) R) → Q (.ref a) H'
/-- one more row in a list -/
theorem row_step {K : PySem.W.Frag} {d c D p : Addr} {n m N : Nat} {H1 H3 H4 : Hp} {us : List V} {rows : List Rw} {v : V} {R : Rw} (nD : D ≠ d ∧ D ≠ c) (hD : H1 D = none) (hD3 : H3 D = some (.lst us)) (hU : DpAll K H3 us (rows.map Rw.D)) (hok : ∀ R ∈ rows, RwOk N R) (dk3 : Deck d c n H3) (X3 : Ext d c H1 H3) (dk4 : Deck d c m H4) (X4 : Ext d c H3 H4) (hv : Dp K H4 v R.D) (hR : RwOk N R) :
    H4 D = some (.lst us) ∧ DpAll K (upd H4 D (.lst (us ++ [v]))) (us ++ [v]) ((rows ++ [R]).map Rw.D) ∧ (∀ R' ∈ rows ++ [R], RwOk N R') ∧ Deck d c m (upd H4 D (.lst (us ++ [v]))) ∧ Ext d c H1 (upd H4 D (.lst (us ++ [v]))) := by
  have hD4 := X4.at nD.1 nD.2 hD3
  have ke := KT.lst (o := .lst (us ++ [v])) hD4
  refine ⟨hD4, ?_, fun R' h => ?_, dk4.upd nD.1 nD.2, (X3.trans X4).mut hD⟩
  · rw [List.map_append]
    exact dpAll_app (dpAll_kt ((ext_kt dk3 X4).trans ke) _ _ (nlRs rows) hU) (.cons (dp_kt ke _ _ (nlR R) hv) .nil)
  · rcases List.mem_append.mp h with z | z
    · exact hok R' z
    · rw [List.mem_singleton.mp z]
      exact hR
section
variable {P : Program} {w : World} {K : PySem.W.Frag} {mg : Str → Option Value} {base : Heap}
set_option pp.maxSteps 600 in
theorem c_first (T : Txt w K mg) : Cal P w K mg base "_law_first" 3 ["_law_deck_here", "_law_world_here", "_law_kit"] (spFirst K) := by
  obtain ⟨fd, F⟩ := T.d__law_first
  have C__law_word := c_word (P := P) (base := base) T
  have C__law_pick := c_pick (P := P) (base := base) T
  refine ⟨⟨fd, F.ok sc__law_first (fun vs H Q E h => ?_) (fun cdv A outer s H vs Q E hr h => ?_), F.bindsN fun _ _ _ _ _ _ us hl => match us, hl with | [_, _, _], _ => rfl⟩, T.g _ (by decide), F.kp⟩
  · obtain ⟨d, c, wd, kt, n, cnt, M, f, rfl, _⟩ := h
    rfl
  obtain ⟨d, c, wd, kt, n, cnt, M, f, rfl, hn, S, q⟩ := h
  have hu := hu_of hr
  refine ⟨_, PSs.nox (pss_cons (ps_setLc (i := 3) (own := [("_law_v", 4)]) (by rfl) sc__law_first.nd rfl rfl (sw_true rfl rfl rfl (by decide +kernel)) (pi_list (pe_slice (sl_listK (K := K) rfl) (pe_dget hu (pv 2) pe_str (fun _ _ => rfl)) (po_some (pe_dget hu (pv 2) pe_str (fun _ _ => rfl))) po_none)) (blkOk_by (own := [("_law_v", 4)]) (N := N__law_first) (sc := defScope s__law_first) (by decide +kernel)) (fun _ _ _ _ _ => (pg_name (i := 4) sc__law_first.nd rfl (.inl rfl))) (fun _ _ _ _ _ => pts_nil) (fun _ _ _ _ _ => (pe_tup (pa_cons pe_str (pa_cons (pv 4) (pa_cons (pe_cal C__law_word (hr.mono (by omega)) (by rfl) (pa_cons (pv 0) pa_nil)) pa_nil))))))
      (pss_one (ps_ret (pe_op op_cat (pv 3) (pe_lc (own := [("_law_v", 4)]) (by rfl) sc__law_first.nd (pi_list (pe_dget hu (pv 2) pe_str (fun _ _ => rfl))) (blkOk_by (own := [("_law_v", 4)]) (N := N__law_first) (sc := defScope s__law_first) (by decide +kernel)) (fun _ _ _ _ _ => (pg_name (i := 4) sc__law_first.nd rfl (.inl rfl))) (fun _ _ _ _ _ => pts_nil) (fun _ _ _ _ _ => (pe_tup (pa_cons pe_str (pa_cons (pv 4) (pa_cons (pe_tup (pa_cons pe_str (pa_cons (pe_ix (ix_P (K := K) rfl) (pe_cal C__law_pick (hr.mono (by omega)) (by rfl) (pa_cons (pv 0) (pa_cons (pe_slice (sl_listK (K := K) rfl) (pe_dget hu (pv 1) pe_str (fun _ _ => rfl)) (po_some pe_int) (po_some pe_int)) pa_nil))) pe_int (fun _ _ => rfl)) pa_nil))) pa_nil)))))))))), ?_⟩
  obtain ⟨pw, xw, dgw, sqw, low, hiw, pkw, exw⟩ := S.words
  have dgc := S.count
  have hM8 := S.kt.M8
  have hxl : xw.length = M := by rw [exw, List.length_map, List.length_range]
  refine ⟨.ref kt, rfl, kt, _, rfl, dgw, .ref kt, rfl, kt, _, rfl, dgc, _, rfl, pw, xw, rfl, offL sqw, fun p1 hp1 => ?_⟩
  have hcl : (cutV xw (some (cnt : Int)) none).length ≤ 8 := by
    unfold cutV
    rw [List.length_take, List.length_drop]
    omega
  have n1 := S.dk.has hp1
  have S1 := S.new (o := .lst (cutV xw (some (cnt : Int)) none)) hp1
  have e11 : (upd H p1 (.lst (cutV xw (some (cnt : Int)) none))) p1 = some (.lst (cutV xw (some (cnt : Int)) none)) := upd_same
  generalize upd H p1 (.lst (cutV xw (some (cnt : Int)) none)) = H1 at S1 e11 ⊢
  refine ⟨p1, rfl, ⟨_, .inl (.inl e11)⟩, fun D hD => ?_⟩
  have nD := S1.dk.has hD
  refine lc_list (xs := cutV xw (some (cnt : Int)) none) (fun i H3 => ∃ us rows, H3 D = some (.lst us) ∧ DpAll K H3 us (rows.map Rw.D) ∧ rows.length = i ∧ (∀ R ∈ rows, RwOk (M + f) R) ∧ Deck d c (n + i) H3 ∧ Ext d c H1 H3) ⟨[], [], upd_same, .nil, rfl, (fun _ h => nomatch h), S1.dk.new hD, Ext.new hD⟩ ?_ ?_ ?_
  · rintro i H3 _ ⟨us, rows, _, _, _, _, _, X3⟩
    exact .inl (.inl (X3.at n1.1 n1.2 e11))
  · rintro i x H3 hx ⟨us, rows, hD3, hU, hrl, hok, dk3, X3⟩
    obtain ⟨j, hj⟩ := List.getElem?_of_mem (cutV_sub (List.mem_of_getElem? hx))
    obtain ⟨v, hv, rfl⟩ := pkw j x hj
    have hi8 : i < 8 := Nat.lt_of_lt_of_le (List.getElem?_eq_some_iff.mp hx).1 hcl
    refine ⟨rfl, tyes ⟨_, rfl, .ref d, rfl, d, c, _, rfl, by omega, dk3, fun k H4 k0 k1 dk4 X4 => ⟨(by show 3 ≤ sizeLine; decide), fun p5 hp5 => ?_⟩⟩⟩
    obtain ⟨m1, m2, m3, m4, m5⟩ := row_step (p := p5) (R := .cw v k) nD hD hD3 hU hok dk3 X3 (dk4.new (o := .tup [.str "const", .int (v : Int), .int k]) hp5) (X4.trans (Ext.new hp5)) (dp_tupN hp5 (.cons (.str _) (.cons (.int _) (.cons (.int _) .nil)))) ⟨by omega, k0, k1⟩
    have hul := dpAll_len hU
    rw [List.length_map] at hul
    exact ⟨_, m1, small_line (by omega), _, rows ++ [_], upd_same, m2, by rw [List.length_append, hrl]; rfl, m3, m4, m5⟩
  rintro H3 ⟨us, rows, hD3, hU, hrl, hok, dk3, X3⟩
  have S3 := S1.step dk3 X3
  have hrl8 : rows.length ≤ 8 := by omega
  clear hrl
  -- the functions
  obtain ⟨pf, xf, dgf, sqf, lof, hif, pkf, hf2⟩ := S3.funcs
  refine ⟨.ref D, rfl, .ref kt, rfl, kt, _, rfl, dgf, pf, rfl, ⟨_, offL sqf⟩, fun D2 hD2 => ?_⟩
  have nD2 := S3.dk.has hD2
  have nDD : D ≠ D2 := ne_of_none hD3 hD2
  refine lc_list (xs := xf) (fun i H4 => ∃ us2 rows2, H4 D2 = some (.lst us2) ∧ DpAll K H4 us2 (rows2.map Rw.D) ∧ rows2.length = i ∧ (∀ R ∈ rows2, RwOk (M + f) R) ∧ Deck d c (n + 8 + i) H4 ∧ Ext d c H3 H4) ⟨[], [], upd_same, .nil, rfl, (fun _ h => nomatch h), (S3.dk.new hD2).up (by omega), Ext.new hD2⟩ ?_ ?_ ?_
  · rintro i H4 _ ⟨us2, rows2, _, _, _, _, _, X4⟩
    exact offL (X4.sqL sqf)
  · rintro i x H4 hx ⟨us2, rows2, hD4, hU2, hrl2, hok2, dk4, X4⟩
    obtain ⟨v, hv, rfl⟩ := pkf i x hx
    have hi2 : i < 2 := Nat.lt_of_lt_of_le (List.getElem?_eq_some_iff.mp hx).1 hf2
    have S4 := S3.step dk4 X4
    obtain ⟨pca, xca, dgca, sqca, _, _, pkca, lca⟩ := S4.calls
    refine ⟨rfl, tyes ⟨_, rfl, .ref d, rfl, .ref wd, rfl, wd, _, rfl, dgca, 1, rfl, 3, rfl, pca, _, rfl, offL sqca, fun l5 hl5 => ?_⟩⟩
    have nl5 := S4.dk.has hl5
    have s5 := same_new (o := .lst (cutV xca (some 1) (some 3))) hl5
    have S5 := S4.same s5
    have el5 : (upd H4 l5 (.lst (cutV xca (some 1) (some 3)))) l5 = some (.lst (cutV xca (some 1) (some 3))) := upd_same
    generalize upd H4 l5 (.lst (cutV xca (some 1) (some 3))) = H5 at s5 S5 el5 ⊢
    refine ⟨d, c, l5, _, _, rfl, S5.dk, by omega, .inl (.inl (by rw [off_get nl5.1 nl5.2]; exact el5)), by omega, by omega, fun j6 y6 H6 hy6 dk6 X6 => ?_⟩
    obtain ⟨pC, hpC, _, gC⟩ := pkca y6 (cutV_sub (List.mem_of_getElem? hy6))
    have X46 : Ext d c H4 H6 := (off_same_mono s5).trans X6
    have gC := dp_mono (ext_all X46) _ _ gC
    refine ⟨_, 0, _, gC, rfl, rfl, fun z hz => ?_⟩
    cases hz
    refine ⟨(by show 2 ≤ sizeLine; decide), fun t7 ht7 => ⟨(by show 3 ≤ sizeLine; decide), fun t8 ht8 => ?_⟩⟩
    have s78 := (same_new (o := .tup [.str "func", .str pC.1]) ht7).trans (same_new (o := .tup [.str "const", .int (v : Int), .ref t7]) ht8)
    obtain ⟨m1, m2, m3, m4, m5⟩ := row_step (p := t8) (R := .cf v pC.1) nD2 hD2 hD4 hU2 hok2 dk4 X4 (dk6.same s78) (X46.trans (off_same_mono s78)) (dp_tupN ht8 (.cons (.str _) (.cons (.int _) (.cons (dp_tupN ht7 (.cons (.str _) (.cons (.str _) .nil))) .nil)))) ⟨hv, hpC⟩
    have hul := dpAll_len hU2
    rw [List.length_map] at hul
    exact ⟨_, m1, small_line (by omega), _, rows2 ++ [_], upd_same, m2, by rw [List.length_append, hrl2]; rfl, m3, m4, m5⟩
  rintro H4 ⟨us2, rows2, hD4, hU2, hrl2, hok2, dk4, X4⟩
  have S4 := S3.step dk4 X4
  have hul := dpAll_len hU
  have hul2 := dpAll_len hU2
  rw [List.length_map] at hul hul2
  refine ⟨D, D2, us, us2, rfl, rfl, X4.at nD.1 nD.2 hD3, hD4, by rw [sizeLine_eq]; omega, fun p9 hp9 => ?_⟩
  have s9 := same_new (o := .lst (us ++ us2)) hp9
  have S9 := S4.same s9
  refine q p9 (us ++ us2) (rows ++ rows2) _ ⟨S9.dk.up (by omega), S9.X, S9.wd, S9.kt⟩ (grow S4.X S4.dk hp9) upd_same ?_ (by rw [List.length_append]; omega) fun R hR => ?_
  · rw [List.map_append]
    exact dpAll_app (dpAll_kt ((ext_kt S3.dk X4).trans (KT.of s9)) _ _ (nlRs rows) hU) (dpAll_mono s9 _ _ hU2)
  · rcases List.mem_append.mp hR with z | z
    · exact hok R z
    · exact hok2 R z
end
end K52

set_option maxHeartbeats 4000000
namespace K52
open PySem PySem.Spec PyProof.Rows L2 HG P52
def spRow (K : PySem.W.Frag) : Sp := fun vs H Q _ => ∃ (d c wd kt : Addr) (n cnt M f : Nat), vs = [.ref d, .ref wd, .ref kt] ∧ n < 2 ^ 47 ∧ S52 K d c wd kt cnt M f n H H ∧
  ∀ (v : V) (R : Rw) (H' : Hp), S52 K d c wd kt cnt M f (n + 40) H H' → Dp K H' v R.D → RwOk (M + f) R → Q v H'
abbrev ops9 : List Str := ["add", "sub", "mul", "div", "rem", "div", "less", "same", "xor"]
theorem ops9_nm : ∀ z ∈ ops9, Nm z := by
  have : ∀ z ∈ ops9, z.length ≤ 12 ∧ ∀ c ∈ cp z, c < 128 := by decide +kernel
  exact fun z hz => ⟨(this z hz).1, (this z hz).2⟩
theorem S52.up {K : PySem.W.Frag} {d c wd kt : Addr} {cnt M f n m : Nat} {H0 H : Hp} (S : S52 K d c wd kt cnt M f n H0 H) (h : n ≤ m) : S52 K d c wd kt cnt M f m H0 H := ⟨S.dk.up h, S.X, S.wd, S.kt⟩
/-- [v, None, v][j] -/
theorem vnv {v j : Nat} {N : Nat} (hv : v < N) (hj : j < 3) : ∃ o : Option Nat, ([V.int (v : Int), V.non, V.int (v : Int)] : List V)[j]? = some (ovV o) ∧ optOk N o := by
  match j, hj with
  | 0, _ => exact ⟨some v, rfl, fun n h => by cases h; exact hv⟩
  | 1, _ => exact ⟨none, rfl, fun n h => by cases h⟩
  | 2, _ => exact ⟨some v, rfl, fun n h => by cases h; exact hv⟩
section
variable {P : Program} {w : World} {K : PySem.W.Frag} {mg : Str → Option Value} {base : Heap}
set_option pp.maxSteps 600 in
theorem c_row (T : Txt w K mg) : Cal P w K mg base "_law_row" 4 ["_law_deck_here", "_law_world_here", "_law_kit"] (spRow K) := by
  obtain ⟨fd, F⟩ := T.d__law_row
  have C__law_draw := c_draw (P := P) (base := base) T
  have C__law_word := c_word (P := P) (base := base) T
  have C__law_pick := c_pick (P := P) (base := base) T
  have C__law_operand := c_operand (P := P) (base := base) T
  have C__law_other_row := c_other (P := P) (base := base) T
  refine ⟨⟨fd, F.ok sc__law_row (fun vs H Q E h => ?_) (fun cdv A outer s H vs Q E hr h => ?_), F.bindsN fun _ _ _ _ _ _ us hl => match us, hl with | [_, _, _], _ => rfl⟩, T.g _ (by decide), F.kp⟩
  · obtain ⟨d, c, wd, kt, n, cnt, M, f, rfl, _⟩ := h
    rfl
  obtain ⟨d, c, wd, kt, n, cnt, M, f, rfl, hn, S, q⟩ := h
  have hu := hu_of hr
  refine ⟨_, PSs.nox (pss_cons (ps_par3 (i := 3) (j := 4) (l := 5) rfl sc__law_row.nd rfl rfl rfl (by decide) (by decide) (by decide) rfl rfl rfl (pa_cons (pe_cal C__law_draw (hr.mono (by omega)) (by rfl) (pa_cons (pv 0) (pa_cons pe_int pa_nil))) (pa_cons (pe_cal C__law_operand (hr.mono (by omega)) (by rfl) (pa_cons (pv 0) (pa_cons (pv 2) pa_nil))) (pa_cons (pe_cal C__law_operand (hr.mono (by omega)) (by rfl) (pa_cons (pv 0) (pa_cons (pv 2) pa_nil))) pa_nil))) (by rfl))
      (pss_cons (ps_par (i := 6) (j := 7) rfl sc__law_row.nd rfl rfl (by decide) rfl rfl (pa_cons (pe_cal C__law_pick (hr.mono (by omega)) (by rfl) (pa_cons (pv 0) (pa_cons (pe_slice (sl_listK (K := K) rfl) (pe_dget hu (pv 2) pe_str (fun _ _ => rfl)) (po_some (pe_dget hu (pv 2) pe_str (fun _ _ => rfl))) po_none) pa_nil))) (pa_cons (pe_cal C__law_pick (hr.mono (by omega)) (by rfl) (pa_cons (pv 0) (pa_cons (pe_dget hu (pv 2) pe_str (fun _ _ => rfl)) pa_nil))) pa_nil)) (by rfl))
      (pss_cons (ps_set (i := 8) sc__law_row.nd rfl (.inl rfl) (pe_tup (pa_cons pe_str (pa_cons (pv 6) (pa_cons (pe_cal C__law_word (hr.mono (by omega)) (by rfl) (pa_cons (pv 0) pa_nil)) pa_nil)))))
      (pss_cons (ps_if (pt_cmpR (op_in_seqK (K := K) rfl) (pv 3) (pe_tup (pa_cons pe_int (pa_cons pe_int pa_nil))) (by rfl)) (pss_one (ps_set (i := 8) sc__law_row.nd rfl (.inl rfl) (pe_tup (pa_cons pe_str (pa_cons (pv 6) (pa_cons (pe_cal C__law_pick (hr.mono (by omega)) (by rfl) (pa_cons (pv 0) (pa_cons (pe_dget hu (pv 2) pe_str (fun _ _ => rfl)) pa_nil))) pa_nil)))))) (pss_one (ps_if (pt_cmpR (op_in_seqK (K := K) rfl) (pv 3) (pe_tup (pa_cons pe_int (pa_cons pe_int (pa_cons pe_int pa_nil)))) (by rfl)) (pss_one (ps_set (i := 8) sc__law_row.nd rfl (.inl rfl) (pe_tup (pa_cons pe_str (pa_cons (pv 6) (pa_cons (pe_cal C__law_pick (hr.mono (by omega)) (by rfl) (pa_cons (pv 0) (pa_cons (pe_lst (pa_cons pe_str (pa_cons pe_str (pa_cons pe_str (pa_cons pe_str (pa_cons pe_str (pa_cons pe_str (pa_cons pe_str (pa_cons pe_str (pa_cons pe_str pa_nil)))))))))) pa_nil))) (pa_cons (pv 4) (pa_cons (pv 5) pa_nil)))))))) (pss_one (ps_if (pt_cmpR (op_in_seqK (K := K) rfl) (pv 3) (pe_tup (pa_cons pe_int (pa_cons pe_int pa_nil))) (by rfl)) (pss_cons (ps_set (i := 8) sc__law_row.nd rfl (.inl rfl) (pe_tup (pa_cons pe_str (pa_cons (pv 6) (pa_cons (pe_cal C__law_pick (hr.mono (by omega)) (by rfl) (pa_cons (pv 0) (pa_cons (pe_dget hu (pv 1) pe_str (fun _ _ => rfl)) pa_nil))) pa_nil)))))
      (pss_one (ps_if (pt_cmpR op_eq (pv 3) pe_int (nomark _)) (pss_one (ps_set (i := 8) sc__law_row.nd rfl (.inl rfl) (pe_tup (pa_cons pe_str (pa_cons (pv 6) (pa_cons (pe_ix (ix_P (K := K) rfl) (pe_cal C__law_pick (hr.mono (by omega)) (by rfl) (pa_cons (pv 0) (pa_cons (pe_dget hu (pv 1) pe_str (fun _ _ => rfl)) pa_nil))) pe_int (fun _ _ => rfl)) (pa_cons (pv 4) pa_nil))))))) pss_nil))) (pss_one (ps_if (pt_cmpR (op_in_seqK (K := K) rfl) (pv 3) (pe_tup (pa_cons pe_int (pa_cons pe_int pa_nil))) (by rfl)) (pss_cons (ps_asg (pe_cal C__law_pick (hr.mono (by omega)) (by rfl) (pa_cons (pv 0) (pa_cons (pe_dget hu (pv 1) pe_str (fun _ _ => rfl)) pa_nil))) (pg_tupK (K := K) (n := 2) rfl rfl (pgs_cons (pg_name (i := 9) sc__law_row.nd rfl (.inl rfl)) (pgs_cons (pg_name (i := 10) sc__law_row.nd rfl (.inl rfl)) pgs_nil))))
      (pss_one (ps_set (i := 8) sc__law_row.nd rfl (.inl rfl) (pe_tup (pa_cons pe_str (pa_cons (pe_ix (ix_listK (K := K) rfl) (pe_lst (pa_cons (pv 6) (pa_cons pe_non (pa_cons (pv 6) pa_nil)))) (pe_cal C__law_draw (hr.mono (by omega)) (by rfl) (pa_cons (pv 0) (pa_cons pe_int pa_nil))) (fun _ _ => rfl)) (pa_cons (pv 9) (pa_cons (pe_slice (sl_P (K := K) rfl) (pe_tup (pa_cons (pv 4) (pa_cons (pv 5) pa_nil))) po_none (po_some (pv 10))) pa_nil)))))))) (pss_one (ps_if (pt_cmpR op_eq (pv 3) pe_int (nomark _)) (pss_one (ps_set (i := 8) sc__law_row.nd rfl (.inl rfl) (pe_tup (pa_cons pe_str (pa_cons (pe_ix (ix_listK (K := K) rfl) (pe_lst (pa_cons (pv 6) (pa_cons pe_non (pa_cons (pv 6) pa_nil)))) (pe_cal C__law_draw (hr.mono (by omega)) (by rfl) (pa_cons (pv 0) (pa_cons pe_int pa_nil))) (fun _ _ => rfl)) (pa_cons (pv 7) (pa_cons (pe_tup (pa_cons (pv 4) pa_nil)) pa_nil))))))) (pss_one (ps_if (pt_cmpR op_gt (pv 3) pe_int (nomark _)) (pss_one (ps_set (i := 8) sc__law_row.nd rfl (.inl rfl) (pe_cal C__law_other_row (hr.mono (by omega)) (by rfl) (pa_cons (pv 0) (pa_cons (pv 1) (pa_cons (pv 2) (pa_cons (pv 4) (pa_cons (pv 5) pa_nil)))))))) pss_nil)))))))))))
      (pss_one (ps_ret (pv 8))))))), ?_⟩
  refine ⟨.ref d, rfl, d, c, _, 15, rfl, by decide, by decide, by omega, S.dk, fun r1 H1 r10 r11 dk1 X1 => ?_⟩
  obtain ⟨way, rfl⟩ := Int.eq_ofNat_of_zero_le r10
  have S1 := S.step dk1 X1
  refine ⟨.ref d, rfl, .ref kt, rfl, d, c, kt, _, cnt, M, f, rfl, by omega, dk1, S1.kt, fun v1 a1 H2 dk2 X2 g1 o1 => ?_⟩
  have S2 := S1.step dk2 X2
  refine ⟨.ref d, rfl, .ref kt, rfl, d, c, kt, _, cnt, M, f, rfl, by omega, dk2, S2.kt, fun v2 a2 H3 dk3 X3 g2 o2 => ?_⟩
  have S3 := S2.step dk3 X3
  have g1 := dp_kt (ext_kt dk2 X3) _ _ (nlO a1) g1
  have u1 := opd_up o1 (show M ≤ M + f by omega)
  have u2 := opd_up o2 (show M ≤ M + f by omega)
  refine ⟨_, _, _, rfl, ?_⟩
  -- v, f
  obtain ⟨pw, xw, dgw, sqw, low, hiw, pkw, exw⟩ := S3.words
  have dgc := S3.count
  have hM8 := S3.kt.M8
  have hlt := S3.kt.lt
  have hxl : xw.length = M := by rw [exw, List.length_map, List.length_range]
  refine ⟨.ref d, rfl, .ref kt, rfl, kt, _, rfl, dgw, .ref kt, rfl, kt, _, rfl, dgc, _, rfl, pw, xw, rfl, offL sqw, fun p4 hp4 => ?_⟩
  have hcl : (cutV xw (some (cnt : Int)) none).length = M - cnt := by
    unfold cutV
    rw [HT.sIx_nat, show HT.sIx xw.length xw.length none = xw.length from rfl, List.length_take, List.length_drop]
    omega
  have n4 := S3.dk.has hp4
  have s4 := same_new (o := .lst (cutV xw (some (cnt : Int)) none)) hp4
  have S4 := S3.same s4
  have e44 : (upd H3 p4 (.lst (cutV xw (some (cnt : Int)) none))) p4 = some (.lst (cutV xw (some (cnt : Int)) none)) := upd_same
  generalize upd H3 p4 (.lst (cutV xw (some (cnt : Int)) none)) = H4 at s4 S4 e44 ⊢
  refine ⟨d, c, p4, _, _, rfl, S4.dk, by omega, .inl (.inl (by rw [off_get n4.1 n4.2]; exact e44)), by omega, by omega, fun j5 y5 H5 hy5 dk5 X5 => ?_⟩
  obtain ⟨i5, hi5⟩ := List.getElem?_of_mem (cutV_sub (List.mem_of_getElem? hy5))
  obtain ⟨v, hv, rfl⟩ := pkw i5 y5 hi5
  have S5 := S4.step dk5 X5
  obtain ⟨pf, xf, dgf, sqf, lof, hif, pkf, hf2⟩ := S5.funcs
  refine ⟨.ref d, rfl, .ref kt, rfl, kt, _, rfl, dgf, d, c, pf, _, xf, rfl, S5.dk, by omega, sqf, lof, hif, fun j6 y6 H6 hy6 dk6 X6 => ?_⟩
  obtain ⟨jf, hjf, rfl⟩ := pkf j6 y6 hy6
  have S6 := S5.step dk6 X6
  refine ⟨_, _, rfl, ?_⟩
  have k36 : KT H3 H6 := ((KT.of s4).trans (ext_kt S4.dk X5)).trans (ext_kt S5.dk X6)
  have g1 := dp_kt k36 _ _ (nlO a1) g1
  have g2 := dp_kt k36 _ _ (nlO a2) g2
  have hvN : v < M + f := by omega
  -- row = ('const', ..)
  refine ⟨_, rfl, .ref d, rfl, d, c, _, rfl, by omega, S6.dk, fun wv H7 w0 w1 dk7 X7 => ⟨(by show 3 ≤ sizeLine; decide), fun p8 hp8 => ?_⟩⟩
  have S7 := S6.step dk7 X7
  have s8 := same_new (o := .tup [.str "const", .int (v : Int), .int wv]) hp8
  have S8 := S7.same s8
  have k68 : KT H6 (upd H7 p8 (.tup [.str "const", .int (v : Int), .int wv])) := (ext_kt S6.dk X7).trans (KT.of s8)
  have g1 := dp_kt k68 _ _ (nlO a1) g1
  have g2 := dp_kt k68 _ _ (nlO a2) g2
  have gc : Dp K (upd H7 p8 (.tup [.str "const", .int (v : Int), .int wv])) (.ref p8) (Rw.cw v wv).D := dp_tupN hp8 (.cons (.str _) (.cons (.int _) (.cons (.int _) .nil)))
  generalize upd H7 p8 (.tup [.str "const", .int (v : Int), .int wv]) = H8 at S8 k68 g1 g2 gc ⊢
  -- the end
  have fin : ∀ (z : V) (R : Rw) (H9 : Hp) (m : Nat), S52 K d c wd kt cnt M f m H H9 → m ≤ n + 40 → Dp K H9 z R.D → RwOk (M + f) R → Q z H9 := fun z R H9 m S9 hm hz hR => q z R H9 (S9.up hm) hz hR
  -- way in (1, 2)
  refine ⟨_, rfl, (by show 2 ≤ sizeLine; decide), fun p9 hp9 => ⟨_, _, rfl, .inr (.inl (.inl upd_same)), rfl, rfl, _, rfl, ?_⟩⟩
  have s9 := same_new (o := .tup [.int 1, .int 2]) hp9
  have S9 := S8.same s9
  have g1 := dp_mono s9 _ _ g1
  have g2 := dp_mono s9 _ _ g2
  have gc := dp_mono s9 _ _ gc
  generalize upd H8 p9 (.tup [.int 1, .int 2]) = H9 at s9 S9 g1 g2 gc ⊢
  show if inV (.int (way : Int)) [.int 1, .int 2] = true then _ else _
  cases hb1 : inV (.int (way : Int)) [.int 1, .int 2] with
  | true =>
    obtain ⟨pa, xs, dg, sq, lo, hi, pk, _⟩ := S9.words
    refine iteT ⟨_, rfl, .ref d, rfl, .ref kt, rfl, kt, _, rfl, dg, d, c, pa, _, xs, rfl, S9.dk, by omega, sq, lo, hi, fun j y H10 hy dk10 X10 => ?_⟩
    obtain ⟨i, hi2, rfl⟩ := pk j y hy
    have S10 := S9.step dk10 X10
    refine ⟨(by show 3 ≤ sizeLine; decide), fun p hp => ⟨_, rfl, fin _ (.cp v i) _ _ (S10.new hp) (by omega) (dp_tupN hp (.cons (.str _) (.cons (.int _) (.cons (.int _) .nil)))) ⟨hvN, by omega⟩⟩⟩
  | false =>
    refine iteF ⟨_, rfl, (by show 3 ≤ sizeLine; decide), fun p10 hp10 => ⟨_, _, rfl, .inr (.inl (.inl upd_same)), rfl, rfl, _, rfl, ?_⟩⟩
    have s10 := same_new (o := .tup [.int 3, .int 4, .int 5]) hp10
    have S10 := S9.same s10
    have g1 := dp_mono s10 _ _ g1
    have g2 := dp_mono s10 _ _ g2
    have gc := dp_mono s10 _ _ gc
    generalize upd H9 p10 (.tup [.int 3, .int 4, .int 5]) = H10 at s10 S10 g1 g2 gc ⊢
    show if inV (.int (way : Int)) [.int 3, .int 4, .int 5] = true then _ else _
    cases hb2 : inV (.int (way : Int)) [.int 3, .int 4, .int 5] with
    | true =>
      refine iteT ⟨_, rfl, .ref d, rfl, (by show 9 ≤ sizeLine; decide), fun p11 hp11 => ?_⟩
      have n11 := S10.dk.has hp11
      have s11 := same_new (o := .lst (ops9.map V.str)) hp11
      have S11 := S10.same s11
      refine ⟨d, c, p11, _, ops9.map V.str, rfl, S11.dk, by omega, .inl (.inl (by rw [off_get n11.1 n11.2]; exact upd_same)), (by decide), (by decide), fun j y H12 hy dk12 X12 => ?_⟩
      rw [List.getElem?_map] at hy
      obtain ⟨z, hz, rfl⟩ := Option.map_eq_some_iff.mp hy
      have hzn := ops9_nm z (List.mem_of_getElem? hz)
      have S12 := S11.step dk12 X12
      have k12 := (KT.of s11).trans (ext_kt S11.dk X12)
      refine ⟨v1, rfl, v2, rfl, (by show 5 ≤ sizeLine; decide), fun p hp => ⟨_, rfl, fin _ (.op v z a1 a2) _ _ (S12.new hp) (by omega) (dp_tupN hp (.cons (.str _) (.cons (.int _) (.cons (.str _) (.cons (dp_kt k12 _ _ (nlO a1) g1) (.cons (dp_kt k12 _ _ (nlO a2) g2) .nil)))))) ⟨hvN, hzn, u1, u2⟩⟩⟩
    | false =>
      refine iteF ⟨_, rfl, (by show 2 ≤ sizeLine; decide), fun p11 hp11 => ⟨_, _, rfl, .inr (.inl (.inl upd_same)), rfl, rfl, _, rfl, ?_⟩⟩
      have s11 := same_new (o := .tup [.int 6, .int 7]) hp11
      have S11 := S10.same s11
      have g1 := dp_mono s11 _ _ g1
      have g2 := dp_mono s11 _ _ g2
      have gc := dp_mono s11 _ _ gc
      generalize upd H10 p11 (.tup [.int 6, .int 7]) = H11 at s11 S11 g1 g2 gc ⊢
      show if inV (.int (way : Int)) [.int 6, .int 7] = true then _ else _
      cases hb3 : inV (.int (way : Int)) [.int 6, .int 7] with
      | true =>
        obtain ⟨pa, xs, dg, sq, lo, hi, pk⟩ := S11.cells
        refine iteT ⟨_, rfl, .ref d, rfl, .ref wd, rfl, wd, _, rfl, dg, d, c, pa, _, xs, rfl, S11.dk, by omega, sq, lo, hi, fun j y H12 hy dk12 X12 => ?_⟩
        obtain ⟨z, hz, rfl⟩ := pk j y hy
        have S12 := S11.step dk12 X12
        refine ⟨(by show 3 ≤ sizeLine; decide), fun p13 hp13 => ?_⟩
        have s13 := same_new (o := .tup [.str "load", .int (v : Int), .str z]) hp13
        have S13 := S12.same s13
        have k13 := (ext_kt S11.dk X12).trans (KT.of s13)
        have g1 := dp_kt k13 _ _ (nlO a1) g1
        have gl : Dp K (upd H12 p13 (.tup [.str "load", .int (v : Int), .str z])) (.ref p13) (Rw.ld v z).D := dp_tupN hp13 (.cons (.str _) (.cons (.int _) (.cons (.str _) .nil)))
        generalize upd H12 p13 (.tup [.str "load", .int (v : Int), .str z]) = H13 at s13 S13 g1 gl ⊢
        refine ⟨_, rfl, rfl, _, rfl, ?_⟩
        cases hb4 : decide (V.int (way : Int) = V.int 7) with
        | false => exact iteF ⟨_, rfl, fin _ (.ld v z) _ _ S13 (by omega) gl ⟨hvN, hz⟩⟩
        | true =>
          obtain ⟨pa2, xs2, dg2, sq2, lo2, hi2, pk2⟩ := S13.arrays
          refine iteT ⟨_, rfl, .ref d, rfl, .ref wd, rfl, wd, _, rfl, dg2, d, c, pa2, _, xs2, rfl, S13.dk, by omega, sq2, lo2, hi2, fun j y H14 hy dk14 X14 => ?_⟩
          obtain ⟨pA, hpA, gA⟩ := pk2 j y hy
          have gA := dp_mono (ext_all X14) _ _ gA
          have S14 := S13.step dk14 X14
          refine ⟨_, 0, _, gA, rfl, rfl, fun z hz => ?_⟩
          cases hz
          refine ⟨v1, rfl, (by show 4 ≤ sizeLine; decide), fun p hp => ⟨_, rfl, fin _ (.rd v pA.1 a1) _ _ (S14.new hp) (by omega) (dp_tupN hp (.cons (.str _) (.cons (.int _) (.cons (.str _) (.cons (dp_kt (ext_kt S13.dk X14) _ _ (nlO a1) g1) .nil))))) ⟨hvN, hpA, u1⟩⟩⟩
      | false =>
        refine iteF ⟨_, rfl, (by show 2 ≤ sizeLine; decide), fun p12 hp12 => ⟨_, _, rfl, .inr (.inl (.inl upd_same)), rfl, rfl, _, rfl, ?_⟩⟩
        have s12 := same_new (o := .tup [.int 8, .int 9]) hp12
        have S12 := S11.same s12
        have g1 := dp_mono s12 _ _ g1
        have g2 := dp_mono s12 _ _ g2
        have gc := dp_mono s12 _ _ gc
        generalize upd H11 p12 (.tup [.int 8, .int 9]) = H12 at s12 S12 g1 g2 gc ⊢
        show if inV (.int (way : Int)) [.int 8, .int 9] = true then _ else _
        cases hb4 : inV (.int (way : Int)) [.int 8, .int 9] with
        | true =>
          obtain ⟨pca, xca, dgca, sqca, loc, hic, pkca, lca⟩ := S12.calls
          refine iteT ⟨.ref d, rfl, .ref wd, rfl, wd, _, rfl, dgca, d, c, pca, _, xca, rfl, S12.dk, by omega, sqca, loc, hic, fun j y H13 hy dk13 X13 => ?_⟩
          obtain ⟨pC, hpC, hp2, gC⟩ := pkca y (List.mem_of_getElem? hy)
          have gC := dp_mono (ext_all X13) _ _ gC
          have S13 := S12.step dk13 X13
          have g1 := dp_kt (ext_kt S12.dk X13) _ _ (nlO a1) g1
          have g2 := dp_kt (ext_kt S12.dk X13) _ _ (nlO a2) g2
          cases gC with
          | @tup ac xc _ sqc hac =>
            cases hac with
            | cons x0 r0 =>
              cases r0 with
              | cons x1 r1 =>
                cases r1
                cases x0
                cases x1
                refine ⟨ac, _, rfl, sqc, rfl, _, _, rfl, _, _, rfl, rfl, ?_⟩
                refine ⟨_, rfl, _, rfl, (by show 3 ≤ sizeLine; decide), fun p14 hp14 => ?_⟩
                have n14 := S13.dk.has hp14
                have s14 := same_new (o := .lst [.int (v : Int), .non, .int (v : Int)]) hp14
                have S14 := S13.same s14
                have e14 : (upd H13 p14 (.lst [.int (v : Int), .non, .int (v : Int)])) p14 = some (.lst [.int (v : Int), .non, .int (v : Int)]) := upd_same
                refine ⟨.ref d, rfl, d, c, _, 3, rfl, by decide, by decide, by omega, S14.dk, fun r15 H15 r0 r1 dk15 X15 => ?_⟩
                obtain ⟨j15, rfl⟩ := Int.eq_ofNat_of_zero_le r0
                obtain ⟨o, ho, hok⟩ := vnv (v := v) (j := j15) hvN (by omega)
                have S15 := S14.step dk15 X15
                have k15 := (KT.of s14).trans (ext_kt S14.dk X15)
                have g1 := dp_kt k15 _ _ (nlO a1) g1
                have g2 := dp_kt k15 _ _ (nlO a2) g2
                refine ⟨p14, _, _, _, rfl, rfl, .inl (.inl (X15.at n14.1 n14.2 e14)), atI_nat ho, _, rfl, v1, rfl, v2, rfl, (by show 2 ≤ sizeLine; decide), fun p16 hp16 => ?_⟩
                have s16 := same_new (o := .tup [v1, v2]) hp16
                have S16 := S15.same s16
                refine ⟨_, rfl, (pC.2 : Int), rfl, [oD a1, oD a2], dp_tupN hp16 (.cons g1 (.cons g2 .nil)), fun z17 H17 s17 h17 => ⟨(by show 4 ≤ sizeLine; decide), fun p hp => ?_⟩⟩
                rw [cutP_to] at h17
                have em : [oD a1, oD a2].take pC.2 = (([a1, a2] : List Opd).take pC.2).map oD := by rw [List.map_take]; rfl
                rw [em] at h17
                refine ⟨_, rfl, fin _ (.ca o pC.1 (([a1, a2] : List Opd).take pC.2)) _ _ ((S16.same s17).new hp) (by omega) (dp_tupN hp (.cons (.str _) (.cons (ov_dp o) (.cons (.str _) (.cons h17 .nil))))) ⟨hok, hpC, ?_, fun a ha => ?_⟩⟩
                · rw [List.length_take]
                  show min pC.2 2 ≤ 2
                  omega
                · have := List.mem_of_mem_take ha
                  simp only [List.mem_cons, List.not_mem_nil, or_false] at this
                  rcases this with rfl | rfl
                  · exact u1
                  · exact u2
        | false =>
          refine iteF ⟨_, rfl, rfl, _, rfl, ?_⟩
          cases hb5 : decide (V.int (way : Int) = V.int 10) with
          | true =>
            refine iteT ⟨_, rfl, _, rfl, (by show 3 ≤ sizeLine; decide), fun p14 hp14 => ?_⟩
            have n14 := S12.dk.has hp14
            have s14 := same_new (o := .lst [.int (v : Int), .non, .int (v : Int)]) hp14
            have S14 := S12.same s14
            have e14 : (upd H12 p14 (.lst [.int (v : Int), .non, .int (v : Int)])) p14 = some (.lst [.int (v : Int), .non, .int (v : Int)]) := upd_same
            refine ⟨.ref d, rfl, d, c, _, 3, rfl, by decide, by decide, by omega, S14.dk, fun r15 H15 r0 r1 dk15 X15 => ?_⟩
            obtain ⟨j15, rfl⟩ := Int.eq_ofNat_of_zero_le r0
            obtain ⟨o, ho, hok⟩ := vnv (v := v) (j := j15) hvN (by omega)
            have S15 := S14.step dk15 X15
            have k15 := (KT.of s14).trans (ext_kt S14.dk X15)
            have g1 := dp_kt k15 _ _ (nlO a1) g1
            refine ⟨p14, _, _, _, rfl, rfl, .inl (.inl (X15.at n14.1 n14.2 e14)), atI_nat ho, _, rfl, v1, rfl, (by show 1 ≤ sizeLine; decide), fun p16 hp16 => ⟨(by show 4 ≤ sizeLine; decide), fun p hp => ?_⟩⟩
            have s16 := same_new (o := .tup [v1]) hp16
            have S16 := S15.same s16
            refine ⟨_, rfl, fin _ (.ap o jf [a1]) _ _ (S16.new hp) (by omega) (dp_tupN hp (.cons (.str _) (.cons (ov_dp o) (.cons (.int _) (.cons (dp_tupN hp16 (.cons g1 .nil)) .nil))))) ⟨hok, hjf, by show 1 ≤ 2; decide, fun a ha => by rw [List.mem_singleton.mp ha]; exact u1⟩⟩
          | false =>
            refine iteF ⟨_, rfl, _, _, rfl, rfl, _, rfl, ?_⟩
            show if decide ((10 : Int) < (way : Int)) = true then _ else _
            cases hb6 : decide ((10 : Int) < (way : Int)) with
            | true =>
              refine iteT ⟨.ref d, rfl, .ref wd, rfl, .ref kt, rfl, v1, rfl, v2, rfl, d, c, wd, kt, _, cnt, M, f, v1, v2, a1, a2, rfl, by omega, ⟨S12.dk, Ext.refl _, S12.wd, S12.kt⟩, g1, g2, o1, o2, fun z R H13 S13 hz hR => ?_⟩
              exact ⟨_, rfl, fin z R H13 _ ⟨S13.dk, S12.X.trans S13.X, S13.wd, S13.kt⟩ (by omega) hz hR⟩
            | false => exact iteF ⟨_, rfl, fin _ (.cw v wv) _ _ S12 (by omega) gc ⟨hvN, w0, w1⟩⟩
end
end K52

set_option maxHeartbeats 4000000
namespace K52
open PySem PySem.Spec PyProof.Rows L2 HG P52
def spEnd (K : PySem.W.Frag) : Sp := fun vs H Q _ => ∃ (d c kt : Addr) (n cnt M f B : Nat), vs = [.ref d, .ref kt, .int (B : Int)] ∧ n < 2 ^ 47 ∧ 0 < B ∧ B ≤ 9 ∧ Deck d c n H ∧ Kt (off d c H) kt cnt M f ∧
  ∀ (v : V) (E : Stp) (H' : Hp), Deck d c (n + 10) H' → Ext d c H H' → Dp K H' v E.D → StpOk M B E → Q v H'
section
variable {P : Program} {w : World} {K : PySem.W.Frag} {mg : Str → Option Value} {base : Heap}
set_option pp.maxSteps 600 in
theorem c_end (T : Txt w K mg) : Cal P w K mg base "_law_end" 4 ["_law_deck_here", "_law_kit", "_law_many"] (spEnd K) := by
  obtain ⟨fd, F⟩ := T.d__law_end
  have C__law_draw := c_draw (P := P) (base := base) T
  have C__law_word := c_word (P := P) (base := base) T
  have C__law_operand := c_operand (P := P) (base := base) T
  refine ⟨⟨fd, F.ok sc__law_end (fun vs H Q E h => ?_) (fun cdv A outer s H vs Q E hr h => ?_), F.bindsN fun _ _ _ _ _ _ us hl => match us, hl with | [_, _, _], _ => rfl⟩, T.g _ (by decide), F.kp⟩
  · obtain ⟨d, c, kt, n, cnt, M, f, B, rfl, _⟩ := h
    rfl
  obtain ⟨d, c, kt, n, cnt, M, f, B, rfl, hn, hB0, hB, dk, hk, q⟩ := h
  refine ⟨_, PSs.nox (pss_cons (ps_par (i := 3) (j := 4) rfl sc__law_end.nd rfl rfl (by decide) rfl rfl (pa_cons (pe_cal C__law_draw (hr.mono (by omega)) (by rfl) (pa_cons (pv 0) (pa_cons pe_int pa_nil))) (pa_cons (pe_cal C__law_operand (hr.mono (by omega)) (by rfl) (pa_cons (pv 0) (pa_cons (pv 1) pa_nil))) pa_nil)) (by rfl))
      (pss_cons (ps_set (i := 5) sc__law_end.nd rfl (.inl rfl) (pe_lst (pa_cons (pe_tup (pa_cons pe_str (pa_cons (pe_cal C__law_draw (hr.mono (by omega)) (by rfl) (pa_cons (pv 0) (pa_cons (pv 2) pa_nil))) pa_nil))) (pa_cons (pe_tup (pa_cons pe_str (pa_cons (pv 4) (pa_cons (pe_cal C__law_draw (hr.mono (by omega)) (by rfl) (pa_cons (pv 0) (pa_cons (pv 2) pa_nil))) (pa_cons (pe_cal C__law_draw (hr.mono (by omega)) (by rfl) (pa_cons (pv 0) (pa_cons (pv 2) pa_nil))) pa_nil))))) pa_nil))))
      (pss_one (ps_ret (pe_ix (ix_listK (K := K) rfl) (pe_op op_cat (pe_op op_cat (pv 5) (pv 5)) (pe_lst (pa_cons (pe_tup (pa_cons pe_str (pa_cons (pv 4) pa_nil))) (pa_cons (pe_tup (pa_cons pe_str (pa_cons (pe_cal C__law_word (hr.mono (by omega)) (by rfl) (pa_cons (pv 0) pa_nil)) pa_nil))) pa_nil)))) (pv 3) (fun _ _ => rfl)))))), ?_⟩
  have hB40 : ((B : Nat) : Int) < 10 ^ 40 := many40 (by omega)
  refine ⟨.ref d, rfl, d, c, _, 6, rfl, by decide, by decide, by omega, dk, fun r1 H1 r10 r11 dk1 X1 => ?_⟩
  obtain ⟨way, rfl⟩ := Int.eq_ofNat_of_zero_le r10
  refine ⟨.ref d, rfl, .ref kt, rfl, d, c, kt, _, cnt, M, f, rfl, by omega, dk1, hk.mono X1, fun v1 a1 H2 dk2 X2 g1 o1 => ⟨_, _, rfl, ?_⟩⟩
  refine ⟨.ref d, rfl, _, rfl, d, c, _, B, rfl, by omega, hB40, by omega, dk2, fun r3 H3 r30 r31 dk3 X3 => ?_⟩
  obtain ⟨j1, rfl⟩ := Int.eq_ofNat_of_zero_le r30
  refine ⟨(by show 2 ≤ sizeLine; decide), fun t4 ht4 => ?_⟩
  have s4 := same_new (o := .tup [.str "jump", .int (j1 : Int)]) ht4
  have gj : Dp K (upd H3 t4 (.tup [.str "jump", .int (j1 : Int)])) (.ref t4) (Stp.jp j1).D := dp_tupN ht4 (.cons (.str _) (.cons (.int _) .nil))
  have dk4 := dk3.same s4
  generalize upd H3 t4 (.tup [.str "jump", .int (j1 : Int)]) = H4 at s4 gj dk4 ⊢
  refine ⟨v1, rfl, .ref d, rfl, _, rfl, d, c, _, B, rfl, by omega, hB40, by omega, dk4, fun r5 H5 r50 r51 dk5 X5 => ?_⟩
  obtain ⟨j2, rfl⟩ := Int.eq_ofNat_of_zero_le r50
  refine ⟨.ref d, rfl, _, rfl, d, c, _, B, rfl, by omega, hB40, by omega, dk5, fun r6 H6 r60 r61 dk6 X6 => ?_⟩
  obtain ⟨j3, rfl⟩ := Int.eq_ofNat_of_zero_le r60
  have k46 : KT H4 H6 := (ext_kt dk4 X5).trans (ext_kt dk5 X6)
  have k26 : KT H2 H6 := (ext_kt dk2 X3).trans ((KT.of s4).trans k46)
  have g1 := dp_kt k26 _ _ (nlO a1) g1
  have gj := dp_kt k46 _ _ (nlE _) gj
  have X26 : Ext d c H2 H6 := X3.trans ((off_same_mono s4).trans (X5.trans X6))
  refine ⟨(by show 4 ≤ sizeLine; decide), fun t7 ht7 => ?_⟩
  have s7 := same_new (o := .tup [.str "branch", v1, .int (j2 : Int), .int (j3 : Int)]) ht7
  have gb : Dp K (upd H6 t7 (.tup [.str "branch", v1, .int (j2 : Int), .int (j3 : Int)])) (.ref t7) (Stp.br a1 j2 j3).D := dp_tupN ht7 (.cons (.str _) (.cons g1 (.cons (.int _) (.cons (.int _) .nil))))
  have gj := dp_mono s7 _ _ gj
  have g1 := dp_mono s7 _ _ g1
  have dk7 := dk6.same s7
  have X27 : Ext d c H2 (upd H6 t7 (.tup [.str "branch", v1, .int (j2 : Int), .int (j3 : Int)])) := X26.trans (off_same_mono s7)
  generalize upd H6 t7 (.tup [.str "branch", v1, .int (j2 : Int), .int (j3 : Int)]) = H7 at s7 gb gj g1 dk7 X27 ⊢
  refine ⟨(by show 2 ≤ sizeLine; decide), fun l8 hl8 => ?_⟩
  have s8 := same_new (o := .lst [.ref t4, .ref t7]) hl8
  have e8 : (upd H7 l8 (.lst [.ref t4, .ref t7])) l8 = some (.lst [.ref t4, .ref t7]) := upd_same
  have gb := dp_mono s8 _ _ gb
  have gj := dp_mono s8 _ _ gj
  have g1 := dp_mono s8 _ _ g1
  have dk8 := dk7.same s8
  have X28 := X27.trans (off_same_mono s8)
  generalize upd H7 l8 (.lst [.ref t4, .ref t7]) = H8 at s8 e8 gb gj g1 dk8 X28 ⊢
  refine ⟨.ref l8, rfl, .ref l8, rfl, l8, l8, _, _, rfl, rfl, e8, e8, (by show 4 ≤ sizeLine; decide), fun l9 hl9 => ?_⟩
  have n9 := dk8.has hl9
  have s9 := same_new (o := .lst [.ref t4, .ref t7, .ref t4, .ref t7]) hl9
  have e9 : (upd H8 l9 (.lst [.ref t4, .ref t7, .ref t4, .ref t7])) l9 = some (.lst [.ref t4, .ref t7, .ref t4, .ref t7]) := upd_same
  have gb := dp_mono s9 _ _ gb
  have gj := dp_mono s9 _ _ gj
  have g1 := dp_mono s9 _ _ g1
  have dk9 := dk8.same s9
  have X29 := X28.trans (off_same_mono s9)
  generalize eH9 : upd H8 l9 _ = H9
  have eH9 : upd H8 l9 (.lst [.ref t4, .ref t7, .ref t4, .ref t7]) = H9 := eH9
  rw [eH9] at s9 e9 gb gj g1 dk9 X29
  refine ⟨v1, rfl, (by show 2 ≤ sizeLine; decide), fun t10 ht10 => ?_⟩
  have s10 := same_new (o := .tup [.str "return", v1]) ht10
  have gr : Dp K (upd H9 t10 (.tup [.str "return", v1])) (.ref t10) (Stp.rt (some a1)).D := dp_tupN ht10 (.cons (.str _) (.cons g1 .nil))
  have gb := dp_mono s10 _ _ gb
  have gj := dp_mono s10 _ _ gj
  have e9 := s10 _ _ e9
  have dk10 := dk9.same s10
  have X210 := X29.trans (off_same_mono s10)
  generalize upd H9 t10 (.tup [.str "return", v1]) = H10 at s10 gr gb gj e9 dk10 X210 ⊢
  refine ⟨.ref d, rfl, d, c, _, rfl, by omega, dk10, fun wv H11 w0 w1 dk11 X11 => ⟨(by show 2 ≤ sizeLine; decide), fun t12 ht12 => ?_⟩⟩
  have k11 := ext_kt dk10 X11
  have s12 := same_new (o := .tup [.str "halt", .int wv]) ht12
  have k12 := k11.trans (KT.of s12)
  have gh : Dp K (upd H11 t12 (.tup [.str "halt", .int wv])) (.ref t12) (Stp.ht wv).D := dp_tupN ht12 (.cons (.str _) (.cons (.int _) .nil))
  have gr := dp_kt k12 _ _ (nlE _) gr
  have gb := dp_kt k12 _ _ (nlE _) gb
  have gj := dp_kt k12 _ _ (nlE _) gj
  have e9 := s12 _ _ (X11.at n9.1 n9.2 e9)
  have dk12 := dk11.same s12
  have X212 := (X210.trans X11).trans (off_same_mono s12)
  generalize upd H11 t12 (.tup [.str "halt", .int wv]) = H12 at s12 gh gr gb gj e9 dk12 X212 ⊢
  refine ⟨(by show 2 ≤ sizeLine; decide), fun l13 hl13 => ?_⟩
  have s13 := same_new (o := .lst [.ref t10, .ref t12]) hl13
  have e13 : (upd H12 l13 (.lst [.ref t10, .ref t12])) l13 = some (.lst [.ref t10, .ref t12]) := upd_same
  refine ⟨l9, l13, _, _, rfl, rfl, s13 _ _ e9, e13, (by show 6 ≤ sizeLine; decide), fun l14 hl14 => ?_⟩
  have s14 := s13.trans (same_new (o := .lst [.ref t4, .ref t7, .ref t4, .ref t7, .ref t10, .ref t12]) hl14)
  have all : DpAll K (upd (upd H12 l13 (.lst [.ref t10, .ref t12])) l14 (.lst [.ref t4, .ref t7, .ref t4, .ref t7, .ref t10, .ref t12])) [.ref t4, .ref t7, .ref t4, .ref t7, .ref t10, .ref t12] (([.jp j1, .br a1 j2 j3, .jp j1, .br a1 j2 j3, .rt (some a1), .ht wv] : List Stp).map Stp.D) :=
    dpAll_mono s14 _ _ (.cons gj (.cons gb (.cons gj (.cons gb (.cons gr (.cons gh .nil))))))
  have hw : way < 6 := by omega
  obtain ⟨y, hy⟩ : ∃ y, ([.ref t4, .ref t7, .ref t4, .ref t7, .ref t10, .ref t12] : List V)[way]? = some y := ⟨_, List.getElem?_eq_getElem (show way < 6 from hw)⟩
  obtain ⟨E1, hE, hyE⟩ := dpAll_map_get all hy
  refine ⟨_, rfl, l14, _, _, _, rfl, rfl, .inl (.inl upd_same), atI_nat hy, q y E1 _ ((dk12.same s14).up (by omega)) (X1.trans (X2.trans (X212.trans (off_same_mono s14)))) hyE ?_⟩
  have hm := List.mem_of_getElem? hE
  simp only [List.mem_cons, List.not_mem_nil, or_false] at hm
  rcases hm with rfl | rfl | rfl | rfl | rfl | rfl
  · show j1 < B
    omega
  · exact ⟨o1, by omega, by omega⟩
  · show j1 < B
    omega
  · exact ⟨o1, by omega, by omega⟩
  · intro o ho
    cases ho
    exact o1
  · exact ⟨w0, w1⟩
end
end K52

set_option maxHeartbeats 4000000
namespace K52
open PySem PySem.Spec PyProof.Rows L2 HG P52
def spGraph (K : PySem.W.Frag) : Sp := fun vs H Q _ => ∃ (d c wd : Addr) (n : Nat), vs = [.ref d, .ref wd, .int 9] ∧ n < 2 ^ 46 ∧ Deck d c n H ∧ Wd K (off d c H) wd ∧
  ∀ (v : V) (g : Gr) (N : Nat) (H' : Hp), Deck d c (n + 4000) H' → Ext d c H H' → Dp K H' v g.D → GrOk N g → Q v H'
theorem stp_up {M N B : Nat} {E : Stp} (h : StpOk M B E) (hN : M ≤ N) : StpOk N B E := by
  cases E with
  | jp n => exact h
  | br a n m => exact ⟨opd_up h.1 hN, h.2⟩
  | rt a => exact fun o ho => opd_up (h o ho) hN
  | ht i => exact h
theorem rg_eq (n : Nat) : rgV 0 (n : Int) = (List.range n).map fun i => V.int ((i : Nat) : Int) := by
  unfold rgV
  rw [Int.sub_zero, Int.toNat_natCast]
  congr 1
  funext i
  rw [Int.zero_add]
section
variable {P : Program} {w : World} {K : PySem.W.Frag} {mg : Str → Option Value} {base : Heap}
set_option pp.maxSteps 600 in
theorem c_graph (T : Txt w K mg) : Cal P w K mg base "_law_graph" 5 ["_law_deck_here", "_law_world_here", "_law_most"] (spGraph K) := by
  obtain ⟨fd, F⟩ := T.d__law_graph
  have C__law_draw := c_draw (P := P) (base := base) T
  have C__law_first := c_first (P := P) (base := base) T
  have C__law_row := c_row (P := P) (base := base) T
  have C__law_end := c_end (P := P) (base := base) T
  refine ⟨⟨fd, F.ok sc__law_graph (fun vs H Q E h => ?_) (fun cdv A outer s H vs Q E hr h => ?_), F.bindsN fun _ _ _ _ _ _ us hl => match us, hl with | [_, _, _], _ => rfl⟩, T.g _ (by decide), F.kp⟩
  · obtain ⟨d, c, wd, n, rfl, _⟩ := h
    rfl
  obtain ⟨d, c, wd, n, rfl, hn, dk, hwd, q⟩ := h
  have hu := hu_of hr
  refine ⟨_, PSs.nox (pss_cons (ps_set (i := 3) sc__law_graph.nd rfl (.inl rfl) (pe_cal C__law_draw (hr.mono (by omega)) (by rfl) (pa_cons (pv 0) (pa_cons pe_int pa_nil))))
      (pss_cons (ps_set (i := 4) sc__law_graph.nd rfl (.inr rfl) (pe_disp (pps_cons pe_str (pv 3) (pps_cons pe_str (pe_listRg rfl (by rfl) T.n_list (prg_1 (by rfl) T.n_range (pe_op op_add (pe_op op_add (pv 3) pe_int) (pe_cal C__law_draw (hr.mono (by omega)) (by rfl) (pa_cons (pv 0) (pa_cons pe_int pa_nil)))))) pps_nil)) (by rfl) (by rfl) (fun z => by cases z) (by decide)))
      (pss_cons (ps_dput hu (pv 4) pe_str (pe_lc (own := [("_law_k", 9)]) (by rfl) sc__law_graph.nd (pi_range1 (by rfl) T.n_range (pa_cons (pe_op op_add pe_int (pe_cal C__law_draw (hr.mono (by omega)) (by rfl) (pa_cons (pv 0) (pa_cons pe_int pa_nil)))) pa_nil)) (blkOk_by (own := [("_law_k", 9)]) (N := N__law_graph) (sc := defScope s__law_graph) (by decide +kernel)) (fun _ _ _ _ _ => (pg_name (i := 9) sc__law_graph.nd rfl (.inl rfl))) (fun _ _ _ _ _ => pts_nil) (fun _ _ _ _ _ => (pe_op op_add (pe_callB (lenK (K := K) rfl) (by rfl) T.n_len (by decide +kernel) (pa_cons (pe_dget hu (pv 4) pe_str (fun _ _ => rfl)) pa_nil)) (pv 9)))) rfl)
      (pss_cons (ps_par (i := 5) (j := 6) rfl sc__law_graph.nd rfl rfl (by decide) rfl rfl (pa_cons (pe_op op_add pe_int (pe_cal C__law_draw (hr.mono (by omega)) (by rfl) (pa_cons (pv 0) (pa_cons (pv 2) pa_nil)))) (pa_cons (pe_lst pa_nil) pa_nil)) (by rfl))
      (pss_cons (ps_for PassesOwn.never rfl (pi_range1 (by rfl) T.n_range (pa_cons (pv 5) pa_nil)) (pg_name (i := 7) sc__law_graph.nd rfl (.inl rfl)) (pss_cons (ps_set (i := 8) sc__law_graph.nd rfl (.inl rfl) (pe_ifExp (pt_cmpR op_eq (pv 7) pe_int (nomark _)) (pe_cal C__law_first (hr.mono (by omega)) (by rfl) (pa_cons (pv 0) (pa_cons (pv 1) (pa_cons (pv 4) pa_nil)))) (pe_lst pa_nil)))
      (pss_cons (ps_for PassesOwn.never rfl (pi_range1 (by rfl) T.n_range (pa_cons (pe_cal C__law_draw (hr.mono (by omega)) (by rfl) (pa_cons (pv 0) (pa_cons pe_int pa_nil))) pa_nil)) (pg_name (i := 9) sc__law_graph.nd rfl (.inl rfl)) (pss_one (ps_expr (pe_bm PySem.F.plainAttrs_list PySem.F.slot_list_append PySem.F.type_list_append mt_append (pv 8) (pa_cons (pe_cal C__law_row (hr.mono (by omega)) (by rfl) (pa_cons (pv 0) (pa_cons (pv 1) (pa_cons (pv 4) pa_nil)))) pa_nil)))))
      (pss_one (ps_expr (pe_bm PySem.F.plainAttrs_list PySem.F.slot_list_append PySem.F.type_list_append mt_append (pv 6) (pa_cons (pe_tup (pa_cons (pe_callTy call_tuple_of (by rfl) T.n_tuple (by decide +kernel) (pa_cons (pv 8) pa_nil)) (pa_cons (pe_cal C__law_end (hr.mono (by omega)) (by rfl) (pa_cons (pv 0) (pa_cons (pv 4) (pa_cons (pv 5) pa_nil)))) pa_nil))) pa_nil)))))))
      (pss_one (ps_ret (pe_tup (pa_cons (pv 3) (pa_cons (pe_callTy call_tuple_of (by rfl) T.n_tuple (by decide +kernel) (pa_cons (pv 6) pa_nil)) pa_nil)))))))))), ?_⟩
  refine ⟨.ref d, rfl, d, c, _, 4, rfl, by decide, by decide, by omega, dk, fun r1 H1 r10 r11 dk1 X1 => ?_⟩
  obtain ⟨cnt, rfl⟩ := Int.eq_ofNat_of_zero_le r10
  -- the kit
  intro kt hkt
  have nkt := dk1.has hkt
  have s2 := same_new (o := .dK []) hkt
  have dk2 := dk1.same s2
  have ek : (upd H1 kt (.dK [])) kt = some (.dK []) := upd_same
  have X2 : Ext d c H (upd H1 kt (.dK [])) := X1.trans (off_same_mono s2)
  have hktH : H kt = none := grow X1 dk1 hkt
  generalize upd H1 kt (.dK []) = H2 at s2 dk2 ek X2 ⊢
  refine ⟨_, rfl, _, rfl, _, _, rfl, rfl, .ref d, rfl, d, c, _, 5, rfl, by decide, by decide, by omega, dk2, fun r3 H3 r30 r31 dk3 X3 => ?_⟩
  obtain ⟨m0, rfl⟩ := Int.eq_ofNat_of_zero_le r30
  have hM : ((cnt : Int) + 1 + (m0 : Int)) = ((cnt + 1 + m0 : Nat) : Int) := by omega
  have hcm : cnt ≤ 3 ∧ m0 ≤ 4 := by omega
  generalize eM : cnt + 1 + m0 = M at hM
  refine ⟨_, _, rfl, rfl, _, rfl, ⟨by omega, by omega, by omega, by omega, by omega⟩, fun wa hwa => ?_⟩
  generalize eH4 : upd H3 wa _ = H4
  have eH4 : H4 = upd H3 wa (.lst ((List.range M).map fun i => V.int ((i : Nat) : Int))) := by
    rw [← eH4, ← rg_eq, ← hM]
  have nwa := dk3.has hwa
  have s4 : Same H3 H4 := by rw [eH4]; exact same_new hwa
  have ewa : H4 wa = some (.lst ((List.range M).map fun i => V.int ((i : Nat) : Int))) := by rw [eH4]; exact upd_same
  have dk4 := dk3.same s4
  have ek4 := s4 _ _ (X3.at nkt.1 nkt.2 ek)
  have nkw : wa ≠ kt := fun z => by
    have := X3.at nkt.1 nkt.2 ek
    rw [← z, hwa] at this
    cases this
  have X4 : Ext d c H H4 := (X2.trans X3).trans (off_same_mono s4)
  refine ⟨ek4, [(Sum.inr "count", .int (cnt : Int)), (Sum.inr "words", .ref wa)], rfl, (by show 2 ≤ 15; decide), ?_⟩
  generalize eH5 : upd H4 kt _ = H5
  have eH5 : H5 = upd H4 kt (.dK [(Sum.inr "count", .int (cnt : Int)), (Sum.inr "words", .ref wa)]) := eH5.symm
  have dk5 : Deck d c (n + 1 + 1) H5 := by rw [eH5]; exact dk4.upd nkt.1 nkt.2
  have ek5 : H5 kt = some (.dK [(Sum.inr "count", .int (cnt : Int)), (Sum.inr "words", .ref wa)]) := by rw [eH5]; exact upd_same
  have ewa5 : H5 wa = some (.lst ((List.range M).map fun i => V.int ((i : Nat) : Int))) := by rw [eH5, upd_ne nkw]; exact ewa
  have X5 : Ext d c H H5 := by rw [eH5]; exact X4.mut hktH
  -- funcs
  refine ⟨.ref d, rfl, d, c, _, 2, rfl, by decide, by decide, by omega, dk5, fun r6 H6 r60 r61 dk6 X6 => ?_⟩
  obtain ⟨f0, rfl⟩ := Int.eq_ofNat_of_zero_le r60
  have hf0 : f0 ≤ 1 := by omega
  have ek6 := X6.at nkt.1 nkt.2 ek5
  have ewa6 := X6.at nwa.1 nwa.2 ewa5
  have X06 := X5.trans X6
  refine ⟨_, _, rfl, rfl, _, rfl, by omega, by omega, fun D hD => ?_⟩
  have nD := dk6.has hD
  have nkD : kt ≠ D := ne_of_none ek6 hD
  have nwD : wa ≠ D := ne_of_none ewa6 hD
  refine lc_range (lo := 0) (n := ((1 : Int) + (f0 : Int)).toNat) (fun i H7 => H7 D = some (.lst ((List.range i).map fun j => V.int ((M + j : Nat) : Int))) ∧ Same H6 H7) ⟨upd_same, same_new hD⟩ ?_ ?_
  · rintro i H7 hi ⟨hD7, s7⟩
    refine ⟨rfl, tyes ⟨.ref kt, rfl, kt, _, rfl, DGet.k (k := Sum.inr "words") (s7 _ _ ek6), .ref wa, _, rfl, .inl ⟨_, .inl (.inl (s7 _ _ ewa6)), rfl⟩, _, rfl, _, _, rfl, rfl, _, hD7, ?_, ?_, ?_⟩⟩
    · rw [List.length_map, List.length_range]
      exact small_line (by omega)
    · rw [upd_same, List.range_succ, List.map_append]
      congr 3
      show [V.int (((((List.range M).map fun i => V.int ((i : Nat) : Int)).length : Nat) : Int) + (0 + (i : Int)))] = [V.int ((M + i : Nat) : Int)]
      rw [List.length_map, List.length_range, Int.zero_add]
      congr 2
    · intro b o e
      rw [upd_ne (ne_of_none e hD)]
      exact s7 _ _ e
  rintro H7 ⟨hD7, s7⟩
  have ef : ((1 : Int) + (f0 : Int)).toNat = 1 + f0 := by omega
  rw [ef] at hD7
  have ek7 := s7 _ _ ek6
  have dk7 := dk6.same s7
  refine ⟨.ref kt, rfl, kt, _, rfl, DPut.k (k := Sum.inr "funcs") (v := .ref D) ek7 (by show 2 < sizeLine; decide), ?_⟩
  generalize eH8 : upd H7 kt _ = H8
  have eH8 : H8 = upd H7 kt (.dK [(Sum.inr "count", .int (cnt : Int)), (Sum.inr "words", .ref wa), (Sum.inr "funcs", .ref D)]) := eH8.symm
  have dk8 : Deck d c (n + 1 + 1 + 1) H8 := by rw [eH8]; exact dk7.upd nkt.1 nkt.2
  have X8 : Ext d c H H8 := by rw [eH8]; exact (X06.trans (off_same_mono s7)).mut hktH
  have hkt8 : Kt (off d c H8) kt cnt M (1 + f0) := by
    refine ⟨⟨wa, D, ?_, ?_, ?_⟩, by omega, by omega, by omega, by omega, by omega⟩
    · rw [off_get nkt.1 nkt.2, eH8]; exact upd_same
    · rw [off_get nwa.1 nwa.2, eH8, upd_ne nkw]; exact s7 _ _ ewa6
    · rw [off_get nD.1 nD.2, eH8, upd_ne nkD.symm]; exact hD7
  have S8 : S52 K d c wd kt cnt M (1 + f0) (n + 3) H8 H8 := ⟨dk8, Ext.refl _, hwd.mono X8, hkt8⟩
  clear eH8 eH5 eH4
  -- many, blocks
  refine ⟨.ref d, rfl, .int 9, rfl, d, c, _, 9, rfl, by decide, by decide, by omega, S8.dk, fun r9 H9 r90 r91 dk9 X9 => ?_⟩
  obtain ⟨b0, rfl⟩ := Int.eq_ofNat_of_zero_le r90
  have hb0 : b0 ≤ 8 := by omega
  have S9 := S8.step dk9 X9
  refine ⟨_, _, rfl, rfl, Nat.zero_le _, fun bl hbl => ?_⟩
  have nbl := S9.dk.has hbl
  have S10 := S9.new (o := .lst []) hbl
  have ebl : (upd H9 bl (.lst [])) bl = some (.lst []) := upd_same
  have hbl8 : H8 bl = none := grow S9.X S9.dk hbl
  have X10 : Ext d c H8 (upd H9 bl (.lst [])) := S10.X
  generalize upd H9 bl (.lst []) = H10 at S10 ebl X10 ⊢
  have eB : (1 : Int) + (b0 : Int) = ((1 + b0 : Nat) : Int) := by omega
  refine ⟨_, _, rfl, ?_⟩
  generalize eBv : (1 : Int) + (b0 : Int) = Bv at eB
  have hB0 : 0 < 1 + b0 := by omega
  have hB9 : 1 + b0 ≤ 9 := by omega
  generalize eBn : 1 + b0 = B at eB hB0 hB9
  have hNf : M + (1 + f0) ≤ 10 := by omega
  generalize eff : 1 + f0 = f at S8 S9 S10 hNf hkt8 hD7
  subst eB
  show (tFor (iRng1 (tCons (tVar 5) tNil)) (gName 7) _) _ [some (.ref d), some (.ref wd), some (.int 9), some (.int (cnt : Int)), some (.ref kt), some (.int ((1 : Int) + (b0 : Int))), some (.ref bl), none, none, none] H10
  rw [eBv]
  refine ⟨_, rfl, _, rfl, by omega, by omega, for_range (lo := 0) (n := ((B : Nat) : Int).toNat) (fun i σ H3 => ∃ bvs bs x7 x8 x9, σ = [some (.ref d), some (.ref wd), some (.int 9), some (.int (cnt : Int)), some (.ref kt), some (.int (B : Int)), some (.ref bl), x7, x8, x9] ∧ H3 bl = some (.lst bvs) ∧ DpAll K H3 bvs (bs.map Blk.D) ∧ bs.length = i ∧ (∀ b ∈ bs, BkOk (M + f) B b) ∧ Deck d c (n + 10 + 400 * i) H3 ∧ Ext d c H8 H3)
    ⟨[], [], _, _, _, rfl, ebl, .nil, rfl, (fun _ h => nomatch h), S10.dk.up (by omega), X10⟩ ?_ ?_⟩
  · rintro i σ H3 hi ⟨bvs, bs, x7, x8, x9, rfl, eb3, hBs, hbl, hbok, dk3, X3⟩
    have hi : i < 9 := by omega
    have S3 := S8.step dk3 X3
    -- the rows at first
    have hs : ∀ (Qc : VK), (∀ (ra : Addr) (us : List V) (rows : List Rw) (H4 : Hp), H3 ra = none → H4 ra = some (.lst us) → DpAll K H4 us (rows.map Rw.D) → rows.length ≤ 10 → (∀ R ∈ rows, RwOk (M + f) R) → Deck d c (n + 10 + 400 * i + 20) H4 → Ext d c H3 H4 → Qc (.ref ra) H4) →
        tIf (tTest (tOp rEq (tVar 7) (tC (V.int 0)))) (tCall (spFirst K) [] E0 (tCons (tVar 0) (tCons (tVar 1) (tCons (tVar 4) tNil)))) (tLst tNil) [some (.ref d), some (.ref wd), some (.int 9), some (.int (cnt : Int)), some (.ref kt), some (.int (B : Int)), some (.ref bl), some (.int (0 + (i : Int))), x8, x9] H3 Qc := by
      intro Qc hq
      refine ⟨_, rfl, rfl, _, rfl, ?_⟩
      cases hb : decide (V.int (0 + (i : Int)) = V.int 0) with
      | true =>
        exact iteT ⟨.ref d, rfl, .ref wd, rfl, .ref kt, rfl, d, c, wd, kt, _, cnt, M, f, rfl, by omega, ⟨dk3, Ext.refl _, S3.wd, S3.kt⟩, fun ra us rows H4 S4 hra h4 hU hl hok => hq ra us rows H4 hra h4 hU hl hok S4.dk S4.X⟩
      | false =>
        exact iteF ⟨Nat.zero_le _, fun ra hra => hq ra [] [] _ hra upd_same .nil (Nat.zero_le _) (fun _ h => nomatch h) ((dk3.new hra).up (by omega)) (Ext.new hra)⟩
    refine hs _ fun ra us rows H4 hra h4 hU hl hok dk4 X4 => ?_
    have nra := dk3.has hra
    have nrb : ra ≠ bl := fun z => by rw [z, eb3] at hra; cases hra
    refine ⟨.ref d, rfl, d, c, _, 6, rfl, by decide, by decide, by omega, dk4, fun r5 H5 r50 r51 dk5 X5 => ?_⟩
    obtain ⟨k6, rfl⟩ := Int.eq_ofNat_of_zero_le r50
    refine ⟨_, rfl, by omega, by omega, for_range (lo := 0) (n := ((k6 : Nat) : Int).toNat) (fun k σ H6 => ∃ us rows x9, σ = [some (.ref d), some (.ref wd), some (.int 9), some (.int (cnt : Int)), some (.ref kt), some (.int (B : Int)), some (.ref bl), some (.int (0 + (i : Int))), some (.ref ra), x9] ∧ H6 ra = some (.lst us) ∧ DpAll K H6 us (rows.map Rw.D) ∧ rows.length ≤ 10 + k ∧ (∀ R ∈ rows, RwOk (M + f) R) ∧ Deck d c (n + 10 + 400 * i + 21 + 40 * k) H6 ∧ Ext d c H3 H6)
      ⟨us, rows, _, rfl, X5.at nra.1 nra.2 h4, dpAll_kt (ext_kt dk4 X5) _ _ (nlRs rows) hU, hl, hok, dk5.up (by omega), X4.trans X5⟩ ?_ ?_⟩
    · rintro k σ H6 hk ⟨us, rows, x9, rfl, h6, hU, hl, hok, dk6, X6⟩
      have hk6 : k < 6 := by omega
      have S6 := S3.step dk6 X6
      refine ⟨.ref ra, rfl, .inl ⟨rfl, _, .inl (.inl h6)⟩, .ref d, rfl, .ref wd, rfl, .ref kt, rfl, d, c, wd, kt, _, cnt, M, f, rfl, by omega, ⟨dk6, Ext.refl _, S6.wd, S6.kt⟩, fun v R H7 S7 hv hR => ?_⟩
      obtain ⟨m1, m2, m3, m4, m5⟩ := row_step (p := ra) nra hra h6 hU hok dk6 X6 S7.dk S7.X hv hR
      have hul := dpAll_len hU
      rw [List.length_map] at hul
      exact ⟨ra, _, _, rfl, rfl, m1, small_line (by omega), _, rows ++ [R], _, rfl, upd_same, m2, by rw [List.length_append]; show rows.length + 1 ≤ 10 + (k + 1); omega, m3, m4.up (by omega), m5⟩
    · rintro σ H6 ⟨us, rows, x9, rfl, h6, hU, hl, hok, dk6, X6⟩
      have hk6 : k6 ≤ 5 := by omega
      have eb6 := X6.at nbl.1 nbl.2 eb3
      have S6 := S3.step dk6 X6
      refine ⟨.ref bl, rfl, .inl ⟨rfl, _, .inl (.inl eb6)⟩, .ref ra, rfl, ra, us, rfl, .inl ⟨.inl (.inl h6), fun t7 ht7 => ?_⟩⟩
      have s7 := same_new (o := .tup us) ht7
      have g7 : Dp K (upd H6 t7 (.tup us)) (.ref t7) (.tuple (rows.map Rw.D)) := dp_tupN ht7 hU
      have S7 := S6.same s7
      have eb7 := s7 _ _ eb6
      have X67 : Ext d c H6 (upd H6 t7 (.tup us)) := off_same_mono s7
      generalize upd H6 t7 (.tup us) = H7 at s7 g7 S7 eb7 X67 ⊢
      refine ⟨.ref d, rfl, .ref kt, rfl, _, rfl, d, c, kt, _, cnt, M, f, B, rfl, by omega, hB0, hB9, S7.dk, S7.kt, fun ve E1 H8' dk8' X8' ge oe => ⟨(by show 2 ≤ sizeLine; decide), fun t9 ht9 => ?_⟩⟩
      have s9 := same_new (o := .tup [.ref t7, ve]) ht9
      have nl7 : noL (.tuple (rows.map Rw.D)) = true := by
        have := nlRs rows
        simpa only [noL] using this
      have g9 : Dp K (upd H8' t9 (.tup [.ref t7, ve])) (.ref t9) (Blk.D ⟨rows, E1⟩) := dp_tupN ht9 (.cons (dp_kt (ext_kt S7.dk X8') _ _ nl7 g7) (.cons ge .nil))
      have X39 : Ext d c H3 (upd H8' t9 (.tup [.ref t7, ve])) := X6.trans (X67.trans (X8'.trans (off_same_mono s9)))
      have dk9' := dk8'.same s9
      have eb9 := X39.at nbl.1 nbl.2 eb3
      have hbvl := dpAll_len hBs
      rw [List.length_map] at hbvl
      refine ⟨bl, _, _, rfl, rfl, eb9, small_line (by omega), bvs ++ [.ref t9], bs ++ [⟨rows, E1⟩], _, _, _, rfl, upd_same, ?_, by rw [List.length_append, hbl]; rfl, fun b hb => ?_, (dk9'.upd nbl.1 nbl.2).up (by omega), (X3.trans X39).mut hbl8⟩
      · have ke := KT.lst (o := .lst (bvs ++ [.ref t9])) eb9
        rw [List.map_append]
        exact dpAll_app (dpAll_kt ((ext_kt dk3 X39).trans ke) _ _ (noLAll_map fun b _ => nlB b) hBs) (.cons (dp_kt ke _ _ (nlB _) g9) .nil)
      · rcases List.mem_append.mp hb with z | z
        · exact hbok b z
        · rw [List.mem_singleton.mp z]
          exact ⟨hok, stp_up oe (by omega), by show rows.length ≤ 15; omega⟩
  · rintro σ H3 ⟨bvs, bs, x7, x8, x9, rfl, eb3, hBs, hbl, hbok, dk3, X3⟩
    have hbB : bs.length = B := by omega
    refine ⟨_, rfl, .ref bl, rfl, bl, bvs, rfl, .inl ⟨.inl (.inl eb3), fun t4 ht4 => ⟨(by show 2 ≤ sizeLine; decide), fun t5 ht5 => ?_⟩⟩⟩
    have s4 := same_new (o := .tup bvs) ht4
    have s5 := same_new (o := .tup [.int (cnt : Int), .ref t4]) ht5
    refine q _ ⟨cnt, bs⟩ (M + f) _ (((dk3.same s4).same s5).up (by omega)) (X8.trans (X3.trans (off_same_mono (s4.trans s5)))) (dp_tupN ht5 (.cons (.int _) (.cons (dp_tupN ht4 hBs) .nil))) ⟨by show cnt ≤ 3; omega, by show cnt ≤ M + f; omega, hNf, by show 0 < bs.length; omega, by show bs.length ≤ 9; omega, fun b hb => ?_⟩
    show BkOk (M + f) bs.length b
    rw [hbB]
    exact hbok b hb
end
end K52

set_option maxHeartbeats 4000000
namespace K52
open PySem PySem.Spec PyProof.Rows L2 HG P52
def spNearEnd (K : PySem.W.Frag) : Sp := fun vs H Q _ => ∃ (d c : Addr) (n i B N : Nat) (v : V) (E : Stp), vs = [.ref d, v, .int (i : Int), .int (B : Int)] ∧ n < 2 ^ 46 ∧ i < B ∧ B ≤ 9 ∧ Deck d c n H ∧ Dp K H v E.D ∧ StpOk N B E ∧
  ∀ (z : V) (E' : Stp) (H' : Hp), Deck d c (n + 1) H' → Ext d c H H' → Dp K H' z E'.D → StpOk N B E' → Q z H'
section
variable {P : Program} {w : World} {K : PySem.W.Frag} {mg : Str → Option Value} {base : Heap}
set_option pp.maxSteps 600 in
theorem c_near_end (T : Txt w K mg) : Cal P w K mg base "_law_near_end" 2 ["_law_deck_here", "_law_end_here", "_law_number", "_law_many"] (spNearEnd K) := by
  obtain ⟨fd, F⟩ := T.d__law_near_end
  have C__law_draw := c_draw (P := P) (base := base) T
  refine ⟨⟨fd, F.ok sc__law_near_end (fun vs H Q E h => ?_) (fun cdv A outer s H vs Q E hr h => ?_), F.bindsN fun _ _ _ _ _ _ us hl => match us, hl with | [_, _, _, _], _ => rfl⟩, T.g _ (by decide), F.kp⟩
  · obtain ⟨d, c, n, i, B, N, v, E1, rfl, _⟩ := h
    rfl
  obtain ⟨d, c, n, i, B, N, v, E1, rfl, hn, hi, hB, dk, hv, hE, q⟩ := h
  refine ⟨_, PSs.nox (pss_cons (ps_set (i := 4) sc__law_near_end.nd rfl (.inl rfl) (pe_callB (call_min2 rfl) (by rfl) T.n_min (by decide +kernel) (pa_cons (pe_op op_add (pv 2) pe_int) (pa_cons (pe_op op_sub (pv 3) pe_int) pa_nil))))
      (pss_cons (ps_set (i := 5) sc__law_near_end.nd rfl (.inl rfl) (pe_cal C__law_draw (hr.mono (by omega)) (by rfl) (pa_cons (pv 0) (pa_cons pe_int pa_nil))))
      (pss_cons (ps_if (PW.pt (pw_and (pt_cmpR op_eq (pe_ix (ix_P (K := K) rfl) (pv 1) pe_int (fun _ _ => rfl)) pe_str (nomark _)) (pw_and1 (pt_cmpR op_lt (pv 5) pe_int (nomark _))))) (pss_one (ps_ret (pe_tup (pa_cons pe_str (pa_cons (pv 4) pa_nil))))) pss_nil)
      (pss_cons (ps_if (PW.pt (pw_and (pt_cmpR op_eq (pe_ix (ix_P (K := K) rfl) (pv 1) pe_int (fun _ _ => rfl)) pe_str (nomark _)) (pw_and1 (pt_cmpR op_lt (pv 5) pe_int (nomark _))))) (pss_one (ps_ret (pe_op (op_catP (K := K) rfl) (pe_slice (sl_P (K := K) rfl) (pv 1) po_none (po_some pe_int)) (pe_ix (ix_listK (K := K) rfl) (pe_lst (pa_cons (pe_tup (pa_cons (pv 4) (pa_cons (pe_ix (ix_P (K := K) rfl) (pv 1) pe_int (fun _ _ => rfl)) pa_nil))) (pa_cons (pe_tup (pa_cons (pe_ix (ix_P (K := K) rfl) (pv 1) pe_int (fun _ _ => rfl)) (pa_cons (pv 4) pa_nil))) (pa_cons (pe_tup (pa_cons (pv 4) (pa_cons (pv 4) pa_nil))) (pa_cons (pe_tup (pa_cons (pe_ix (ix_P (K := K) rfl) (pv 1) pe_int (fun _ _ => rfl)) (pa_cons (pe_ix (ix_P (K := K) rfl) (pv 1) pe_int (fun _ _ => rfl)) pa_nil))) pa_nil))))) (pv 5) (fun _ _ => rfl))))) pss_nil)
      (pss_one (ps_ret (pe_ifExp (PW.pt (pw_and (pt_cmpR op_eq (pe_ix (ix_P (K := K) rfl) (pv 1) pe_int (fun _ _ => rfl)) pe_str (nomark _)) (pw_and1 (pt_cmpR op_eq (pv 5) pe_int (nomark _))))) (pe_tup (pa_cons pe_str (pa_cons pe_non pa_nil))) (pv 1)))))))), ?_⟩
  obtain ⟨af, eaf, haf⟩ : ∃ af : Nat, (if (B : Int) - 1 < (i : Int) + 1 then (B : Int) - 1 else (i : Int) + 1) = (af : Int) ∧ af < B := by
    by_cases h : (B : Int) - 1 < (i : Int) + 1
    · rw [if_pos h]
      exact ⟨B - 1, by omega, by omega⟩
    · rw [if_neg h]
      exact ⟨i + 1, by omega, by omega⟩
  refine ⟨_, rfl, _, _, rfl, rfl, _, rfl, _, _, rfl, rfl, _, _, rfl, ?_⟩
  show gName 4 (.int (if (B : Int) - 1 < (i : Int) + 1 then (B : Int) - 1 else (i : Int) + 1)) _ _ _
  rw [eaf]
  refine ⟨.ref d, rfl, d, c, _, 6, rfl, by decide, by decide, by omega, dk, fun r1 H1 r10 r11 dk1 X1 => ?_⟩
  obtain ⟨way, rfl⟩ := Int.eq_ofNat_of_zero_le r10
  have hv1 := dp_kt (ext_kt dk X1) _ _ (nlE E1) hv
  have fin : ∀ (z : V) (E' : Stp) (H' : Hp), Same H1 H' → Dp K H' z E'.D → StpOk N B E' → Q z H' := fun z E' H' s h1 h2 => q z E' H' (dk1.same s) (X1.trans (off_same_mono s)) h1 h2
  refine ⟨v, rfl, _, 0, _, hv1, rfl, rfl, fun z hz => ?_⟩
  cases hz
  refine ⟨rfl, _, rfl, ?_⟩
  show if eqw E1.word "jump" = true then _ else _
  have last : ∀ (b : Bool), (b = true → E1.word = "return" → True) → True := fun _ _ => trivial
  have tail3 : ∀ (Qc : VK), (∀ z E' H', Same H1 H' → Dp K H' z E'.D → StpOk N B E' → Qc z H') →
      tIf (tAnd (tTest (tOp rEq (tOp (rIxP K) (tVar 1) (tC (V.int 0))) (tC (V.str "return")))) (tTest (tOp rEq (tVar 5) (tC (V.int 5))))) (tTup (tCons (tC (V.str "return")) (tCons (tC V.non) tNil))) (tVar 1) [some (.ref d), some v, some (.int (i : Int)), some (.int (B : Int)), some (.int (af : Int)), some (.int (way : Int))] H1 Qc := by
    intro Qc hq
    refine ⟨v, rfl, _, 0, _, hv1, rfl, rfl, fun z hz => ?_⟩
    cases hz
    refine ⟨rfl, _, rfl, ?_⟩
    show if eqw E1.word "return" = true then _ else _
    cases h3 : eqw E1.word "return" with
    | false => exact iteF (iteF ⟨v, rfl, hq v E1 H1 (Same.refl _) hv1 hE⟩)
    | true =>
      refine iteT ⟨_, rfl, rfl, _, rfl, ?_⟩
      cases h4 : decide (V.int (way : Int) = V.int 5) with
      | false => exact iteF ⟨v, rfl, hq v E1 H1 (Same.refl _) hv1 hE⟩
      | true => exact iteT ⟨(by show 2 ≤ sizeLine; decide), fun p hp => hq _ (.rt none) _ (same_new hp) (dp_tupN hp (.cons (.str _) (.cons .non .nil))) (fun o ho => by cases ho)⟩
  have tail2 : ∀ (h1 : eqw E1.word "jump" = true → 3 ≤ way), True := fun _ => trivial
  have branch : ∀ (Qc : VK), (∀ z E' H', Same H1 H' → Dp K H' z E'.D → StpOk N B E' → Qc z H') →
      tSeq (tIfS (tAnd (tTest (tOp rEq (tOp (rIxP K) (tVar 1) (tC (V.int 0))) (tC (V.str "branch")))) (tTest (tOp (rI0 fun i j => V.bl (decide (i < j))) (tVar 5) (tC (V.int 4))))) (tRet (tOp (rCatP K) (tSl (rSlP K) (tVar 1) tNoPart (tPart (tC (V.int 2)))) (tOp (rIxL K) (tLst (tCons (tTup (tCons (tVar 4) (tCons (tOp (rIxP K) (tVar 1) (tC (V.int 3))) tNil))) (tCons (tTup (tCons (tOp (rIxP K) (tVar 1) (tC (V.int 2))) (tCons (tVar 4) tNil))) (tCons (tTup (tCons (tVar 4) (tCons (tVar 4) tNil))) (tCons (tTup (tCons (tOp (rIxP K) (tVar 1) (tC (V.int 3))) (tCons (tOp (rIxP K) (tVar 1) (tC (V.int 2))) tNil))) tNil))))) (tVar 5)))) tNext)
        (tRet (tIf (tAnd (tTest (tOp rEq (tOp (rIxP K) (tVar 1) (tC (V.int 0))) (tC (V.str "return")))) (tTest (tOp rEq (tVar 5) (tC (V.int 5))))) (tTup (tCons (tC (V.str "return")) (tCons (tC V.non) tNil))) (tVar 1)))
        { nx := fun x H' => Q V.non H', rt := Qc } [some (.ref d), some v, some (.int (i : Int)), some (.int (B : Int)), some (.int (af : Int)), some (.int (way : Int))] H1 := by
    intro Qc hq
    refine ⟨v, rfl, _, 0, _, hv1, rfl, rfl, fun z hz => ?_⟩
    cases hz
    refine ⟨rfl, _, rfl, ?_⟩
    show if eqw E1.word "branch" = true then _ else _
    cases h2 : eqw E1.word "branch" with
    | false => exact iteF (iteF (tail3 Qc hq))
    | true =>
      refine iteT ⟨_, rfl, _, _, rfl, rfl, _, rfl, ?_⟩
      cases h3 : decide ((way : Int) < 4) with
      | false => exact iteF (tail3 Qc hq)
      | true =>
        have hw : way < 4 := by
          have := of_decide_eq_true h3
          omega
        obtain ⟨a, m1, m2, rfl⟩ := stp1 h2
        refine iteT ⟨v, rfl, 2, rfl, _, hv1, fun z2 H2 s2 g2 => ?_⟩
        rw [show (some (2 : Int)) = some ((2 : Nat) : Int) from rfl, cutP_to] at g2
        have ix3 : ∀ (H3 : Hp), Same H2 H3 → Dp K H3 v (Stp.br a m1 m2).D := fun H3 s => dp_mono (s2.trans s) _ _ hv1
        refine ⟨_, rfl, v, rfl, _, 3, _, ix3 H2 (Same.refl _), rfl, rfl, fun z hz => ?_⟩
        cases hz
        refine ⟨(by show 2 ≤ sizeLine; decide), fun t1 ht1 => ?_⟩
        have s3 := same_new (o := .tup [.int (af : Int), .int (m2 : Int)]) ht1
        have g3 : Dp K (upd H2 t1 (.tup [.int (af : Int), .int (m2 : Int)])) (.ref t1) (.tuple [.int (af : Int), .int (m2 : Int)]) := dp_tupN ht1 (.cons (.int _) (.cons (.int _) .nil))
        generalize upd H2 t1 (.tup [.int (af : Int), .int (m2 : Int)]) = H3 at s3 g3 ⊢
        refine ⟨v, rfl, _, 2, _, ix3 H3 s3, rfl, rfl, fun z hz => ?_⟩
        cases hz
        refine ⟨_, rfl, (by show 2 ≤ sizeLine; decide), fun t2 ht2 => ?_⟩
        have s4 := same_new (o := .tup [.int (m1 : Int), .int (af : Int)]) ht2
        have g4 : Dp K (upd H3 t2 (.tup [.int (m1 : Int), .int (af : Int)])) (.ref t2) (.tuple [.int (m1 : Int), .int (af : Int)]) := dp_tupN ht2 (.cons (.int _) (.cons (.int _) .nil))
        have S4 := s3.trans s4
        have g3 := dp_mono s4 _ _ g3
        generalize upd H3 t2 (.tup [.int (m1 : Int), .int (af : Int)]) = H4 at s4 g4 S4 g3 ⊢
        refine ⟨_, rfl, _, rfl, (by show 2 ≤ sizeLine; decide), fun t3 ht3 => ?_⟩
        have s5 := same_new (o := .tup [.int (af : Int), .int (af : Int)]) ht3
        have g5 : Dp K (upd H4 t3 (.tup [.int (af : Int), .int (af : Int)])) (.ref t3) (.tuple [.int (af : Int), .int (af : Int)]) := dp_tupN ht3 (.cons (.int _) (.cons (.int _) .nil))
        have S5 := S4.trans s5
        have g3 := dp_mono s5 _ _ g3
        have g4 := dp_mono s5 _ _ g4
        generalize upd H4 t3 (.tup [.int (af : Int), .int (af : Int)]) = H5 at s5 g5 S5 g3 g4 ⊢
        refine ⟨v, rfl, _, 3, _, ix3 H5 S5, rfl, rfl, fun z hz => ?_⟩
        cases hz
        refine ⟨v, rfl, _, 2, _, ix3 H5 S5, rfl, rfl, fun z hz => ?_⟩
        cases hz
        refine ⟨(by show 2 ≤ sizeLine; decide), fun t4 ht4 => ?_⟩
        have s6 := same_new (o := .tup [.int (m2 : Int), .int (m1 : Int)]) ht4
        have g6 : Dp K (upd H5 t4 (.tup [.int (m2 : Int), .int (m1 : Int)])) (.ref t4) (.tuple [.int (m2 : Int), .int (m1 : Int)]) := dp_tupN ht4 (.cons (.int _) (.cons (.int _) .nil))
        have S6 := S5.trans s6
        have g3 := dp_mono s6 _ _ g3
        have g4 := dp_mono s6 _ _ g4
        have g5 := dp_mono s6 _ _ g5
        generalize upd H5 t4 (.tup [.int (m2 : Int), .int (m1 : Int)]) = H6 at s6 g6 S6 g3 g4 g5 ⊢
        refine ⟨(by show 4 ≤ sizeLine; decide), fun l hl => ?_⟩
        have s7 := same_new (o := .lst [.ref t1, .ref t2, .ref t3, .ref t4]) hl
        have all : DpAll K (upd H6 l (.lst [.ref t1, .ref t2, .ref t3, .ref t4])) [.ref t1, .ref t2, .ref t3, .ref t4] (([(af, m2), (m1, af), (af, af), (m2, m1)] : List (Nat × Nat)).map fun p => PyData.tuple [.int (p.1 : Int), .int (p.2 : Int)]) := dpAll_mono s7 _ _ (.cons g3 (.cons g4 (.cons g5 (.cons g6 .nil))))
        obtain ⟨y, hy⟩ : ∃ y, ([.ref t1, .ref t2, .ref t3, .ref t4] : List V)[way]? = some y := ⟨_, List.getElem?_eq_getElem (show way < 4 from hw)⟩
        obtain ⟨p, hp, hyp⟩ := dpAll_map_get all hy
        refine ⟨_, rfl, l, _, _, _, rfl, rfl, .inl (.inl upd_same), atI_nat hy, _, _, dp_mono (S6.trans s7) _ _ g2, hyp, (by show 4 ≤ sizeLine; decide), fun z8 H8 s8 h8 => hq z8 (.br a p.1 p.2) H8 (s2.trans (S6.trans (s7.trans s8))) h8 ?_⟩
        have hm := List.mem_of_getElem? hp
        have h0 := hE.1
        have h5 := hE.2.1
        have h6 := hE.2.2
        simp only [List.mem_cons, List.not_mem_nil, or_false] at hm
        rcases hm with rfl | rfl | rfl | rfl
        · exact ⟨h0, haf, h6⟩
        · exact ⟨h0, h5, haf⟩
        · exact ⟨h0, haf, haf⟩
        · exact ⟨h0, h6, h5⟩
  cases h1 : eqw E1.word "jump" with
  | false => exact iteF (iteF (branch Q fin))
  | true =>
    refine iteT ⟨_, rfl, _, _, rfl, rfl, _, rfl, ?_⟩
    cases h2 : decide ((way : Int) < 3) with
    | false => exact iteF (branch Q fin)
    | true => exact iteT ⟨_, rfl, (by show 2 ≤ sizeLine; decide), fun p hp => fin _ (.jp af) _ (same_new hp) (dp_tupN hp (.cons (.str _) (.cons (.int _) .nil))) haf⟩
end
end K52

set_option maxHeartbeats 4000000
namespace K52
open PySem PySem.Spec PyProof.Rows L2 HG P52
def spNearer (K : PySem.W.Frag) : Sp := fun vs H Q _ => ∃ (d c : Addr) (n N : Nat) (v : V) (g : Gr), vs = [.ref d, v] ∧ n < 2 ^ 45 ∧ Deck d c n H ∧ Dp K H v g.D ∧ GrOk N g ∧
  ∀ (z : V) (g' : Gr) (H' : Hp), Deck d c (n + 20) H' → Ext d c H H' → Dp K H' z g'.D → GrOk N g' → Q z H'
section
variable {P : Program} {w : World} {K : PySem.W.Frag} {mg : Str → Option Value} {base : Heap}
set_option pp.maxSteps 600 in
theorem c_nearer (T : Txt w K mg) : Cal P w K mg base "_law_nearer" 3 ["_law_deck_here", "_law_shape"] (spNearer K) := by
  obtain ⟨fd, F⟩ := T.d__law_nearer
  have C__law_draw := c_draw (P := P) (base := base) T
  have C__law_near_end := c_near_end (P := P) (base := base) T
  refine ⟨⟨fd, F.ok sc__law_nearer (fun vs H Q E h => ?_) (fun cdv A outer s H vs Q E hr h => ?_), F.bindsN fun _ _ _ _ _ _ us hl => match us, hl with | [_, _], _ => rfl⟩, T.g _ (by decide), F.kp⟩
  · obtain ⟨d, c, n, N, v, g, rfl, _⟩ := h
    rfl
  obtain ⟨d, c, n, N, v, g, rfl, hn, dk, hv, hg, q⟩ := h
  refine ⟨_, PSs.nox (pss_cons (ps_set (i := 2) sc__law_nearer.nd rfl (.inl rfl) (pe_lst pa_nil))
      (pss_cons (ps_for PassesOwn.never rfl (pi_enumT (by rfl) T.n_enumerate (pa_cons (pe_ix (ix_P (K := K) rfl) (pv 1) pe_int (fun _ _ => rfl)) pa_nil)) (pg_tupK (K := K) (n := 2) rfl rfl (pgs_cons (pg_name (i := 3) sc__law_nearer.nd rfl (.inl rfl)) (pgs_cons (pg_name (i := 4) sc__law_nearer.nd rfl (.inl rfl)) pgs_nil))) (pss_cons (ps_set (i := 5) sc__law_nearer.nd rfl (.inl rfl) (pe_ifExp (PW.pt (pw_or (pt_cmpR op_eq (pv 3) pe_int (nomark _)) (pw_or1 (pt_cmpR op_eq (pe_cal C__law_draw (hr.mono (by omega)) (by rfl) (pa_cons (pv 0) (pa_cons pe_int pa_nil))) pe_int (nomark _))))) (pe_ix (ix_P (K := K) rfl) (pv 4) pe_int (fun _ _ => rfl)) (pe_tup pa_nil)))
      (pss_one (ps_expr (pe_bm PySem.F.plainAttrs_list PySem.F.slot_list_append PySem.F.type_list_append mt_append (pv 2) (pa_cons (pe_tup (pa_cons (pv 5) (pa_cons (pe_cal C__law_near_end (hr.mono (by omega)) (by rfl) (pa_cons (pv 0) (pa_cons (pe_ix (ix_P (K := K) rfl) (pv 4) pe_int (fun _ _ => rfl)) (pa_cons (pv 3) (pa_cons (pe_callB (lenK (K := K) rfl) (by rfl) T.n_len (by decide +kernel) (pa_cons (pe_ix (ix_P (K := K) rfl) (pv 1) pe_int (fun _ _ => rfl)) pa_nil)) pa_nil))))) pa_nil))) pa_nil))))))
      (pss_one (ps_ret (pe_tup (pa_cons (pe_ix (ix_P (K := K) rfl) (pv 1) pe_int (fun _ _ => rfl)) (pa_cons (pe_callTy call_tuple_of (by rfl) T.n_tuple (by decide +kernel) (pa_cons (pv 2) pa_nil)) pa_nil))))))), ?_⟩
  refine ⟨Nat.zero_le _, fun bl hbl => ?_⟩
  have nbl := dk.has hbl
  have s0 := same_new (o := .lst []) hbl
  have dk0 := dk.same s0
  have e0 : (upd H bl (.lst [])) bl = some (.lst []) := upd_same
  have X0 : Ext d c H (upd H bl (.lst [])) := off_same_mono s0
  have hv0 := dp_mono s0 _ _ hv
  generalize upd H bl (.lst []) = H0 at s0 dk0 e0 X0 hv0 ⊢
  refine ⟨v, rfl, _, 1, _, hv0, rfl, rfl, fun zb hzb => ?_⟩
  have hmany := hg.many
  cases hzb with
  | @tup ab xb _ sqb hab =>
    have hlb := dpAll_len hab
    rw [List.length_map] at hlb
    refine ⟨ab, xb, rfl, sqb, ?_⟩
    refine for_it (walk_enumT (xs := xb)) (fun i σ H3 => ∃ bvs bs x3 x4 x5, σ = [some (.ref d), some v, some (.ref bl), x3, x4, x5] ∧ H3 bl = some (.lst bvs) ∧ DpAll K H3 bvs (bs.map Blk.D) ∧ bs.length = i ∧ (∀ b ∈ bs, BkOk N g.blocks.length b) ∧ Deck d c (n + 2 * i) H3 ∧ Ext d c H H3 ∧ KT H0 H3) ⟨[], [], _, _, _, rfl, e0, .nil, rfl, (fun _ h => nomatch h), dk0, X0, KT.refl _⟩ ?_ ?_ ?_
    · rintro i σ H3 _ ⟨bvs, bs, x3, x4, x5, rfl, _, _, _, _, _, _, k3⟩
      exact sqT_kt k3 sqb
    · rintro i x σ H3 H4 hi ⟨bvs, bs, x3, x4, x5, rfl, e3, hBs, hbl2, hbok, dk3, X3, k3⟩ ⟨T1, y1, y2, rfl, hT1, rfl, e1, e2⟩
      injection e1 with e1
      subst e1
      obtain ⟨bk, hbk, hy2⟩ := dpAll_map_get hab e2
      have hbm := List.mem_of_getElem? hbk
      have okb := hg.blk bk hbm
      have sT := same_new (o := .tup [.int (i : Nat), y2]) hT1
      have hiB : i < g.blocks.length := (List.getElem?_eq_some_iff.mp hbk).1
      refine ⟨T1, _, rfl, .inl (.inl upd_same), rfl, _, _, rfl, _, _, rfl, rfl, ?_⟩
      have k4 := k3.trans (KT.of sT)
      have dk4 := dk3.same sT
      have X4 := X3.trans (off_same_mono sT)
      have e4 := sT _ _ e3
      have hB4 := dpAll_mono sT _ _ hBs
      have gy := dp_kt k4 _ _ (nlB bk) hy2
      generalize upd H3 T1 (.tup [.int (i : Nat), y2]) = H4 at k4 dk4 X4 e4 hB4 gy ⊢
      have hs : ∀ (Qc : VK), (∀ (z : V) (rows : List Rw) (H5 : Hp), Dp K H5 z (.tuple (rows.map Rw.D)) → (∀ R ∈ rows, RwOk N R) → rows.length ≤ 15 → Deck d c (n + 2 * i + 1) H5 → Ext d c H4 H5 → Qc z H5) →
          tIf (tOr (tTest (tOp rEq (tVar 3) (tC (V.int 0)))) (tTest (tOp rEq (tCall spDraw [] E0 (tCons (tVar 0) (tCons (tC (V.int 2)) tNil))) (tC (V.int 0))))) (tOp (rIxP K) (tVar 4) (tC (V.int 0))) (tTup tNil) [some (.ref d), some v, some (.ref bl), some (.int (i : Nat)), some y2, x5] H4 Qc := by
        intro Qc hq
        have yes : ∀ (H5 : Hp), Deck d c (n + 2 * i + 1) H5 → Ext d c H4 H5 → tOp (rIxP K) (tVar 4) (tC (V.int 0)) [some (.ref d), some v, some (.ref bl), some (.int (i : Nat)), some y2, x5] H5 Qc := fun H5 dk5 X5 => ⟨y2, rfl, _, 0, _, dp_kt (ext_kt dk4 X5) _ _ (nlB bk) gy, rfl, rfl, fun z hz => hq z bk.rows H5 hz okb.rows okb.len dk5 X5⟩
        refine ⟨_, rfl, rfl, _, rfl, ?_⟩
        cases hb : decide (V.int ((i : Nat) : Int) = V.int 0) with
        | true => exact iteT (iteT (yes H4 (dk4.up (by omega)) (Ext.refl _)))
        | false =>
          refine iteF ⟨.ref d, rfl, d, c, _, 2, rfl, by decide, by decide, by omega, dk4, fun r H5 r0 r1 dk5 X5 => ⟨rfl, _, rfl, ?_⟩⟩
          cases hb2 : decide (V.int r = V.int 0) with
          | true => exact iteT (yes H5 dk5 X5)
          | false => exact iteF ⟨Nat.zero_le _, fun p hp => hq _ [] _ (dp_tupN hp .nil) (fun _ h => nomatch h) (Nat.zero_le _) (dk5.new hp) (X5.trans (Ext.new hp))⟩
      refine hs _ fun z rows H5 hz hrok hrl dk5 X5 => ?_
      have k5 := ext_kt dk4 X5
      have e5 := X5.at nbl.1 nbl.2 e4
      have gy5 := dp_kt k5 _ _ (nlB bk) gy
      have hv5 := dp_kt (k4.trans k5) _ _ (nlG g) hv0
      refine ⟨.ref bl, rfl, .inl ⟨rfl, _, .inl (.inl e5)⟩, z, rfl, .ref d, rfl, y2, rfl, _, 1, _, gy5, rfl, rfl, fun ze hze => ⟨_, rfl, v, rfl, _, 1, _, hv5, rfl, rfl, fun zb2 hzb2 => ?_⟩⟩
      cases hzb2 with
      | @tup ab2 xb2 _ sqb2 hab2 =>
        have hlb2 := dpAll_len hab2
        rw [List.length_map] at hlb2
        refine ⟨.ref ab2, _, rfl, .inr ⟨xb2, sqb2, rfl⟩, d, c, _, i, g.blocks.length, N, ze, bk.stop, by rw [hlb2]; rfl, by omega, hiB, hmany, dk5, hze, okb.stop, fun z6 E6 H6 dk6 X6 h6 o6 => ⟨(by show 2 ≤ sizeLine; decide), fun p7 hp7 => ?_⟩⟩
        have s7 := same_new (o := .tup [z, z6]) hp7
        have nlz : noL (.tuple (rows.map Rw.D)) = true := by
          have := nlRs rows
          simpa only [noL] using this
        have g7 : Dp K (upd H6 p7 (.tup [z, z6])) (.ref p7) (Blk.D ⟨rows, E6⟩) := dp_tupN hp7 (.cons (dp_kt (ext_kt dk5 X6) _ _ nlz hz) (.cons h6 .nil))
        have X47 : Ext d c H4 (upd H6 p7 (.tup [z, z6])) := X5.trans (X6.trans (off_same_mono s7))
        have dk7 := dk6.same s7
        have e7 := X47.at nbl.1 nbl.2 e4
        have k47 := ext_kt dk4 X47
        have ke := KT.lst (o := .lst (bvs ++ [.ref p7])) e7
        have hbvl := dpAll_len hBs
        rw [List.length_map] at hbvl
        refine ⟨bl, _, _, rfl, rfl, e7, small_line (by omega), bvs ++ [.ref p7], bs ++ [⟨rows, E6⟩], _, _, _, rfl, upd_same, ?_, by rw [List.length_append, hbl2]; rfl, fun b hb => ?_, (dk7.upd nbl.1 nbl.2).up (by omega), (X4.trans X47).mut hbl, (k4.trans k47).trans ke⟩
        · rw [List.map_append]
          exact dpAll_app (dpAll_kt (k47.trans ke) _ _ (noLAll_map fun b _ => nlB b) hB4) (.cons (dp_kt ke _ _ (nlB _) g7) .nil)
        · rcases List.mem_append.mp hb with y | y
          · exact hbok b y
          · rw [List.mem_singleton.mp y]
            exact ⟨hrok, o6, hrl⟩
    · rintro σ H3 ⟨bvs, bs, x3, x4, x5, rfl, e3, hBs, hbl2, hbok, dk3, X3, k3⟩
      have hbB : bs.length = g.blocks.length := by omega
      have hv3 := dp_kt k3 _ _ (nlG g) hv0
      refine ⟨v, rfl, _, 0, _, hv3, rfl, rfl, fun z hz => ?_⟩
      cases hz
      refine ⟨.ref bl, rfl, bl, bvs, rfl, .inl ⟨.inl (.inl e3), fun t4 ht4 => ⟨(by show 2 ≤ sizeLine; decide), fun t5 ht5 => ?_⟩⟩⟩
      have s4 := same_new (o := .tup bvs) ht4
      have s5 := same_new (o := .tup [.int (g.count : Int), .ref t4]) ht5
      have hpos := hg.pos
      refine q _ ⟨g.count, bs⟩ _ (((dk3.same s4).same s5).up (by omega)) (X3.trans (off_same_mono (s4.trans s5))) (dp_tupN ht5 (.cons (.int _) (.cons (dp_tupN ht4 hBs) .nil))) ⟨hg.count, hg.cN, hg.small, by show 0 < bs.length; omega, by show bs.length ≤ 9; omega, fun b hb => ?_⟩
      show BkOk N bs.length b
      rw [hbB]
      exact hbok b hb
end
end K52

set_option maxHeartbeats 4000000
namespace K52
open PySem PySem.Spec PyProof.Rows L2 HG P52
/-! ### lines: a row or an end -/
inductive Ln where
  | r (R : Rw)
  | e (E : Stp)
def Ln.word : Ln → Str
  | .r R => R.word
  | .e E => E.word
def Ln.L : Ln → List PyData
  | .r R => R.L
  | .e E => E.L
def Ln.los : Ln → List (Option Opd)
  | .r R => R.ops.map some
  | .e (.jp _) => []
  | .e (.br a _ _) => [some a]
  | .e (.rt a) => [a]
  | .e (.ht _) => []
def Ln.ops : Ln → List Opd
  | .r R => R.ops
  | .e E => E.ops
def ooV : Option Opd → List Nat
  | none => []
  | some a => a.vars
theorem los_vars (L : Ln) : L.los.flatMap ooV = opsVars L.ops := by
  cases L with
  | r R =>
    simp only [Ln.los, Ln.ops, opsVars, List.flatMap_map]
    rfl
  | e E =>
    cases E with
    | jp n => rfl
    | br a n m => rfl
    | rt a => cases a <;> rfl
    | ht i => rfl
theorem ln0 (L : Ln) : L.L[0]? = some (.str L.word) := by cases L <;> rfl
theorem ln_va {L : Ln} (h : in2 L.word "copy" "apply" = true) : ∃ (f : Nat) (as : List Opd), L.L[2]? = some (.int (f : Int)) ∧ (L.L ++ [.tuple []])[3]? = some (.tuple (as.map oD)) ∧ L.los.map ooD = vD f :: as.map oD ∧ as.length ≤ L.los.length ∧ L.L.length ≤ 5 := by
  cases L with
  | r R =>
    cases R
    case cp v u => exact ⟨u, [], rfl, rfl, rfl, Nat.zero_le _, Nat.le_of_ble_eq_true rfl⟩
    case ap v f as => exact ⟨f, as, rfl, rfl, by simp only [Ln.los, Rw.ops, List.map_cons, List.map_map]; rfl, by simp only [Ln.los, Rw.ops, List.map_cons, List.length_cons, List.length_map]; omega, Nat.le_of_ble_eq_true rfl⟩
    all_goals exact absurd h (by dsimp only [Ln.word, Rw.word]; decide +kernel)
  | e E => cases E <;> exact absurd h (by dsimp only [Ln.word, Stp.word]; decide +kernel)
theorem ln_call {L : Ln} (h : eqw L.word "call" = true) : L.L[3]? = some (.tuple (L.los.map ooD)) := by
  cases L with
  | r R =>
    cases R
    case ca v x as =>
      show some (PyData.tuple (as.map oD)) = some (PyData.tuple ((as.map some).map ooD))
      rw [List.map_map]
      rfl
    all_goals exact absurd h (by dsimp only [Ln.word, Rw.word]; decide +kernel)
  | e E => cases E <;> exact absurd h (by dsimp only [Ln.word, Stp.word]; decide +kernel)
theorem ln_br {L : Ln} (h : eqw L.word "branch" = true) : ∃ d, L.L[1]? = some d ∧ L.los.map ooD = [d] := by
  cases L with
  | r R =>
    cases R <;> exact absurd h (by dsimp only [Ln.word, Rw.word]; decide +kernel)
  | e E =>
    cases E
    case br a n m => exact ⟨_, rfl, rfl⟩
    all_goals exact absurd h (by dsimp only [Ln.word, Stp.word]; decide +kernel)
abbrev lastKV : List (Key × V) := [(Sum.inr "op", .int 3), (Sum.inr "read", .int 3), (Sum.inr "store", .int 2), (Sum.inr "write", .int 2), (Sum.inr "print", .int 1), (Sum.inr "return", .int 1)]
def lastV (x : Str) (n : Nat) : V := (valV lastKV (Sum.inr x)).getD (.int (n : Int))
theorem mergeLast : mergeK [] lastKV = lastKV := by decide +kernel
theorem ln_drop {L : Ln} (h1 : in2 L.word "copy" "apply" = false) (h2 : eqw L.word "call" = false) (h3 : eqw L.word "branch" = false) : ∃ k : Nat, lastV L.word L.L.length = .int (k : Int) ∧ L.L.drop k = L.los.map ooD := by
  cases L with
  | r R =>
    cases R with
    | cw v i => exact ⟨3, (by decide +kernel : lastV "const" 3 = .int ((3 : Nat) : Int)), rfl⟩
    | cf v i => exact ⟨3, (by decide +kernel : lastV "const" 3 = .int ((3 : Nat) : Int)), rfl⟩
    | cp v u => exact absurd h1 (by dsimp only [Ln.word, Rw.word]; decide +kernel)
    | op v x a b => exact ⟨3, (by decide +kernel : lastV "op" 5 = .int ((3 : Nat) : Int)), rfl⟩
    | ld v x => exact ⟨3, (by decide +kernel : lastV "load" 3 = .int ((3 : Nat) : Int)), rfl⟩
    | rd v x a => exact ⟨3, (by decide +kernel : lastV "read" 4 = .int ((3 : Nat) : Int)), rfl⟩
    | ca v x as => exact absurd h2 (by dsimp only [Ln.word, Rw.word]; decide +kernel)
    | ap v x as => exact absurd h1 (by dsimp only [Ln.word, Rw.word]; decide +kernel)
    | st x a => exact ⟨2, (by decide +kernel : lastV "store" 3 = .int ((2 : Nat) : Int)), rfl⟩
    | pr a => exact ⟨1, (by decide +kernel : lastV "print" 2 = .int ((1 : Nat) : Int)), rfl⟩
    | wr x a b => exact ⟨2, (by decide +kernel : lastV "write" 4 = .int ((2 : Nat) : Int)), rfl⟩
  | e E =>
    cases E with
    | jp n => exact ⟨2, (by decide +kernel : lastV "jump" 2 = .int ((2 : Nat) : Int)), rfl⟩
    | br a n m => exact absurd h3 (by dsimp only [Ln.word, Stp.word]; decide +kernel)
    | rt a => exact ⟨1, (by decide +kernel : lastV "return" 2 = .int ((1 : Nat) : Int)), rfl⟩
    | ht i => exact ⟨2, (by decide +kernel : lastV "halt" 2 = .int ((2 : Nat) : Int)), rfl⟩
def spOperands (K : PySem.W.Frag) : Sp := fun vs H Q _ => ∃ (v : V) (L : Ln), vs = [v] ∧ Dp K H v (.tuple L.L) ∧ L.los.length ≤ 1000 ∧
  ∀ (a : Addr) (xs : List V) (H' : Hp), H a = none → Same H H' → H' a = some (.lst xs) → DpAll K H' xs (L.los.map ooD) → Q (.ref a) H'
section
variable {P : Program} {w : World} {K : PySem.W.Frag} {mg : Str → Option Value} {base : Heap}
set_option pp.maxSteps 600 in
theorem c_operands (T : Txt w K mg) : Cal P w K mg base "_law_operands" 1 ["_law_row_here"] (spOperands K) := by
  obtain ⟨fd, F⟩ := T.d__law_operands
  refine ⟨⟨fd, F.ok sc__law_operands (fun vs H Q E h => ?_) (fun cdv A outer s H vs Q E hr h => ?_), F.bindsN fun _ _ _ _ _ _ us hl => match us, hl with | [_], _ => rfl⟩, T.g _ (by decide), F.kp⟩
  · obtain ⟨v, L, rfl, _⟩ := h
    rfl
  obtain ⟨v, L, rfl, hv, hl, q⟩ := h
  have hu := hu_of hr
  refine ⟨_, PSs.nox (pss_cons (ps_set (i := 1) sc__law_operands.nd rfl (.inl rfl) (pe_ix (ix_P (K := K) rfl) (pv 0) pe_int (fun _ _ => rfl)))
      (pss_cons (ps_if (pt_cmpR (op_in_seqK (K := K) rfl) (pv 1) (pe_tup (pa_cons pe_str (pa_cons pe_str pa_nil))) (by rfl)) (pss_one (ps_ret (pe_op op_cat (pe_lst (pa_cons (pe_tup (pa_cons pe_str (pa_cons (pe_ix (ix_P (K := K) rfl) (pv 0) pe_int (fun _ _ => rfl)) pa_nil))) pa_nil)) (pe_callTy call_list_of (by rfl) T.n_list (by decide +kernel) (pa_cons (pe_ix (ix_P (K := K) rfl) (pe_op (op_catP (K := K) rfl) (pv 0) (pe_tup (pa_cons (pe_tup pa_nil) pa_nil))) pe_int (fun _ _ => rfl)) pa_nil))))) pss_nil)
      (pss_cons (ps_set (i := 2) sc__law_operands.nd rfl (.inl rfl) (pe_dget2 hu (pe_disp (pps_cons pe_str pe_int (pps_cons pe_str pe_int (pps_cons pe_str pe_int (pps_cons pe_str pe_int (pps_cons pe_str pe_int (pps_cons pe_str pe_int pps_nil)))))) (by rfl) (by rfl) (fun z => by cases z) (by decide)) (pv 1) (pe_callB (lenK (K := K) rfl) (by rfl) T.n_len (by decide +kernel) (pa_cons (pv 0) pa_nil)) ⟨rfl, rfl, rfl, rfl⟩))
      (pss_cons (ps_if (pt_cmpR op_eq (pv 1) pe_str (nomark _)) (pss_one (ps_ret (pe_callTy call_list_of (by rfl) T.n_list (by decide +kernel) (pa_cons (pe_ix (ix_P (K := K) rfl) (pv 0) pe_int (fun _ _ => rfl)) pa_nil)))) pss_nil)
      (pss_one (ps_ret (pe_ifExp (pt_cmpR op_eq (pv 1) pe_str (nomark _)) (pe_lst (pa_cons (pe_ix (ix_P (K := K) rfl) (pv 0) pe_int (fun _ _ => rfl)) pa_nil)) (pe_callTy call_list_of (by rfl) T.n_list (by decide +kernel) (pa_cons (pe_slice (sl_P (K := K) rfl) (pv 0) (po_some (pv 2)) po_none) pa_nil))))))))), ?_⟩
  refine ⟨v, rfl, _, 0, _, hv, rfl, ln0 L, fun z hz => ?_⟩
  cases hz
  refine ⟨_, rfl, (by show 2 ≤ sizeLine; decide), fun p1 hp1 => ⟨_, _, rfl, .inr (.inl (.inl upd_same)), rfl, rfl, _, rfl, ?_⟩⟩
  have s1 := same_new (o := .tup [.str "copy", .str "apply"]) hp1
  generalize upd H p1 (.tup [.str "copy", .str "apply"]) = H1 at s1 ⊢
  have hv1 := dp_mono s1 _ _ hv
  show if in2 L.word "copy" "apply" = true then _ else _
  cases h1 : in2 L.word "copy" "apply" with
  | true =>
    obtain ⟨f, as, e2, e3, e4, e5, e6⟩ := ln_va h1
    refine iteT ⟨v, rfl, _, 2, _, hv1, rfl, e2, fun z2 h2 => ?_⟩
    cases h2
    refine ⟨(by show 2 ≤ sizeLine; decide), fun p3 hp3 => ⟨(by show 1 ≤ sizeLine; decide), fun l4 hl4 => ?_⟩⟩
    have s3 := same_new (o := .tup [.str "var", .int (f : Int)]) hp3
    have d3 : Dp K (upd H1 p3 (.tup [.str "var", .int (f : Int)])) (.ref p3) (vD f) := dp_tupN hp3 (.cons (.str _) (.cons (.int _) .nil))
    generalize upd H1 p3 (.tup [.str "var", .int (f : Int)]) = H3 at s3 d3 hl4 ⊢
    have s4 := same_new (o := .lst [.ref p3]) hl4
    have e40 : (upd H3 l4 (.lst [.ref p3])) l4 = some (.lst [.ref p3]) := upd_same
    generalize upd H3 l4 (.lst [.ref p3]) = H4 at s4 e40 ⊢
    have s14 := s3.trans s4
    refine ⟨v, rfl, Nat.zero_le _, fun p5 hp5 => ⟨(by show 1 ≤ sizeLine; decide), fun p6 hp6 => ?_⟩⟩
    have s5 := same_new (o := .tup []) hp5
    have d5 : Dp K (upd H4 p5 (.tup [])) (.ref p5) (.tuple []) := dp_tupN hp5 .nil
    generalize upd H4 p5 (.tup []) = H5 at s5 d5 hp6 ⊢
    have s6 := same_new (o := .tup [.ref p5]) hp6
    have d6 : Dp K (upd H5 p6 (.tup [.ref p5])) (.ref p6) (.tuple [.tuple []]) := dp_tupN hp6 (.cons d5 .nil)
    generalize upd H5 p6 (.tup [.ref p5]) = H6 at s6 d6 ⊢
    refine ⟨_, _, dp_mono (s14.trans (s5.trans s6)) _ _ hv1, d6, ?_, fun z7 H7 s7 h7 => ⟨_, 3, _, h7, rfl, e3, fun z8 h8 => ?_⟩⟩
    · rw [sizeLine_eq]
      show L.L.length + 1 ≤ 16777216
      omega
    cases h8 with
    | @tup a8 xs8 _ sq8 ha8 =>
      have hxl := dpAll_len ha8
      rw [List.length_map] at hxl
      refine ⟨a8, xs8, rfl, .inr sq8, fun l9 hl9 => ?_⟩
      have s9 := same_new (o := .lst xs8) hl9
      have e90 : (upd H7 l9 (.lst xs8)) l9 = some (.lst xs8) := upd_same
      have s49 := s5.trans (s6.trans (s7.trans s9))
      have ha9 := dpAll_mono s9 _ _ ha8
      generalize upd H7 l9 (.lst xs8) = H9 at s9 e90 s49 ha9 ⊢
      refine ⟨l4, l9, _, _, rfl, rfl, s49 _ _ e40, e90, ?_, fun p10 hp10 => ?_⟩
      · rw [sizeLine_eq]
        show 1 + xs8.length ≤ 16777216
        omega
      have s10 := same_new (o := .lst ([.ref p3] ++ xs8)) hp10
      have sA := s1.trans (s14.trans s49)
      refine q p10 _ _ (none_same sA hp10) (sA.trans s10) upd_same ?_
      rw [e4]
      exact .cons (dp_mono (s4.trans (s49.trans s10)) _ _ d3) (dpAll_mono s10 _ _ ha9)
  | false =>
    refine iteF ?_
    intro dd hdd
    refine ⟨upd_same, lastKV, rfl, (by show 6 ≤ 15; decide), ?_⟩
    generalize eH : upd (upd H1 dd (.dK [])) dd (.dK (mergeK [] lastKV)) = H2
    have s2 : Same H1 H2 := fun b o e => by
      rw [← eH, upd_ne (ne_of_none e hdd), upd_ne (ne_of_none e hdd)]
      exact e
    have hd2 : H2 dd = some (.dK lastKV) := by
      rw [← eH, upd_same, mergeLast]
    have s02 := s1.trans s2
    have hv2 := dp_mono s02 _ _ hv
    have hlv : LenV K v H2 L.L.length := by
      cases hv2 with
      | @tup a2 xs2 _ sq2 ha2 => exact .inr ⟨xs2, sq2, (dpAll_len ha2).symm⟩
    refine ⟨dd, rfl, .inl ⟨_, .inl hd2⟩, _, rfl, v, rfl, v, _, rfl, hlv, _, DGet.k (k := Sum.inr L.word) hd2, ?_⟩
    refine ⟨_, rfl, rfl, _, rfl, ?_⟩
    show if eqw L.word "call" = true then _ else _
    cases h2 : eqw L.word "call" with
    | true =>
      refine iteT ⟨v, rfl, _, 3, _, hv2, rfl, ln_call h2, fun z3 h3 => ?_⟩
      cases h3 with
      | @tup a8 xs8 _ sq8 ha8 =>
        refine ⟨a8, xs8, rfl, .inr sq8, fun l9 hl9 => ?_⟩
        have s9 := same_new (o := .lst xs8) hl9
        exact q l9 _ _ (none_same s02 hl9) (s02.trans s9) upd_same (dpAll_mono s9 _ _ ha8)
    | false =>
      refine iteF ⟨_, rfl, rfl, _, rfl, ?_⟩
      show if eqw L.word "branch" = true then _ else _
      cases h3 : eqw L.word "branch" with
      | true =>
        obtain ⟨d, e1, e4⟩ := ln_br h3
        refine iteT ⟨v, rfl, _, 1, _, hv2, rfl, e1, fun z3 hz3 => ⟨(by show 1 ≤ sizeLine; decide), fun l9 hl9 => ?_⟩⟩
        have s9 := same_new (o := .lst [z3]) hl9
        refine q l9 _ _ (none_same s02 hl9) (s02.trans s9) upd_same ?_
        rw [e4]
        exact .cons (dp_mono s9 _ _ hz3) .nil
      | false =>
        obtain ⟨k, ek, ed⟩ := ln_drop h1 h2 h3
        refine iteF ⟨v, rfl, _, rfl, (k : Int), ek, _, hv2, fun z4 H4 s4 h4 => ?_⟩
        rw [cutP_from, ed] at h4
        cases h4 with
        | @tup a8 xs8 _ sq8 ha8 =>
          refine ⟨a8, xs8, rfl, .inr sq8, fun l9 hl9 => ?_⟩
          have s9 := same_new (o := .lst xs8) hl9
          have s04 := s02.trans s4
          exact q l9 _ _ (none_same s04 hl9) (s04.trans s9) upd_same (dpAll_mono s9 _ _ ha8)
def spVars (K : PySem.W.Frag) : Sp := fun vs H Q _ => ∃ (v : V) (L : Ln), vs = [v] ∧ Dp K H v (.tuple L.L) ∧ L.los.length ≤ 1000 ∧
  ∀ (a : Addr) (H' : Hp), H a = none → Same H H' → H' a = some (.lst ((opsVars L.ops).map nV)) → Q (.ref a) H'
theorem ooV_len (a : Option Opd) : (ooV a).length ≤ 1 := by
  cases a with
  | none => exact Nat.zero_le _
  | some a => cases a <;> exact Nat.le_of_ble_eq_true rfl
theorem fm_len : ∀ l : List (Option Opd), (l.flatMap ooV).length ≤ l.length
  | [] => Nat.le_refl _
  | a :: l => by
    have h1 := ooV_len a
    have h2 := fm_len l
    rw [List.flatMap_cons, List.length_append, List.length_cons]
    omega
set_option pp.maxSteps 600 in
theorem c_vars (T : Txt w K mg) : Cal P w K mg base "_law_variables" 2 ["_law_row_here"] (spVars K) := by
  obtain ⟨fd, F⟩ := T.d__law_variables
  have C__law_operands := c_operands (P := P) (base := base) T
  refine ⟨⟨fd, F.ok sc__law_variables (fun vs H Q E h => ?_) (fun cdv A outer s H vs Q E hr h => ?_), F.bindsN fun _ _ _ _ _ _ us hl => match us, hl with | [_], _ => rfl⟩, T.g _ (by decide), F.kp⟩
  · obtain ⟨v, L, rfl, _⟩ := h
    rfl
  obtain ⟨v, L, rfl, hv, hl, q⟩ := h
  refine ⟨_, PSs.nox (pss_one (ps_ret (pe_lc (own := [("_law_one", 1)]) (by rfl) sc__law_variables.nd (pi_list (pe_cal C__law_operands (hr.mono (by omega)) (by rfl) (pa_cons (pv 0) pa_nil))) (blkOk_by (own := [("_law_one", 1)]) (N := N__law_variables) (sc := defScope s__law_variables) (by decide +kernel)) (fun _ _ _ _ _ => (pg_name (i := 1) sc__law_variables.nd rfl (.inl rfl))) (fun _ _ _ _ _ => pts_one (pt_val (pe_callB (isiK (K := K) rfl) (by rfl) T.n_isinstance (by decide +kernel) (pa_cons (pv 1) (pa_cons (pe_bltn (v := .ty "tuple") (u := .type "tuple") (by rfl) T.n_tuple (by decide +kernel) rfl) pa_nil))))) (fun _ _ _ _ _ => (pe_ix (ix_P (K := K) rfl) (pv 1) pe_int (fun _ _ => rfl)))))), ?_⟩
  refine ⟨v, rfl, v, L, rfl, hv, hl, fun a xs H1 ha s1 e1 hx => ⟨a, rfl, ⟨_, .inl (.inl e1)⟩, fun D hD => ?_⟩⟩
  have hxl := dpAll_len hx
  rw [List.length_map] at hxl
  refine lc_list (xs := xs) (fun i H2 => H2 D = some (.lst (((L.los.take i).flatMap ooV).map nV)) ∧ Same H1 H2) ⟨upd_same, same_new hD⟩ ?_ ?_ ?_
  · rintro i H2 _ ⟨_, s2⟩
    exact .inl (.inl (s2 _ _ e1))
  · rintro i x H2 hi ⟨h2, s2⟩
    obtain ⟨o, ho, hxo⟩ := dpAll_map_get hx hi
    have hxo := dp_mono s2 _ _ hxo
    have et : (L.los.take (i + 1)).flatMap ooV = (L.los.take i).flatMap ooV ++ ooV o := by
      rw [List.take_add_one, ho, List.flatMap_append]
      show _ ++ (ooV o ++ []) = _
      rw [List.append_nil]
    refine ⟨rfl, x, rfl, x, .ty "tuple", _, _, _, rfl, .ty _, dp_ty hxo, kit_ty (kit_tuple _), _, rfl, ?_⟩
    cases o with
    | none =>
      refine iteF ⟨?_, s2⟩
      rw [et]
      show H2 D = some (.lst ((_ ++ []).map nV))
      rw [List.append_nil]
      exact h2
    | some o =>
      cases o with
      | w j =>
        refine iteF ⟨?_, s2⟩
        rw [et]
        show H2 D = some (.lst ((_ ++ []).map nV))
        rw [List.append_nil]
        exact h2
      | v n =>
        refine iteT ⟨x, rfl, _, 1, _, hxo, rfl, rfl, fun z hz => ?_⟩
        cases hz
        refine ⟨_, h2, ?_, ?_, ?_⟩
        · rw [List.length_map]
          have := fm_len (L.los.take i)
          rw [List.length_take] at this
          exact small_line (by omega)
        · rw [upd_same, et, List.map_append]
          rfl
        · intro b' o' e'
          rw [upd_ne (ne_of_none e' hD)]
          exact s2 _ _ e'
  · rintro H2 ⟨h2, s2⟩
    rw [hxl, List.take_length, los_vars] at h2
    exact q D H2 (none_same s1 hD) (s1.trans s2) h2
end
end K52

set_option maxHeartbeats 4000000
namespace K52
open PySem PySem.Spec PyProof.Rows L2 HG P52
theorem ops_fm : ∀ l : List Opd, (opsVars l).length ≤ l.length
  | [] => Nat.le_refl _
  | a :: l => by
    have h2 := ops_fm l
    have h1 : a.vars.length ≤ 1 := by cases a <;> exact Nat.le_of_ble_eq_true rfl
    unfold opsVars at *
    rw [List.flatMap_cons, List.length_append, List.length_cons]
    omega
theorem set_len (R : Rw) : R.set.toList.length ≤ 1 := by cases R.set <;> exact Nat.le_of_ble_eq_true rfl
theorem stp_len (E : Stp) : E.ops.length ≤ 1 := by
  cases E with
  | rt a => cases a <;> exact Nat.le_of_ble_eq_true rfl
  | jp n => exact Nat.le_of_ble_eq_true rfl
  | br a n m => exact Nat.le_of_ble_eq_true rfl
  | ht i => exact Nat.le_of_ble_eq_true rfl
theorem set_row (R : Rw) : ∃ d r, R.L = .str R.word :: d :: r ∧ setsOf R.word d = ovD R.set := by
  cases R <;> exact ⟨_, _, rfl, by dsimp only [Rw.word]; first | exact if_pos (by decide +kernel) | exact if_neg (by decide +kernel)⟩
theorem vars_lt {N : Nat} {g : Gr} (h : GrOk N g) : ∀ n ∈ g.vars, n < N := by
  intro n hn
  obtain ⟨b, hb, hn⟩ := List.mem_flatMap.mp hn
  have ok := h.blk b hb
  rcases List.mem_append.mp hn with h1 | h1
  · obtain ⟨a, ha, h2⟩ := List.mem_flatMap.mp h1
    exact OpdOk.vars (StpOk.ops ok.stop a ha) n h2
  · obtain ⟨R, hR, h2⟩ := List.mem_flatMap.mp h1
    rcases List.mem_append.mp h2 with h3 | h3
    · obtain ⟨a, ha, h4⟩ := List.mem_flatMap.mp h3
      exact OpdOk.vars (RwOk.ops (ok.rows R hR) a ha) n h4
    · exact RwOk.set (ok.rows R hR) n (by simpa using h3)
def spOccur (K : PySem.W.Frag) : Sp := fun vs H Q _ => ∃ (v : V) (N : Nat) (g : Gr), vs = [v] ∧ Dp K H v g.D ∧ GrOk N g ∧
  ∀ (a : Addr) (ks : List Int) (H' : Hp), H a = none → Same H H' → H' a = some (.lst (ks.map V.int)) → (∀ k, k ∈ ks ↔ k ∈ g.vars.map fun n : Nat => (n : Int)) → ks.length ≤ 10 → Q (.ref a) H'
section
variable {P : Program} {w : World} {K : PySem.W.Frag} {mg : Str → Option Value} {base : Heap}
set_option pp.maxSteps 600 in
theorem c_occur (T : Txt w K mg) : Cal P w K mg base "_law_occur" 3 ["_law_shape"] (spOccur K) := by
  obtain ⟨fd, F⟩ := T.d__law_occur
  have C__law_variables := c_vars (P := P) (base := base) T
  have C__law_sets := c_sets (P := P) (base := base) T
  refine ⟨⟨fd, F.ok sc__law_occur (fun vs H Q E h => ?_) (fun cdv A outer s H vs Q E hr h => ?_), F.bindsN fun _ _ _ _ _ _ us hl => match us, hl with | [_], _ => rfl⟩, T.g _ (by decide), F.kp⟩
  · obtain ⟨v, N, g, rfl, _⟩ := h
    rfl
  obtain ⟨v, N, g, rfl, hv, hg, q⟩ := h
  refine ⟨_, PSs.nox (pss_cons (ps_set (i := 1) sc__law_occur.nd rfl (.inl rfl) (pe_lst pa_nil))
      (pss_cons (ps_for PassesOwn.never rfl (pi_tup (pe_ix (ix_P (K := K) rfl) (pv 0) pe_int (fun _ _ => rfl))) (pg_tupK (K := K) (n := 2) rfl rfl (pgs_cons (pg_name (i := 2) sc__law_occur.nd rfl (.inl rfl)) (pgs_cons (pg_name (i := 3) sc__law_occur.nd rfl (.inl rfl)) pgs_nil))) (pss_cons (ps_set (i := 1) sc__law_occur.nd rfl (.inl rfl) (pe_op op_cat (pv 1) (pe_cal C__law_variables (hr.mono (by omega)) (by rfl) (pa_cons (pv 3) pa_nil))))
      (pss_one (ps_for PassesOwn.never rfl (pi_tup (pv 2)) (pg_name (i := 4) sc__law_occur.nd rfl (.inl rfl)) (pss_one (ps_set (i := 1) sc__law_occur.nd rfl (.inl rfl) (pe_op op_cat (pe_op op_cat (pv 1) (pe_cal C__law_variables (hr.mono (by omega)) (by rfl) (pa_cons (pv 4) pa_nil))) (pe_lc (own := [("_law_v", 5)]) (by rfl) sc__law_occur.nd (pi_list (pe_lst (pa_cons (pe_cal C__law_sets (hr.mono (by omega)) (by rfl) (pa_cons (pv 4) pa_nil)) pa_nil))) (blkOk_by (own := [("_law_v", 5)]) (N := N__law_occur) (sc := defScope s__law_occur) (by decide +kernel)) (fun _ _ _ _ _ => (pg_name (i := 5) sc__law_occur.nd rfl (.inl rfl))) (fun _ _ _ _ _ => pts_one (pt_cmpR op_notN (pv 5) pe_non (nomark _))) (fun _ _ _ _ _ => (pv 5))))))))))
      (pss_one (ps_ret (pe_callB (cr_sortedSet rfl) (by rfl) T.n_sorted (by decide +kernel) (pa_cons (pe_callTy (cr_setLI rfl) (by rfl) T.n_set (by decide +kernel) (pa_cons (pv 1) pa_nil)) pa_nil)))))), ?_⟩
  refine ⟨Nat.zero_le _, fun a0 ha0 => ?_⟩
  have s0 := same_new (o := .lst []) ha0
  have e0 : (upd H a0 (.lst [])) a0 = some (.lst []) := upd_same
  generalize upd H a0 (.lst []) = H0 at s0 e0 ⊢
  refine ⟨v, rfl, _, 1, _, dp_mono s0 _ _ hv, rfl, rfl, fun zb hzb => ?_⟩
  cases hzb with
  | @tup ab xb _ sqb hab =>
    have hlb := dpAll_len hab
    rw [List.length_map] at hlb
    refine ⟨ab, rfl, ⟨_, sqb⟩, ?_⟩
    refine for_tup (xs := xb) (fun i σ H3 => ∃ a x2 x3 x4 x5, σ = [some v, some (.ref a), x2, x3, x4, x5] ∧ H3 a = some (.lst ((((g.blocks.take i).flatMap Blk.vars)).map nV)) ∧ ((g.blocks.take i).flatMap Blk.vars).length ≤ i * 63 ∧ Same H0 H3) ⟨a0, _, _, _, _, rfl, e0, Nat.zero_le _, Same.refl _⟩ ?_ ?_ ?_
    · rintro i σ H3 _ ⟨a, x2, x3, x4, x5, rfl, _, _, s3⟩
      exact sqT_kt (KT.of s3) sqb
    · rintro i x σ H3 hi ⟨a, x2, x3, x4, x5, rfl, e3, hl3, s3⟩
      obtain ⟨bk, hbk, hx⟩ := dpAll_map_get hab hi
      have hx := dp_mono s3 _ _ hx
      have okb := hg.blk bk (List.mem_of_getElem? hbk)
      have hiB : i < g.blocks.length := (List.getElem?_eq_some_iff.mp hbk).1
      have hmany := hg.many
      have et : (g.blocks.take (i + 1)).flatMap Blk.vars = (g.blocks.take i).flatMap Blk.vars ++ bk.vars := by
        rw [List.take_add_one, hbk, List.flatMap_append]
        show _ ++ (bk.vars ++ []) = _
        rw [List.append_nil]
      generalize (g.blocks.take i).flatMap Blk.vars = F0 at e3 hl3 et
      cases hx with
      | @tup ax xx _ sqx hax =>
        cases hax with
        | @cons x1 d1 xs1 ds1 h1 hax =>
          cases hax with
          | @cons x2' d2 xs2 ds2 h2 hax =>
            cases hax
            refine ⟨ax, _, rfl, sqx, rfl, _, _, rfl, _, _, rfl, rfl, ?_⟩
            have hE := stp_len bk.stop
            have hE2 := ops_fm bk.stop.ops
            refine ⟨.ref a, rfl, x2', rfl, x2', .e bk.stop, rfl, h2, ?_, fun a4 H4 ha4 s4 e4 => ?_⟩
            · have : (Ln.e bk.stop).los.length ≤ 1 := by
                cases bk.stop <;> exact Nat.le_of_ble_eq_true rfl
              omega
            refine ⟨a, a4, _, _, rfl, rfl, s4 _ _ e3, e4, ?_, fun a5 ha5 => ?_⟩
            · rw [List.length_map, List.length_map, sizeLine_eq]
              show F0.length + (opsVars bk.stop.ops).length ≤ 16777216
              omega
            generalize eH5 : upd H4 a5 _ = H5
            have s5 : Same H3 H5 := eH5 ▸ s4.trans (same_new ha5)
            have e5 : H5 a5 = some (.lst ((F0 ++ opsVars bk.stop.ops).map nV)) := by
              rw [← eH5, upd_same, List.map_append]
              rfl
            have h15 := dp_mono s5 _ _ h1
            have s05 := s3.trans s5
            have hrl := okb.len
            cases h15 with
            | @tup ar xr _ sqr har =>
              have hlr := dpAll_len har
              rw [List.length_map] at hlr
              refine ⟨.ref ar, rfl, ar, rfl, ⟨_, sqr⟩, ?_⟩
              refine for_tup (xs := xr) (fun j σ H6 => ∃ a x4 x5, σ = [some v, some (.ref a), some (.ref ar), some x2', x4, x5] ∧ H6 a = some (.lst ((F0 ++ opsVars bk.stop.ops ++ (bk.rows.take j).flatMap Rw.vars).map nV)) ∧ ((bk.rows.take j).flatMap Rw.vars).length ≤ j * 4 ∧ Same H5 H6) ⟨a5, _, _, rfl, ?_, Nat.zero_le _, Same.refl _⟩ ?_ ?_ ?_
              · show H5 a5 = some (.lst ((F0 ++ opsVars bk.stop.ops ++ []).map nV))
                rw [List.append_nil]
                exact e5
              · rintro j σ H6 _ ⟨a, x4, x5, rfl, _, _, s6⟩
                exact sqT_kt (KT.of s6) sqr
              · rintro j x σ H6 hj ⟨a, x4, x5, rfl, e6, hl6, s6⟩
                obtain ⟨R, hR, hxr⟩ := dpAll_map_get har hj
                have hxr := dp_mono s6 _ _ hxr
                have okr := okb.rows R (List.mem_of_getElem? hR)
                have hjB : j < bk.rows.length := (List.getElem?_eq_some_iff.mp hR).1
                have et2 : (bk.rows.take (j + 1)).flatMap Rw.vars = (bk.rows.take j).flatMap Rw.vars ++ R.vars := by
                  rw [List.take_add_one, hR, List.flatMap_append]
                  show _ ++ (R.vars ++ []) = _
                  rw [List.append_nil]
                generalize (bk.rows.take j).flatMap Rw.vars = F2 at e6 hl6 et2
                have hrl3 := okr.len
                have hrf := ops_fm R.ops
                have hsl := set_len R
                obtain ⟨dR, rR, eR, eS⟩ := set_row R
                refine ⟨.ref a, rfl, x, rfl, x, .r R, rfl, hxr, ?_, fun a7 H7 ha7 s7 e7 => ?_⟩
                · show (R.ops.map some).length ≤ 1000
                  rw [List.length_map]
                  omega
                refine ⟨a, a7, _, _, rfl, rfl, s7 _ _ e6, e7, ?_, fun a8 ha8 => ?_⟩
                · simp only [List.length_map, List.length_append, sizeLine_eq]
                  show F0.length + (opsVars bk.stop.ops).length + F2.length + (opsVars R.ops).length ≤ 16777216
                  omega
                generalize eH8 : upd H7 a8 _ = H8
                have s8 : Same H6 H8 := eH8 ▸ s7.trans (same_new ha8)
                have e8 : H8 a8 = some (.lst ((F0 ++ opsVars bk.stop.ops ++ F2 ++ opsVars R.ops).map nV)) := by
                  rw [← eH8, upd_same, List.map_append (l₂ := opsVars R.ops)]
                  rfl
                have hx8 := dp_mono s8 _ _ hxr
                rw [Rw.D, eR] at hx8
                refine ⟨x, rfl, x, R.word, dR, rR, rfl, hx8, fun z9 H9 s9 h9 => ⟨(by show 1 ≤ sizeLine; decide), fun a10 ha10 => ?_⟩⟩
                rw [eS] at h9
                have s10 := s9.trans (same_new (o := .lst [z9]) ha10)
                have e10 : (upd H9 a10 (.lst [z9])) a10 = some (.lst [z9]) := upd_same
                have h10 := dp_mono (same_new (o := .lst [z9]) ha10) _ _ h9
                generalize upd H9 a10 (.lst [z9]) = H10 at s10 e10 h10 ⊢
                refine ⟨a10, rfl, ⟨_, .inl (.inl e10)⟩, fun D hD => ?_⟩
                refine lc_list (xs := [z9]) (fun i H11 => H11 D = some (.lst (match i with | 0 => [] | _ + 1 => R.set.toList.map nV)) ∧ Same H10 H11) ⟨upd_same, same_new hD⟩ ?_ ?_ ?_
                · rintro i H11 _ ⟨_, s11⟩
                  exact .inl (.inl (s11 _ _ e10))
                · rintro i y H11 hi ⟨h11, s11⟩
                  have hi0 : i = 0 := by
                    have := (List.getElem?_eq_some_iff.mp hi).1
                    rw [List.length_singleton] at this
                    omega
                  subst hi0
                  have ey : z9 = y := by simpa using hi
                  subst ey
                  refine ⟨rfl, z9, rfl, rfl, _, rfl, ?_⟩
                  cases hset : R.set with
                  | none =>
                    rw [hset] at h10
                    cases h10
                    exact iteF ⟨h11, s11⟩
                  | some n =>
                    rw [hset] at h10
                    cases h10
                    refine iteT ⟨_, rfl, _, h11, (by show 0 < sizeLine; decide), upd_same, ?_⟩
                    intro b' o' e'
                    rw [upd_ne (ne_of_none e' hD)]
                    exact s11 _ _ e'
                · rintro H11 ⟨h11, s11⟩
                  have h11 : H11 D = some (.lst (R.set.toList.map nV)) := h11
                  have s811 := s10.trans s11
                  refine ⟨a8, D, _, _, rfl, rfl, s811 _ _ e8, h11, ?_, fun a12 ha12 => ?_⟩
                  · simp only [List.length_map, List.length_append, sizeLine_eq]
                    omega
                  refine ⟨a12, _, _, rfl, ?_, ?_, (s6.trans (s8.trans s811)).trans (same_new ha12)⟩
                  · rw [upd_same, et2, ← List.map_append]
                    congr 2
                    simp only [Rw.vars, List.append_assoc]
                  · rw [et2, List.length_append]
                    simp only [Rw.vars, List.length_append]
                    omega
              · rintro σ H6 ⟨a, x4, x5, rfl, e6, hl6, s6⟩
                rw [hlr, List.take_length] at e6 hl6
                refine ⟨a, _, _, _, _, rfl, ?_, ?_, s05.trans s6⟩
                · rw [et]
                  rw [e6]
                  simp only [Blk.vars, List.append_assoc]
                · rw [et, List.length_append]
                  simp only [Blk.vars, List.length_append]
                  omega
    · rintro σ H3 ⟨a, x2, x3, x4, x5, rfl, e3, hl3, s3⟩
      rw [hlb, List.take_length] at e3 hl3
      have hmany := hg.many
      have e3 : H3 a = some (.lst ((g.vars.map fun n : Nat => (n : Int)).map V.int)) := by
        rw [e3, List.map_map]
        rfl
      have hvl : g.vars.length ≤ 567 := Nat.le_trans hl3 (by omega)
      refine ⟨.ref a, rfl, a, _, rfl, .inl (.inl e3), ?_, fun p ks hp hnd hks => ?_⟩
      · rw [List.length_map]
        unfold scanBound
        omega
      have sp := same_new (o := SetO w p (fun j => decide (j ∈ g.vars.map fun n : Nat => (n : Int))) ks.length) hp
      have hkl : ks.length ≤ 10 := by
        refine nodup_len 10 ks hnd fun k hk => ?_
        obtain ⟨n, hn, rfl⟩ := List.mem_map.mp ((hks k).mp hk)
        have h1 := vars_lt hg n hn
        have h2 := hg.small
        omega
      refine ⟨p, _, _, rfl, upd_same, by omega, fun ns p2 hpw hmem hlen hp2 => ?_⟩
      have s03 := s0.trans (s3.trans sp)
      refine q p2 ns _ (none_same s03 hp2) (s03.trans (same_new hp2)) upd_same (fun k => ?_) (by omega)
      rw [hmem k, decide_eq_true_eq]
end
end K52

set_option maxHeartbeats 4000000
namespace K52
open PySem PySem.Spec PyProof.Rows L2 HG P52
def SlOk (S : List PyData) : Prop := ∀ e ∈ S, e = .none ∨ ∃ x : Int, e = .int x ∧ 0 ≤ x ∧ x < 100000
def sD : Option V → PyData
  | some (.int x) => .int x
  | _ => .none
theorem dpAll_maps {α : Type} {K : PySem.W.Frag} {H : Hp} {f : α → V} {g : α → PyData} : ∀ l : List α, (∀ x ∈ l, Dp K H (f x) (g x)) → DpAll K H (l.map f) (l.map g)
  | [], _ => .nil
  | x :: l, h => .cons (h x List.mem_cons_self) (dpAll_maps l fun y hy => h y (List.mem_cons_of_mem _ hy))
theorem dpAll_nV {K : PySem.W.Frag} {H : Hp} : ∀ {ks : List Nat} {xs : List V}, DpAll K H xs (ks.map nD) → xs = ks.map nV
  | [], _, h => by cases h; rfl
  | k :: ks, _, h => by
    cases h with
    | cons h1 h2 =>
      cases h1
      rw [dpAll_nV h2]
      rfl
theorem step_of {r : Int} (h0 : 0 ≤ r) (h1 : r < 3) : ∃ (j : Nat) (st : Int), r = (j : Int) ∧ [V.int 1, V.int 2, V.int 1000][j]? = some (.int st) ∧ 0 ≤ st ∧ st ≤ 1000 := by
  obtain ⟨j, rfl⟩ := Int.eq_ofNat_of_zero_le h0
  have hj : j = 0 ∨ j = 1 ∨ j = 2 := by omega
  rcases hj with rfl | rfl | rfl
  · exact ⟨0, 1, rfl, rfl, by decide, by decide⟩
  · exact ⟨1, 2, rfl, rfl, by decide, by decide⟩
  · exact ⟨2, 1000, rfl, rfl, by decide, by decide⟩
abbrev KvOk (kvs : List (Key × V)) : Prop := ∀ k v, valV kvs k = some v → ∃ x : Int, v = .int x ∧ 0 ≤ x ∧ x < 100000
theorem put_len (c : List (Key × V)) (k : Key) (x : V) : (putK c k x).length ≤ c.length + 1 := by
  simp only [putK]
  split
  · rw [List.length_map]
    omega
  · rw [List.length_append]
    exact Nat.le_refl _
theorem nlNs (ks : List Nat) : noL (.tuple (ks.map nD)) = true := by
  have := noLAll_map (f := nD) (as := ks) fun _ _ => rfl
  simpa only [noL] using this
theorem flatInts (ks : List Int) : (ks.map V.int).all flatV = true := by
  rw [List.all_eq_true]
  intro x hx
  obtain ⟨k, _, rfl⟩ := List.mem_map.mp hx
  rfl
theorem flatNats (ks : List Nat) : (ks.map nV).all flatV = true := by
  rw [List.all_eq_true]
  intro x hx
  obtain ⟨k, _, rfl⟩ := List.mem_map.mp hx
  rfl
def spSlots (K : PySem.W.Frag) : Sp := fun vs H Q _ => ∃ (d c : Addr) (n N : Nat) (v u : V) (g : Gr) (ks : List Nat), vs = [.ref d, v, u] ∧ n < 2 ^ 45 ∧ Deck d c n H ∧ Dp K H v g.D ∧ GrOk N g ∧ Dp K H u (.tuple (ks.map nD)) ∧
  ∀ (z : V) (S : List PyData) (H' : Hp), Deck d c (n + 20) H' → Ext d c H H' → Dp K H' z (.tuple S) → g.count ≤ S.length → S.length ≤ 10 → (∀ m ∈ g.vars, m < S.length) → SlOk S → Q z H'
section
variable {P : Program} {w : World} {K : PySem.W.Frag} {mg : Str → Option Value} {base : Heap}
set_option pp.maxSteps 600 in
theorem c_slots (T : Txt w K mg) : Cal P w K mg base "_law_slots" 4 ["_law_deck_here", "_law_shape", "_law_held"] (spSlots K) := by
  obtain ⟨fd, F⟩ := T.d__law_slots
  have C__law_draw := c_draw (P := P) (base := base) T
  have C__law_occur := c_occur (P := P) (base := base) T
  refine ⟨⟨fd, F.ok sc__law_slots (fun vs H Q E h => ?_) (fun cdv A outer s H vs Q E hr h => ?_), F.bindsN fun _ _ _ _ _ _ us hl => match us, hl with | [_, _, _], _ => rfl⟩, T.g _ (by decide), F.kp⟩
  · obtain ⟨d, c, n, N, v, u, g, hks, rfl, _⟩ := h
    rfl
  obtain ⟨d, c, n, N, v, u, g, hs, rfl, hn, dk, hv, hg, hu0, q⟩ := h
  have hu := hu_of hr
  refine ⟨_, PSs.nox (pss_cons (ps_set (i := 3) sc__law_slots.nd rfl (.inl rfl) (pe_cal C__law_occur (hr.mono (by omega)) (by rfl) (pa_cons (pv 1) pa_nil)))
      (pss_cons (ps_asg (pe_tup (pa_cons (pe_callB (cr_max rfl) (by rfl) T.n_max (by decide +kernel) (pa_cons (pe_op op_cat (pe_lst (pa_cons (pe_ix (ix_P (K := K) rfl) (pv 1) pe_int (fun _ _ => rfl)) pa_nil)) (pe_lc (own := [("_law_v", 9)]) (by rfl) sc__law_slots.nd (pi_list (pv 3)) (blkOk_by (own := [("_law_v", 9)]) (N := N__law_slots) (sc := defScope s__law_slots) (by decide +kernel)) (fun _ _ _ _ _ => (pg_name (i := 9) sc__law_slots.nd rfl (.inl rfl))) (fun _ _ _ _ _ => pts_nil) (fun _ _ _ _ _ => (pe_op op_add (pv 9) pe_int)))) pa_nil)) (pa_cons (pe_ix (ix_listK (K := K) rfl) (pe_lst (pa_cons pe_int (pa_cons pe_int (pa_cons pe_int pa_nil)))) (pe_cal C__law_draw (hr.mono (by omega)) (by rfl) (pa_cons (pv 0) (pa_cons pe_int pa_nil))) (fun _ _ => rfl)) pa_nil))) (pg_tupK (K := K) (n := 2) rfl rfl (pgs_cons (pg_name (i := 4) sc__law_slots.nd rfl (.inl rfl)) (pgs_cons (pg_name (i := 5) sc__law_slots.nd rfl (.inr rfl)) pgs_nil))))
      (pss_cons (ps_asg (pe_tup (pa_cons (pe_cal C__law_draw (hr.mono (by omega)) (by rfl) (pa_cons (pv 0) (pa_cons pe_int pa_nil))) (pa_cons pe_dnewK pa_nil))) (pg_tupK (K := K) (n := 2) rfl rfl (pgs_cons (pg_name (i := 6) sc__law_slots.nd rfl (.inr rfl)) (pgs_cons (pg_name (i := 7) sc__law_slots.nd rfl (.inr rfl)) pgs_nil))))
      (pss_cons (ps_setLc (i := 8) (own := [("_law_k", 11)]) (by rfl) sc__law_slots.nd rfl rfl (sw_true rfl rfl rfl (by decide +kernel)) (pi_range1 (by rfl) T.n_range (pa_cons (pv 4) pa_nil)) (blkOk_by (own := [("_law_k", 11)]) (N := N__law_slots) (sc := defScope s__law_slots) (by decide +kernel)) (fun _ _ _ _ _ => (pg_name (i := 11) sc__law_slots.nd rfl (.inl rfl))) (fun _ _ _ _ _ => pts_nil) (fun _ _ _ _ _ => (pe_op op_add (pv 6) (pe_op op_mul (pv 5) (pv 11)))))
      (pss_cons (ps_for PassesOwn.never rfl (pi_range1 (by rfl) T.n_range (pa_cons (pv 4) pa_nil)) (pg_name (i := 9) sc__law_slots.nd rfl (.inl rfl)) (pss_cons (ps_set (i := 10) sc__law_slots.nd rfl (.inl rfl) (pe_bm PySem.F.plainAttrs_list PySem.F.slot_list_pop PySem.F.type_list_pop mt_popAt (pv 8) (pa_cons (pe_cal C__law_draw (hr.mono (by omega)) (by rfl) (pa_cons (pv 0) (pa_cons (pe_callB (lenK (K := K) rfl) (by rfl) T.n_len (by decide +kernel) (pa_cons (pv 8) pa_nil)) pa_nil))) pa_nil)))
      (pss_one (ps_if (PW.pt (pw_or (pt_cmpR (op_in_seqK (K := K) rfl) (pv 9) (pv 3) (by rfl)) (pw_or1 (pt_cmpR (op_in_seqK (K := K) rfl) (pv 9) (pv 2) (by rfl))))) (pss_one (ps_dput hu (pv 7) (pv 9) (pv 10) rfl)) pss_nil))))
      (pss_one (ps_ret (pe_callTy call_tuple_of (by rfl) T.n_tuple (by decide +kernel) (pa_cons (pe_lc (own := [("_law_v", 9)]) (by rfl) sc__law_slots.nd (pi_range1 (by rfl) T.n_range (pa_cons (pv 4) pa_nil)) (blkOk_by (own := [("_law_v", 9)]) (N := N__law_slots) (sc := defScope s__law_slots) (by decide +kernel)) (fun _ _ _ _ _ => (pg_name (i := 9) sc__law_slots.nd rfl (.inl rfl))) (fun _ _ _ _ _ => pts_nil) (fun _ _ _ _ _ => (pe_dget1 hu (pv 7) (pv 9) ⟨rfl, rfl, rfl, rfl⟩))) pa_nil))))))))), ?_⟩
  refine ⟨v, rfl, v, N, g, rfl, hv, hg, fun a ks H1 ha s1 e1 hks hkl => ?_⟩
  have na := dk.has ha
  have dk1 := dk.same s1
  refine ⟨v, rfl, _, 0, _, dp_mono s1 _ _ hv, rfl, rfl, fun z hz => ?_⟩
  cases hz
  refine ⟨(by show 1 ≤ sizeLine; decide), fun l2 hl2 => ?_⟩
  have s2 := same_new (o := .lst [.int (g.count : Int)]) hl2
  have e2 : (upd H1 l2 (.lst [.int (g.count : Int)])) l2 = some (.lst [.int (g.count : Int)]) := upd_same
  generalize upd H1 l2 (.lst [.int (g.count : Int)]) = H2 at s2 e2 ⊢
  refine ⟨.ref a, rfl, a, rfl, ⟨_, .inl (.inl (s2 _ _ e1))⟩, fun D3 hD3 => ?_⟩
  refine lc_list (xs := ks.map V.int) (fun i H3 => H3 D3 = some (.lst ((ks.take i).map fun k => V.int (k + 1))) ∧ Same H2 H3) ⟨upd_same, same_new hD3⟩ ?_ ?_ ?_
  · rintro i H3 _ ⟨_, s3⟩
    exact .inl (.inl ((s2.trans s3) _ _ e1))
  · rintro i x H3 hi ⟨h3, s3⟩
    rw [List.getElem?_map] at hi
    obtain ⟨k, hk, rfl⟩ := Option.map_eq_some_iff.mp hi
    refine ⟨rfl, tyes ⟨_, rfl, _, _, rfl, rfl, _, h3, ?_, ?_, ?_⟩⟩
    · rw [List.length_map, List.length_take]
      exact small_line (by omega)
    · rw [upd_same, List.take_add_one, hk, List.map_append]
      rfl
    · intro b' o' e'
      rw [upd_ne (ne_of_none e' hD3)]
      exact s3 _ _ e'
  rintro H3 ⟨h3, s3⟩
  rw [List.length_map, List.take_length] at h3
  refine ⟨l2, D3, _, _, rfl, rfl, s3 _ _ e2, h3, ?_, fun p4 hp4 => ?_⟩
  · rw [List.length_map, sizeLine_eq]
    show 1 + ks.length ≤ 16777216
    omega
  generalize eH4 : upd H3 p4 _ = H4
  have s4 : Same H1 H4 := eH4 ▸ s2.trans (s3.trans (same_new hp4))
  have e4 : H4 p4 = some (.lst (((g.count : Int) :: ks.map fun k => k + 1).map V.int)) := by
    rw [← eH4, upd_same, List.map_cons, List.map_map]
    rfl
  have dk4 := dk1.same s4
  have X4 : Ext d c H H4 := off_same_mono (s1.trans s4)
  have ea4 := s4 _ _ e1
  clear eH4
  refine ⟨p4, _, rfl, .inl (.inl e4), by rw [List.length_cons]; omega, fun m hm hmax => ?_⟩
  have hks2 : ∀ k ∈ ks, 0 ≤ k ∧ k < (N : Int) := fun k hk => by
    obtain ⟨n, hn, rfl⟩ := List.mem_map.mp ((hks k).mp hk)
    have := vars_lt hg n hn
    omega
  have hsm := hg.small
  have hcn := hg.cN
  have hm0 : (g.count : Int) ≤ m := hmax _ List.mem_cons_self
  have hm1 : m ≤ 10 := by
    rcases List.mem_cons.mp hm with rfl | hm
    · omega
    · obtain ⟨k, hk, rfl⟩ := List.mem_map.mp hm
      have := hks2 k hk
      omega
  obtain ⟨M, rfl⟩ := Int.eq_ofNat_of_zero_le (show 0 ≤ m by omega)
  have hcM : g.count ≤ M := by omega
  have hM10 : M ≤ 10 := by omega
  have hvM : ∀ m ∈ g.vars, m < M := fun m hm => by
    have h8 := hmax ((m : Int) + 1) (List.mem_cons_of_mem _ (List.mem_map.mpr ⟨(m : Int), (hks m).mpr (List.mem_map.mpr ⟨m, hm, rfl⟩), rfl⟩))
    omega
  -- the step
  refine ⟨(by show 3 ≤ sizeLine; decide), fun l5 hl5 => ?_⟩
  have nl5 := dk4.has hl5
  have s5 := same_new (o := .lst [.int 1, .int 2, .int 1000]) hl5
  have e5 : (upd H4 l5 (.lst [.int 1, .int 2, .int 1000])) l5 = some (.lst [.int 1, .int 2, .int 1000]) := upd_same
  have dk5 := dk4.same s5
  have X5 := X4.trans (off_same_mono s5)
  have ea5 := s5 _ _ ea4
  generalize upd H4 l5 (.lst [.int 1, .int 2, .int 1000]) = H5 at s5 e5 dk5 X5 ea5 ⊢
  refine ⟨.ref d, rfl, d, c, _, 3, rfl, by decide, by decide, by omega, dk5, fun r H6 r0 r1 dk6 X6 => ?_⟩
  obtain ⟨j, st, rfl, hst, st0, st1⟩ := step_of r0 r1
  have ea6 := X6.at na.1 na.2 ea5
  refine ⟨l5, _, j, _, rfl, rfl, .inl (.inl (X6.at nl5.1 nl5.2 e5)), atI_nat hst, (by show 2 ≤ sizeLine; decide), fun p7 hp7 => ⟨p7, _, rfl, .inl (.inl upd_same), rfl, _, _, rfl, _, _, rfl, rfl, ?_⟩⟩
  have s7 := same_new (o := .tup [.int (M : Int), .int st]) hp7
  have dk7 := dk6.same s7
  have X7 := X5.trans (X6.trans (off_same_mono s7))
  have ea7 := s7 _ _ ea6
  show tSeq _ _ _ _ (upd H6 p7 (.tup [.int (M : Int), .int st]))
  generalize upd H6 p7 (.tup [.int (M : Int), .int st]) = H7 at s7 dk7 X7 ea7 ⊢
  -- the first, found
  refine ⟨.ref d, rfl, d, c, _, 3, rfl, by decide, by decide, by omega, dk7, fun f H8 f0 f1 dk8 X8 => ?_⟩
  intro df hdf
  have ndf := dk8.has hdf
  have ea8 := X8.at na.1 na.2 ea7
  have nda : a ≠ df := ne_of_none ea8 hdf
  have X08 := X7.trans X8
  have hdfH : H df = none := grow X08 dk8 hdf
  have s9 := same_new (o := .dK []) hdf
  have ed9 : (upd H8 df (.dK [])) df = some (.dK []) := upd_same
  have ea9 := s9 _ _ ea8
  have dk9 := dk8.same s9
  have X9 := X08.trans (off_same_mono s9)
  generalize upd H8 df (.dK []) = H9 at s9 ed9 ea9 dk9 X9 ⊢
  refine ⟨(by show 2 ≤ sizeLine; decide), fun p10 hp10 => ⟨p10, _, rfl, .inl (.inl upd_same), rfl, _, _, rfl, _, _, rfl, rfl, ?_⟩⟩
  have s10 := same_new (o := .tup [.int f, .ref df]) hp10
  have ed10 := s10 _ _ ed9
  have ea10 := s10 _ _ ea9
  have dk10 := dk9.same s10
  have X10 := X9.trans (off_same_mono s10)
  show tSeq _ _ _ _ (upd H9 p10 (.tup [.int f, .ref df]))
  generalize upd H9 p10 (.tup [.int f, .ref df]) = H10 at s10 ed10 ea10 dk10 X10 ⊢
  -- left
  refine ⟨_, rfl, _, rfl, by omega, by omega, fun D hD => ?_⟩
  have nD := dk10.has hD
  have nDa : a ≠ D := ne_of_none ea10 hD
  have nDd : df ≠ D := ne_of_none ed10 hD
  have hDH : H D = none := grow X10 dk10 hD
  refine lc_range (lo := 0) (n := ((M : Nat) : Int).toNat) (fun i H11 => H11 D = some (.lst (((List.range i).map fun k : Nat => f + st * (k : Int)).map V.int)) ∧ Same H10 H11) ⟨upd_same, same_new hD⟩ ?_ ?_
  · rintro i H11 hi ⟨h11, s11⟩
    refine ⟨rfl, tyes ⟨_, rfl, _, rfl, _, rfl, st, 0 + (i : Int), rfl, rfl, ?_, _, _, rfl, rfl, _, h11, ?_, ?_, ?_⟩⟩
    · exact .inl ⟨by omega, by omega⟩
    · rw [List.length_map, List.length_map, List.length_range]
      exact small_line (by omega)
    · rw [upd_same, List.range_succ, List.map_append, List.map_append]
      show _ = some (HO.lst (_ ++ [V.int (f + st * (i : Int))]))
      rw [Int.zero_add]
    · intro b' o' e'
      rw [upd_ne (ne_of_none e' hD)]
      exact s11 _ _ e'
  rintro H11 ⟨h11, s11⟩
  have eM : ((M : Nat) : Int).toNat = M := by omega
  rw [eM] at h11
  have X11 := X10.trans (off_same_mono s11)
  have dk11 := dk10.same s11
  have ea11 := s11 _ _ ea10
  have ed11 := s11 _ _ ed10
  have f3 : f < 3 := f1
  have hls0 : ∀ x ∈ (List.range M).map (fun k : Nat => f + st * (k : Int)), 0 ≤ x ∧ x < 100000 := fun x hx => by
    obtain ⟨k, hk, rfl⟩ := List.mem_map.mp hx
    have hk := List.mem_range.mp hk
    have h1 : 0 ≤ st * (k : Int) := Int.mul_nonneg st0 (by omega)
    have h2 : st * (k : Int) ≤ 1000 * 10 := Int.mul_le_mul st1 (by omega) (by omega) (by omega)
    omega
  clear s11 h3 e4 hp4 hD3 hmax hm
  refine ⟨_, rfl, _, rfl, by omega, by omega, for_range (lo := 0) (n := ((M : Nat) : Int).toNat) (fun i σ H3 => ∃ (ls : List Int) (kvs : List (Key × V)) (x9 x10 x11 : Option V), σ = [some (.ref d), some v, some u, some (.ref a), some (.int (M : Int)), some (.int st), some (.int f), some (.ref df), some (.ref D), x9, x10, x11] ∧ H3 a = some (.lst (ks.map V.int)) ∧ H3 D = some (.lst (ls.map V.int)) ∧ ls.length + i = M ∧ (∀ x ∈ ls, 0 ≤ x ∧ x < 100000) ∧ H3 df = some (.dK kvs) ∧ KvOk kvs ∧ kvs.length ≤ i ∧ Deck d c (n + 2 + i) H3 ∧ Ext d c H H3)
    ⟨_, [], _, _, _, rfl, ea11, h11, by simp, hls0, ed11, (fun k v h => by cases h), Nat.le_refl _, dk11, X11⟩ ?_ ?_⟩
  · rintro i σ H3 hi ⟨ls, kvs, x9, x10, x11, rfl, eA, eD, hll, hls, eF, hkv, hkvl, dk3, X3⟩
    have hi : i < M := by omega
    refine ⟨.ref D, rfl, .inl ⟨rfl, _, .inl (.inl eD)⟩, .ref d, rfl, .ref D, rfl, .ref D, _, rfl, .inl ⟨_, .inl (.inl eD), rfl⟩, d, c, _, _, rfl, ?_, ?_, by omega, dk3, fun r H4 r0 r1 dk4 X4 => ?_⟩
    · rw [List.length_map]
      omega
    · rw [List.length_map]
      exact many40 (by omega)
    obtain ⟨j, rfl⟩ := Int.eq_ofNat_of_zero_le r0
    rw [List.length_map] at r1
    have hj : j < ls.length := by omega
    refine ⟨D, _, _, j, .int ls[j], rfl, rfl, X4.at nD.1 nD.2 eD, by omega, by omega, by rw [List.length_map]; exact seqIx hj, by rw [List.getElem?_map, List.getElem?_eq_getElem hj]; rfl, ?_⟩
    generalize eH5 : upd H4 D _ = H5
    have eH5 : H5 = upd H4 D (.lst ((ls.eraseIdx j).map V.int)) := by rw [← eH5, erase_mapI]
    have eA5 : H5 a = some (.lst (ks.map V.int)) := by rw [eH5, upd_ne nDa]; exact X4.at na.1 na.2 eA
    have eF5 : H5 df = some (.dK kvs) := by rw [eH5, upd_ne nDd]; exact X4.at ndf.1 ndf.2 eF
    have eD5 : H5 D = some (.lst ((ls.eraseIdx j).map V.int)) := by rw [eH5]; exact upd_same
    have dk5 : Deck d c (n + 2 + i + 1) H5 := by rw [eH5]; exact dk4.upd nD.1 nD.2
    have X5 : Ext d c H H5 := by rw [eH5]; exact (X3.trans X4).mut hDH
    have hlx := hls _ (List.getElem_mem hj)
    generalize ls[j] = x at hlx
    have hls5 : ∀ x ∈ ls.eraseIdx j, 0 ≤ x ∧ x < 100000 := fun x hx => hls x (List.mem_of_mem_eraseIdx hx)
    have hll5 : (ls.eraseIdx j).length + (i + 1) = M := by
      rw [List.length_eraseIdx, if_pos hj]
      omega
    generalize ls.eraseIdx j = ls5 at eD5 hls5 hll5
    clear eH5
    have no : ∃ (ls : List Int) (kvs : List (Key × V)) (x9 x10 x11' : Option V), [some (.ref d), some v, some u, some (.ref a), some (.int (M : Int)), some (.int st), some (.int f), some (.ref df), some (.ref D), some (.int (0 + (i : Int))), some (.int x), x11] = [some (.ref d), some v, some u, some (.ref a), some (.int (M : Int)), some (.int st), some (.int f), some (.ref df), some (.ref D), x9, x10, x11'] ∧ H5 a = some (.lst (ks.map V.int)) ∧ H5 D = some (.lst (ls.map V.int)) ∧ ls.length + (i + 1) = M ∧ (∀ x ∈ ls, 0 ≤ x ∧ x < 100000) ∧ H5 df = some (.dK kvs) ∧ KvOk kvs ∧ kvs.length ≤ i + 1 ∧ Deck d c (n + 2 + (i + 1)) H5 ∧ Ext d c H H5 :=
      ⟨ls5, kvs, _, _, _, rfl, eA5, eD5, hll5, hls5, eF5, hkv, by omega, dk5, X5⟩
    have put : ∃ (ls : List Int) (kvs' : List (Key × V)) (x9 x10 x11' : Option V), [some (.ref d), some v, some u, some (.ref a), some (.int (M : Int)), some (.int st), some (.int f), some (.ref df), some (.ref D), some (.int (0 + (i : Int))), some (.int x), x11] = [some (.ref d), some v, some u, some (.ref a), some (.int (M : Int)), some (.int st), some (.int f), some (.ref df), some (.ref D), x9, x10, x11'] ∧ (upd H5 df (.dK (putK kvs (Sum.inl (0 + (i : Int))) (.int x)))) a = some (.lst (ks.map V.int)) ∧ (upd H5 df (.dK (putK kvs (Sum.inl (0 + (i : Int))) (.int x)))) D = some (.lst (ls.map V.int)) ∧ ls.length + (i + 1) = M ∧ (∀ x ∈ ls, 0 ≤ x ∧ x < 100000) ∧ (upd H5 df (.dK (putK kvs (Sum.inl (0 + (i : Int))) (.int x)))) df = some (.dK kvs') ∧ KvOk kvs' ∧ kvs'.length ≤ i + 1 ∧ Deck d c (n + 2 + (i + 1)) (upd H5 df (.dK (putK kvs (Sum.inl (0 + (i : Int))) (.int x)))) ∧ Ext d c H (upd H5 df (.dK (putK kvs (Sum.inl (0 + (i : Int))) (.int x)))) := by
      refine ⟨ls5, _, _, _, _, rfl, by rw [upd_ne nda]; exact eA5, by rw [upd_ne nDd.symm]; exact eD5, hll5, hls5, upd_same, fun k v h => ?_, ?_, dk5.upd ndf.1 ndf.2, X5.mut hdfH⟩
      · rw [valV_put] at h
        split at h
        · cases h
          exact ⟨x, rfl, hlx⟩
        · exact hkv k v h
      · have := put_len kvs (Sum.inl (0 + (i : Int))) (.int x)
        omega
    have hu5 := dp_kt (ext_kt dk X5) _ _ (nlNs hs) hu0
    cases hu5 with
    | @tup au xu _ squ hau =>
      have exu := dpAll_nV hau
      subst exu
      refine ⟨_, rfl, _, rfl, a, _, rfl, .inl (.inl (.inl eA5)), rfl, flatInts ks, _, rfl, ?_⟩
      cases hb : inV (V.int (0 + (i : Int))) (ks.map V.int) with
      | true => exact iteT (iteT ⟨.int x, rfl, .ref df, rfl, .int (0 + (i : Int)), rfl, df, _, rfl, DPut.k (k := Sum.inl (0 + (i : Int))) (v := .int x) eF5 (small_line (by omega)), put⟩)
      | false =>
        refine iteF ⟨_, rfl, _, rfl, au, _, rfl, .inr squ, rfl, flatNats hs, _, rfl, ?_⟩
        cases hb2 : inV (V.int (0 + (i : Int))) (hs.map nV) with
        | true => exact iteT ⟨.int x, rfl, .ref df, rfl, .int (0 + (i : Int)), rfl, df, _, rfl, DPut.k (k := Sum.inl (0 + (i : Int))) (v := .int x) eF5 (small_line (by omega)), put⟩
        | false => exact iteF no
  · rintro σ H3 ⟨ls, kvs, x9, x10, x11, rfl, eA, eD, hll, hls, eF, hkv, hkvl, dk3, X3⟩
    rw [eM] at dk3
    refine ⟨_, rfl, _, rfl, by omega, by omega, fun D2 hD2 => ?_⟩
    refine lc_range (lo := 0) (n := ((M : Nat) : Int).toNat) (fun i H4 => H4 D2 = some (.lst ((List.range i).map fun k : Nat => (valV kvs (Sum.inl (k : Int))).getD .non)) ∧ Same H3 H4) ⟨upd_same, same_new hD2⟩ ?_ ?_
    · rintro i H4 hi ⟨h4, s4⟩
      refine ⟨rfl, tyes ⟨.ref df, rfl, df, rfl, .inl ⟨_, .inl (s4 _ _ eF)⟩, .int (0 + (i : Int)), rfl, _, DGet.k (k := Sum.inl (0 + (i : Int))) (s4 _ _ eF), _, h4, ?_, ?_, ?_⟩⟩
      · rw [List.length_map, List.length_range]
        exact small_line (by omega)
      · rw [upd_same, List.range_succ, List.map_append, Int.zero_add]
        rfl
      · intro b' o' e'
        rw [upd_ne (ne_of_none e' hD2)]
        exact s4 _ _ e'
    rintro H4 ⟨h4, s4⟩
    rw [eM] at h4
    refine ⟨D2, _, rfl, .inl ⟨.inl (.inl h4), fun p5 hp5 => ?_⟩⟩
    have s5 := s4.trans (same_new (o := .tup ((List.range M).map fun k : Nat => (valV kvs (Sum.inl (k : Int))).getD .non)) hp5)
    have hval : ∀ (k : Int), (valV kvs (Sum.inl k) = none) ∨ ∃ x : Int, valV kvs (Sum.inl k) = some (.int x) ∧ 0 ≤ x ∧ x < 100000 := fun k => by
      cases hv : valV kvs (Sum.inl k) with
      | none => exact .inl rfl
      | some v =>
        obtain ⟨x, rfl, h⟩ := hkv _ _ hv
        exact .inr ⟨x, rfl, h⟩
    have hlen : ((List.range M).map fun k : Nat => sD (valV kvs (Sum.inl (k : Int)))).length = M := by rw [List.length_map, List.length_range]
    refine q _ ((List.range M).map fun k : Nat => sD (valV kvs (Sum.inl (k : Int)))) _ ((dk3.same s5).up (by omega)) (X3.trans (off_same_mono s5)) (dp_tupN hp5 (dpAll_maps _ fun k hk => ?_)) (by rw [hlen]; exact hcM) (by rw [hlen]; exact hM10) (fun m hm => by rw [hlen]; exact hvM m hm) fun e he => ?_
    · rcases hval k with h | ⟨x, h, _⟩
      · rw [h]
        exact .non
      · rw [h]
        exact .int x
    · obtain ⟨k, hk, rfl⟩ := List.mem_map.mp he
      rcases hval k with h | ⟨x, h, h2⟩
      · rw [h]
        exact .inl rfl
      · rw [h]
        exact .inr ⟨x, rfl, h2⟩
end
end K52

set_option maxHeartbeats 4000000
/-! K52V: what is drawn, and its code, are small. -/
namespace K52
open PySem PySem.Spec PyProof.Rows L2 HG P52 P54
theorem fnSv {S : List PyData} (h : SlOk S) (n d : Nat) : Fine 0 2000 d (sv S n) := by
  have key : sv S n = .none ∨ sv S n ∈ S := by
    show S.getD n .none = .none ∨ S.getD n .none ∈ S
    rw [List.getD_eq_getElem?_getD]
    cases hn : S[n]? with
    | none => exact .inl rfl
    | some e => exact .inr (List.mem_of_getElem? hn)
  rcases key with e | e
  · rw [e]
    exact (Fine.none 0 d).up (Nat.le_refl _) (by decide) (Nat.le_refl _)
  · rcases h _ e with e | ⟨x, e, h0, h1⟩
    · rw [e]
      exact (Fine.none 0 d).up (Nat.le_refl _) (by decide) (Nat.le_refl _)
    · rw [e]
      have : (100000 : Int) < 10 ^ 9 := by decide
      exact fnI d h0 (by omega)
theorem fnOS {N : Nat} {S : List PyData} (hS : SlOk S) {a : Opd} (h : OpdOk N a) : Fine 0 4100 1 (oS S a) := by
  cases a with
  | w i =>
    have : (65536 : Int) < 10 ^ 9 := by decide
    exact (fnI 1 h.1 (by have := h.2; omega)).up (Nat.le_refl _) (by decide) (Nat.le_refl _)
  | v n =>
    have hv : Nm ("var" : Str) := ⟨by decide +kernel, by decide +kernel⟩
    refine (Fine.tupN (n := 2) (d := 0) (W := 2000) (ds := [.str "var", sv S n]) (fun e he => ?_) (Nat.le_refl 2)).up (Nat.le_refl _) (by decide) (Nat.le_refl _)
    simp only [List.mem_cons, List.not_mem_nil, or_false] at he
    rcases he with rfl | rfl
    · exact fnS 0 hv
    · exact fnSv hS n 0
abbrev In5 (ds : List PyData) : Prop := ds.length ≤ 5 ∧ ∀ e ∈ ds, Fine 0 8300 2 e
theorem in5_nil : In5 [] := ⟨Nat.zero_le _, fun _ h => nomatch h⟩
theorem nmW {x : Str} (h : Nm x) : Fine 0 8300 2 (.str x) := (fnS 2 h).up (Nat.le_refl _) (by decide) (Nat.le_refl _)
theorem fnAsS {N : Nat} {S : List PyData} (hS : SlOk S) {as : List Opd} (hl : as.length ≤ 2) (h : ∀ a ∈ as, OpdOk N a) : Fine 0 8300 2 (.tuple (as.map (oS S))) := by
  refine (Fine.tupN (n := 2) (d := 1) (W := 4100) (fun e he => ?_) (by rw [List.length_map]; exact hl)).up (Nat.le_refl _) (by decide) (Nat.le_refl _)
  obtain ⟨a, ha, rfl⟩ := List.mem_map.mp he
  exact fnOS hS (h a ha)
theorem fnRS {N : Nat} {S : List PyData} (hS : SlOk S) {R : Rw} (h : RwOk N R) : In5 (R.S S) := by
  have o : ∀ {a : Opd}, OpdOk N a → Fine 0 8300 2 (oS S a) := fun h => (fnOS hS h).up (Nat.le_refl _) (by decide) (by decide)
  have s : ∀ {x : Str}, Nm x → Fine 0 8300 2 (.str x) := nmW
  have n : ∀ m : Nat, Fine 0 8300 2 (sv S m) := fun m => (fnSv hS m 2).up (Nat.le_refl _) (by decide) (Nat.le_refl _)
  have nv : ∀ v : Option Nat, Fine 0 8300 2 (ovS S v) := fun v => by
    cases v with
    | none => exact (Fine.none 0 2).up (Nat.le_refl _) (by decide) (Nat.le_refl _)
    | some m => exact n m
  have hw := s (word_nm R)
  refine ⟨by cases R <;> exact Nat.le_of_ble_eq_true rfl, fun e he => ?_⟩
  cases R <;> simp only [RwOk] at h <;> simp only [Rw.S, List.mem_cons, List.not_mem_nil, or_false] at he
  case cw v i =>
    rcases he with rfl | rfl | rfl
    · exact hw
    · exact n v
    · have : (65536 : Int) < 10 ^ 9 := by decide
      exact (fnI 2 h.2.1 (by omega)).up (Nat.le_refl _) (by decide) (Nat.le_refl _)
  case cf v x =>
    rcases he with rfl | rfl | rfl
    · exact hw
    · exact n v
    · have hf : Nm ("func" : Str) := ⟨by decide +kernel, by decide +kernel⟩
      refine (Fine.tupN (n := 2) (d := 1) (W := 2000) (ds := [.str "func", .str x]) (fun e he => ?_) (Nat.le_refl 2)).up (Nat.le_refl _) (by decide) (Nat.le_refl _)
      simp only [List.mem_cons, List.not_mem_nil, or_false] at he
      rcases he with rfl | rfl
      · exact fnS 1 hf
      · exact fnS 1 h.2
  case cp v u =>
    rcases he with rfl | rfl | rfl
    · exact hw
    · exact n v
    · exact n u
  case op v x a b =>
    rcases he with rfl | rfl | rfl | rfl | rfl
    · exact hw
    · exact n v
    · exact s h.2.1
    · exact o h.2.2.1
    · exact o h.2.2.2
  case ld v x =>
    rcases he with rfl | rfl | rfl
    · exact hw
    · exact n v
    · exact s h.2
  case rd v x a =>
    rcases he with rfl | rfl | rfl | rfl
    · exact hw
    · exact n v
    · exact s h.2.1
    · exact o h.2.2
  case ca v x as =>
    rcases he with rfl | rfl | rfl | rfl
    · exact hw
    · exact nv v
    · exact s h.2.1
    · exact fnAsS hS h.2.2.1 h.2.2.2
  case ap v f as =>
    rcases he with rfl | rfl | rfl | rfl
    · exact hw
    · exact nv v
    · exact n f
    · exact fnAsS hS h.2.2.1 h.2.2.2
  case st x a =>
    rcases he with rfl | rfl | rfl
    · exact hw
    · exact s h.1
    · exact o h.2
  case pr a =>
    rcases he with rfl | rfl
    · exact hw
    · exact o h
  case wr x a b =>
    rcases he with rfl | rfl | rfl | rfl
    · exact hw
    · exact s h.1
    · exact o h.2.1
    · exact o h.2.2
theorem in5_of {ds : List PyData} (hl : ds.length ≤ 5) (h : ∀ e ∈ ds, Fine 0 8300 2 e) : In5 ds := ⟨hl, h⟩
theorem fnEC {N B : Nat} {S : List PyData} (hS : SlOk S) (hB : B ≤ 9) {E : Stp} (h : StpOk N B E) (k : Nat) : ∀ ds ∈ E.code S k, In5 ds := by
  have o : ∀ {a : Opd}, OpdOk N a → Fine 0 8300 2 (oS S a) := fun h => (fnOS hS h).up (Nat.le_refl _) (by decide) (by decide)
  have n : ∀ {m : Nat}, m < B → Fine 0 8300 2 (.int (m : Int)) := fun {m} h => (fnN 2 (by omega)).up (Nat.le_refl _) (by decide) (Nat.le_refl _)
  have two : ∀ {x : Str} {e : PyData}, Nm x → Fine 0 8300 2 e → In5 [.str x, e] := fun hx he => ⟨Nat.le_of_ble_eq_true rfl, fun d hd => by
    simp only [List.mem_cons, List.not_mem_nil, or_false] at hd
    rcases hd with rfl | rfl
    · exact nmW hx
    · exact he⟩
  have three : ∀ {x : Str} {e f : PyData}, Nm x → Fine 0 8300 2 e → Fine 0 8300 2 f → In5 [.str x, e, f] := fun hx he hf => ⟨Nat.le_of_ble_eq_true rfl, fun d hd => by
    simp only [List.mem_cons, List.not_mem_nil, or_false] at hd
    rcases hd with rfl | rfl | rfl
    · exact nmW hx
    · exact he
    · exact hf⟩
  have wj : Nm ("jump" : Str) := ⟨by decide +kernel, by decide +kernel⟩
  have wb : Nm ("branch" : Str) := ⟨by decide +kernel, by decide +kernel⟩
  have wu : Nm ("unless" : Str) := ⟨by decide +kernel, by decide +kernel⟩
  have wr : Nm ("return" : Str) := ⟨by decide +kernel, by decide +kernel⟩
  have wh : Nm ("halt" : Str) := ⟨by decide +kernel, by decide +kernel⟩
  cases E with
  | jp m =>
    intro ds hd
    simp only [Stp.code] at hd
    split at hd
    · cases hd
    · rw [List.mem_singleton.mp hd]
      exact two wj (n h)
  | br a m k2 =>
    intro ds hd
    simp only [Stp.code] at hd
    split at hd
    · rw [List.mem_singleton.mp hd]
      exact three wb (o h.1) (n h.2.1)
    · split at hd
      · rw [List.mem_singleton.mp hd]
        exact three wu (o h.1) (n h.2.2)
      · simp only [List.mem_cons, List.not_mem_nil, or_false] at hd
        rcases hd with rfl | rfl
        · exact three wb (o h.1) (n h.2.1)
        · exact two wj (n h.2.2)
  | rt a =>
    intro ds hd
    rw [List.mem_singleton.mp hd]
    refine two wr ?_
    cases a with
    | none => exact (Fine.none 0 2).up (Nat.le_refl _) (by decide) (Nat.le_refl _)
    | some a => exact o (h a rfl)
  | ht i =>
    intro ds hd
    rw [List.mem_singleton.mp hd]
    have : (65536 : Int) < 10 ^ 9 := by decide
    exact two wh ((fnI 2 h.1 (by have := h.2; omega)).up (Nat.le_refl _) (by decide) (Nat.le_refl _))
theorem place_ok {ps : List Nat} (hp : ∀ x ∈ ps, x < 1000000) {ds : List PyData} (h : In5 ds) : In5 (place ps ds) := by
  unfold place
  split
  · rename_i x r
    split
    · refine ⟨?_, fun e he => ?_⟩
      · rw [List.length_append, List.length_dropLast]
        have := h.1
        rw [List.length_cons] at this
        show (r.length + 1) - 1 + 1 ≤ 5
        omega
      · rcases List.mem_append.mp he with he | he
        · exact h.2 e (List.dropLast_subset _ he)
        · rw [List.mem_singleton.mp he]
          split
          · rename_i i _
            refine (fnN 2 ?_).up (Nat.le_refl _) (by decide) (Nat.le_refl _)
            rw [List.getD_eq_getElem?_getD]
            cases hn : ps[i.toNat]? with
            | none => exact (by decide : 0 < 1000000)
            | some z => exact hp z (List.mem_of_getElem? hn)
          · exact (Fine.none 0 2).up (Nat.le_refl _) (by decide) (Nat.le_refl _)
    · exact h
  · exact h
theorem starts_le : ∀ (ps : List (List (List PyData))) (n : Nat), ∀ x ∈ startsFrom n ps, x ≤ n + ps.flatten.length
  | [], _, x, h => by cases h
  | p :: ps, n, x, h => by
    rcases List.mem_cons.mp h with rfl | h
    · omega
    · have := starts_le ps (n + p.length) x h
      rw [List.flatten_cons, List.length_append]
      omega
theorem fnCode {N : Nat} {g : Gr} (hg : GrOk N g) {S : List PyData} (hS : SlOk S) {ks : List Nat} (hk : ks.length ≤ 10) (b : Bool) : Fine 0 9000000 5 (codeD S ks b g) := by
  have hfl : (g.parts S).flatten.length ≤ 153 := by
    have h1 := flat_len (S := S) (m := 15) (k := 0) (l := g.blocks) fun b hb => (hg.blk b hb).len
    exact Nat.le_trans h1 (Nat.mul_le_mul hg.many (Nat.le_refl _))
  have f1 : Fine 0 6500000 4 (.tuple ((g.code S).map PyData.tuple)) := by
    refine (Fine.tupN (n := 153) (d := 3) (W := 42000) (fun e he => ?_) (by rw [List.length_map, Gr.code, List.length_map]; exact hfl)).up (Nat.le_refl _) (by decide) (Nat.le_refl _)
    obtain ⟨ds, hd, rfl⟩ := List.mem_map.mp he
    obtain ⟨ds, hd2, rfl⟩ := List.mem_map.mp hd
    have h5 : In5 ds := by
      obtain ⟨p, hp, hd⟩ := List.mem_flatten.mp hd2
      obtain ⟨b, hb, j, rfl⟩ := partsFrom_mem hp
      have ok := hg.blk b hb
      rcases List.mem_append.mp hd with hd | hd
      · obtain ⟨R, hR, rfl⟩ := List.mem_map.mp hd
        exact fnRS hS (ok.rows R hR)
      · exact fnEC hS hg.many ok.stop _ ds hd
    have h6 := place_ok (ps := startsFrom 0 (g.parts S)) (fun x hx => by have := starts_le _ _ x hx; omega) h5
    exact (Fine.tupN (n := 5) (d := 2) (W := 8300) h6.2 h6.1).up (Nat.le_refl _) (by decide) (Nat.le_refl _)
  have f2 : Fine 0 30000 1 (.tuple (ks.map (sv S))) := by
    refine (Fine.tupN (n := 10) (d := 0) (W := 2000) (fun e he => ?_) (by rw [List.length_map]; exact hk)).up (Nat.le_refl _) (by decide) (Nat.le_refl _)
    obtain ⟨k, _, rfl⟩ := List.mem_map.mp he
    exact fnSv hS k 0
  have f3 := Fine.bool 0 0 b
  refine ⟨?_, ?_, ?_⟩
  · rw [codeD, sm_tup]
    intro d hd
    simp only [List.mem_cons, List.not_mem_nil, or_false] at hd
    rcases hd with rfl | rfl | rfl
    · exact f2.sm
    · exact f3.sm
    · exact f1.sm
  · have h1 := f1.wt
    have h2 := f2.wt
    have h3 := f3.wt
    rw [codeD, wt_tup]
    simp only [wtAll] at *
    omega
  · have h1 := f1.dp
    have h2 := f2.dp
    have h3 := f3.dp
    rw [codeD, dp_tup]
    simp only [PyData.depthAll] at *
    omega
theorem fnShape {N : Nat} {g : Gr} (hg : GrOk N g) {S : List PyData} (hS : SlOk S) (hl : S.length ≤ 10) : Fine 0 7000000 8 (.tuple [g.D, .tuple S]) := by
  have f1 := fnG hg
  have f2 : Fine 0 30000 1 (.tuple S) := by
    refine (Fine.tupN (n := 10) (d := 0) (W := 2000) (fun e he => ?_) hl).up (Nat.le_refl _) (by decide) (Nat.le_refl _)
    rcases hS e he with rfl | ⟨x, rfl, h0, h1⟩
    · exact (Fine.none 0 0).up (Nat.le_refl _) (by decide) (Nat.le_refl _)
    · have : (100000 : Int) < 10 ^ 9 := by decide
      exact fnI 0 h0 (by omega)
  refine ⟨?_, ?_, ?_⟩
  · rw [sm_tup]
    intro d hd
    simp only [List.mem_cons, List.not_mem_nil, or_false] at hd
    rcases hd with rfl | rfl
    · exact f1.sm
    · exact f2.sm
  · have h1 := f1.wt
    have h2 := f2.wt
    rw [wt_tup]
    simp only [wtAll] at *
    omega
  · have h1 := f1.dp
    have h2 := f2.dp
    rw [dp_tup]
    simp only [PyData.depthAll] at *
    omega
theorem slNoL {S : List PyData} (hS : SlOk S) : ∀ d ∈ S, noL d = true := fun d hd => by
  rcases hS d hd with rfl | ⟨x, rfl, _⟩ <;> rfl
theorem nlCode {S : List PyData} (hS : ∀ d ∈ S, noL d = true) (ks : List Nat) (b : Bool) (g : Gr) : noL (codeD S ks b g) = true := by
  rw [codeD, noL_tup]
  intro d hd
  simp only [List.mem_cons, List.not_mem_nil, or_false] at hd
  rcases hd with rfl | rfl | rfl
  · rw [noL_tup]
    intro e he
    obtain ⟨k, _, rfl⟩ := List.mem_map.mp he
    exact nlSv hS k
  · rfl
  · rw [noL_tup]
    intro e he
    obtain ⟨ds, hd, rfl⟩ := List.mem_map.mp he
    obtain ⟨ds, hd2, rfl⟩ := List.mem_map.mp hd
    obtain ⟨p, hp, hd⟩ := List.mem_flatten.mp hd2
    obtain ⟨b, hb, j, rfl⟩ := partsFrom_mem hp
    exact nl_place _ (nlTs hS b j ds hd)
theorem in_of {N : Nat} {g : Gr} (hg : GrOk N g) {S : List PyData} (hv : ∀ m ∈ g.vars, m < S.length) : g.In S := by
  have rowv : ∀ b ∈ g.blocks, ∀ R ∈ b.rows, ∀ n ∈ R.vars, n < S.length := fun b hb R hR n hn => hv n (List.mem_flatMap.mpr ⟨b, hb, List.mem_append.mpr (.inr (List.mem_flatMap.mpr ⟨R, hR, hn⟩))⟩)
  refine ⟨fun b hb R hR a ha n hn => rowv b hb R hR n (List.mem_append.mpr (.inl (List.mem_flatMap.mpr ⟨a, ha, hn⟩))), fun b hb R hR n hn => rowv b hb R hR n (List.mem_append.mpr (.inr (by rw [hn]; exact List.mem_singleton.mpr rfl))), fun b hb a ha n hn => hv n (List.mem_flatMap.mpr ⟨b, hb, List.mem_append.mpr (.inl (List.mem_flatMap.mpr ⟨a, ha, hn⟩))⟩), fun b hb n hn => StpOk.to (hg.blk b hb).stop n hn, fun b hb R hR => ?_, fun b hb => ?_, ?_⟩
  · have := RwOk.len ((hg.blk b hb).rows R hR)
    omega
  · have := (hg.blk b hb).len
    omega
  · have := hg.many
    omega
end K52

set_option maxHeartbeats 4000000
namespace K52
open PySem PySem.Spec PyProof.Rows L2 HG P52 LamX NdefX
theorem tabs_dk {Ts : List (Addr × Str)} {d c : Addr} {n : Nat} {H H' : Hp} (dk : Deck d c n H) (X : Ext d c H H') (t : Tabs Ts H) : Tabs Ts H' := fun p hp => by
  obtain ⟨ps, h1, h2, h3⟩ := t p hp
  obtain ⟨ns, m, k, e1, e2, _⟩ := dk.ex
  have at_ : ∀ (b : Addr) (o : HO), H b = some o → (∀ l, o ≠ .lst l) → (∀ l, o ≠ .dK l) → H' b = some o := fun b o e n1 n2 =>
    X.at (fun z => n2 _ (Option.some.inj (e.symm.trans (z ▸ e1)))) (fun z => n1 _ (Option.some.inj (e.symm.trans (z ▸ e2)))) e
  refine ⟨ps, at_ _ _ h1 (fun _ z => by cases z) (fun _ z => by cases z), h2, fun pos cv hc => ?_⟩
  obtain ⟨c, e3, e4⟩ := h3 pos cv hc
  exact ⟨c, e3, at_ _ _ e4 (fun _ z => by unfold CodeO at z; cases z) (fun _ z => by unfold CodeO at z; cases z)⟩
theorem dk_extN {d c : Addr} {n : Nat} {H H' : Hp} (dk : Deck d c n H) (x : ExtN H H') : Deck d c n H' := by
  obtain ⟨ns, m, t, e1, e2, r⟩ := dk.ex
  exact ⟨ns, m, t, x _ _ e1 (fun _ z => by cases z), x _ _ e2 (fun _ z => by cases z), r⟩
theorem ne_no {A B : Prop} {a b : Str} (h : a = b) (q : B) : if (!decide (V.str a = V.str b)) = true then A else B := by
  rw [h, decide_eq_true rfl]
  exact iteF q
def spLaw (K : PySem.W.Frag) (Ts : List (Addr × Str)) : Sp := fun vs H Q _ => ∃ (a : Addr) (ns : List Int), vs = [.ref a] ∧ SqL K H a (ns.map V.int) ∧ ns.length ≤ 63 ∧ Tabs Ts H ∧ ∀ H', Q (.bl true) H'
section
variable {P : Program} {w : World} {K : PySem.W.Frag} {mg : Str → Option Value} {base : Heap} {Ts : List (Addr × Str)}
set_option pp.maxSteps 600 in
theorem ok_law (T : Txt w K mg) (B : Tbs K mg base Ts) {fd : FuncData} (F : FunD K "law" "law" (defArgs s_law) (defBody s_law) (defScope s_law) [] [] (He.ga K "law") fd) : FnG P w K mg base CX0 9 (He.ga K "law") fd ["_law_script"] (spLaw K Ts) := by
  have C__law_deck := c_deck (P := P) (base := base) T
  have C__law_draw := c_draw (P := P) (base := base) T
  have C__law_world := c_world (P := P) (base := base) T
  have C__law_graph := c_graph (P := P) (base := base) T
  have C__law_nearer := c_nearer (P := P) (base := base) T
  have C__law_slots := c_slots (P := P) (base := base) T
  have C__law_due := c_due (P := P) (base := base) T
  have C__law_same : Cal P w K mg base "_law_same" (1 + 6) ["_law_found", "_law_due_here"] (spSame K 6) := ⟨ok_same T 6, T.g _ (by decide), by obtain ⟨fd, F⟩ := T.d__law_same; exact F.kp⟩
  have C_code_of_graph_kept_returns_slots : CalK P w K mg base "code_of" 5 ["graph", "kept", "returns", "slots"] ["graph", "kept", "returns", "slots"] id (spCode K Ts) := by
    obtain ⟨fd1, G, F2⟩ := ok_code_of (P := P) (base := base) T B
    exact ⟨⟨fd1, _, G, kbn0 (g := id) (gV := id) F2 (fun _ _ _ _ _ _ ws hl => match ws, hl with | [_, _, _, _], _ => rfl) (fun r => r)⟩, T.g _ (by decide), F2.kp⟩
  refine fng_of (k := 8) F sc_law (fun vs H Q E h => ?_) (fun cdv A outer s H vs Q E hr hgd h => ?_)
  · obtain ⟨a, ns, rfl, _⟩ := h
    rfl
  obtain ⟨a, ns, rfl, hS, hn, hT, q⟩ := h
  refine ⟨_, PSs.nox (pss_cons (ps_set (i := 1) sc_law.nd rfl (.inr rfl) (pe_cal C__law_deck (hr.mono (by omega)) (by rfl) (pa_cons (pv 0) pa_nil)))
      (pss_cons (ps_for PassesOwn.never rfl (pi_range1 (by rfl) T.n_range (pa_cons pe_int pa_nil)) (pg_name (i := 2) sc_law.nd rfl (.inl rfl)) (pss_cons (ps_set (i := 3) sc_law.nd rfl (.inl rfl) (pe_cal C__law_world (hr.mono (by omega)) (by rfl) (pa_cons (pv 1) pa_nil)))
      (pss_cons (ps_set (i := 4) sc_law.nd rfl (.inl rfl) (pe_cal C__law_nearer (hr.mono (by omega)) (by rfl) (pa_cons (pv 1) (pa_cons (pe_cal C__law_graph (hr.mono (by omega)) (by rfl) (pa_cons (pv 1) (pa_cons (pv 3) (pa_cons pe_int pa_nil)))) pa_nil))))
      (pss_cons (ps_set (i := 5) sc_law.nd rfl (.inl rfl) (pe_callTy call_tuple_of (by rfl) T.n_tuple (by decide +kernel) (pa_cons (pe_lc (own := [("_law_k", 10)]) (by rfl) sc_law.nd (pi_range1 (by rfl) T.n_range (pa_cons (pe_ix (ix_P (K := K) rfl) (pv 4) pe_int (fun _ _ => rfl)) pa_nil)) (blkOk_by (own := [("_law_k", 10)]) (N := N_law) (sc := defScope s_law) (by decide +kernel)) (fun _ _ _ _ _ => (pg_name (i := 10) sc_law.nd rfl (.inl rfl))) (fun _ _ _ _ _ => pts_one (pt_cmpR op_gt (pe_cal C__law_draw (hr.mono (by omega)) (by rfl) (pa_cons (pv 1) (pa_cons pe_int pa_nil))) pe_int (nomark _))) (fun _ _ _ _ _ => (pv 10))) pa_nil)))
      (pss_cons (ps_set (i := 6) sc_law.nd rfl (.inl rfl) (pe_cal C__law_slots (hr.mono (by omega)) (by rfl) (pa_cons (pv 1) (pa_cons (pv 4) (pa_cons (pv 5) pa_nil)))))
      (pss_cons (ps_set (i := 7) sc_law.nd rfl (.inl rfl) (pe_callB (id := "repr") (call_reprK (K := K) rfl hgd (hr.mono (Nat.zero_le _))) (by rfl) T.n_repr (by decide +kernel) (pa_cons (pe_tup (pa_cons (pv 4) (pa_cons (pv 6) pa_nil))) pa_nil)))
      (pss_cons (ps_for PassesOwn.never rfl (pi_tup (pe_tup (pa_cons pe_bl (pa_cons pe_bl (pa_cons pe_bl pa_nil))))) (pg_name (i := 8) sc_law.nd rfl (.inl rfl)) (pss_cons (ps_set (i := 9) sc_law.nd rfl (.inl rfl) (pe_calK C_code_of_graph_kept_returns_slots (hr.mono (by omega)) (by rfl) (pk_cons (pv 4) (pk_cons (pv 5) (pk_cons (pv 8) (pk_cons (pv 6) pk_nil))))))
      (pss_one (ps_if (pt_not (pt_val (pe_cal C__law_same (hr.mono (by omega)) (by rfl) (pa_cons (pv 9) (pa_cons (pe_cal C__law_due (hr.mono (by omega)) (by rfl) (pa_cons (pv 4) (pa_cons (pv 5) (pa_cons (pv 8) (pa_cons (pv 6) pa_nil))))) pa_nil))))) (pss_one (ps_ret pe_bl)) pss_nil))))
      (pss_one (ps_if (pt_cmpR op_ne (pe_callB (id := "repr") (call_reprK (K := K) rfl hgd (hr.mono (Nat.zero_le _))) (by rfl) T.n_repr (by decide +kernel) (pa_cons (pe_tup (pa_cons (pv 4) (pa_cons (pv 6) pa_nil))) pa_nil)) (pv 7) (nomark _)) (pss_one (ps_ret pe_bl)) pss_nil)))))))))
      (pss_one (ps_ret pe_bl)))), ?_⟩
  refine ⟨.ref a, rfl, a, ns, rfl, hS, hn, fun d c H1 s1 dk1 => ?_⟩
  have hT1 := tabs_ext hT s1
  refine ⟨8, rfl, by decide, by decide, for_range (lo := 0) (n := (8 : Int).toNat) (fun j σ H2 => ∃ x2 x3 x4 x5 x6 x7 x8 x9 x10, σ = [some (.ref a), some (.ref d), x2, x3, x4, x5, x6, x7, x8, x9, x10] ∧ Deck d c (5000 * j) H2 ∧ Tabs Ts H2) ⟨_, _, _, _, _, _, _, _, _, rfl, dk1, hT1⟩ ?_ (fun σ H2 _ => q H2)⟩
  rintro j σ H2 hj ⟨x2, x3, x4, x5, x6, x7, x8, x9, x10, rfl, dk2, hT2⟩
  have hj : j < 8 := hj
  -- world, graph
  refine ⟨.ref d, rfl, d, c, _, rfl, by omega, dk2, fun wd H3 dk3 X3 hwd => ?_⟩
  refine ⟨.ref d, rfl, .ref d, rfl, .ref wd, rfl, d, c, wd, _, rfl, by omega, dk3, hwd, fun vg0 g0 N H4 dk4 X4 hg0 ok0 => ?_⟩
  refine ⟨d, c, _, N, vg0, g0, rfl, by omega, dk4, hg0, ok0, fun vg g H5 dk5 X5 hg ok => ?_⟩
  have X25 := X3.trans (X4.trans X5)
  clear hg0 ok0 hwd dk3 dk4
  have hcnt := ok.count
  -- held
  refine ⟨vg, rfl, _, 0, _, hg, rfl, rfl, fun z hz => ?_⟩
  cases hz
  refine ⟨_, rfl, by omega, by omega, fun D hD => ?_⟩
  have neD := dk5.has hD
  refine lc_range (lo := 0) (n := ((g.count : Nat) : Int).toNat) (fun i H6 => ∃ hs : List Nat, H6 D = some (.lst (hs.map nV)) ∧ (∀ x ∈ hs, x < i) ∧ hs.length ≤ i ∧ Deck d c (5000 * j + 4050 + i) H6 ∧ Ext d c H5 H6) ⟨[], upd_same, (fun _ h => nomatch h), Nat.le_refl _, (dk5.new hD).up (by omega), Ext.new hD⟩ ?_ ?_
  · rintro i H6 hi ⟨hs, h6, hlt, hlen, dk6, X6⟩
    have hi : i < 3 := by omega
    refine ⟨rfl, .ref d, rfl, d, c, _, 3, rfl, by decide, by decide, by omega, dk6, fun r H7 r0 r1 dk7 X7 => ⟨_, _, rfl, rfl, _, rfl, ?_⟩⟩
    have h7 := X7.at neD.1 neD.2 h6
    cases hb : decide ((0 : Int) < r) with
    | false => exact iteF ⟨hs, h7, fun x hx => Nat.lt_succ_of_lt (hlt x hx), Nat.le_succ_of_le hlen, dk7, X6.trans X7⟩
    | true =>
      refine iteT ⟨_, rfl, _, h7, small_line (by rw [List.length_map]; omega), hs ++ [i], ?_, fun x hx => ?_, by rw [List.length_append, List.length_singleton]; omega, dk7.upd neD.1 neD.2, (X6.trans X7).mut hD⟩
      · rw [upd_same, List.map_append, Int.zero_add]
        rfl
      · rcases List.mem_append.mp hx with y | y
        · exact Nat.lt_succ_of_lt (hlt x y)
        · rw [List.mem_singleton.mp y]
          exact Nat.lt_succ_self _
  rintro H6 ⟨hs, h6, hlt, hlen, dk6, X6⟩
  have eC : ((g.count : Nat) : Int).toNat = g.count := by omega
  rw [eC] at hlt hlen dk6
  refine ⟨D, _, rfl, .inl ⟨.inl (.inl h6), fun p7 hp7 => ?_⟩⟩
  have s7 := same_new (o := .tup (hs.map nV)) hp7
  have hh7 : Dp K (upd H6 p7 (.tup (hs.map nV))) (.ref p7) (.tuple (hs.map nD)) := dp_tupN hp7 (dpAll_maps hs fun x _ => .int _)
  have dk7 := (dk6.same s7).up (show 5000 * j + 4050 + g.count ≤ 5000 * j + 4060 by omega)
  have X57 := X6.trans (off_same_mono s7)
  have hg7 := dp_kt (ext_kt dk5 X57) _ _ (nlG g) hg
  generalize upd H6 p7 (.tup (hs.map nV)) = H7 at hh7 dk7 X57 hg7 ⊢
  -- slots
  refine ⟨.ref d, rfl, vg, rfl, .ref p7, rfl, d, c, _, N, vg, .ref p7, g, hs, rfl, by omega, dk7, hg7, ok, hh7, fun vr S H8 dk8 X8 hr8 hcS hS10 hvS hSl => ?_⟩
  have k78 := ext_kt dk7 X8
  have hg8 := dp_kt k78 _ _ (nlG g) hg7
  have hh8 := dp_kt k78 _ _ (nlNs hs) hh7
  have X28 := X25.trans (X57.trans X8)
  have hT8 := tabs_dk dk2 X28 hT2
  clear hg7 hh7 hg dk5 dk6 dk7 X57 X8 X6 X5 X4 X3 X25 k78
  have hIn := in_of ok hvS
  have hnS := slNoL hSl
  have hks : ∀ n ∈ hs, n < S.length := fun n hn => Nat.lt_of_lt_of_le (hlt n hn) hcS
  have fS := fnShape ok hSl hS10
  have sh := P54.shown_len (by decide) fS.sm
  have shl : (PyData.tuple [g.D, .tuple S]).shown.length ≤ sizeLine := by
    have h1 := sh.2
    have h2 := fS.wt
    rw [sizeLine_eq]
    omega
  have shd : (PyData.tuple [g.D, .tuple S]).depth ≤ 150 := by
    have := fS.dp
    omega
  -- repr
  refine ⟨vg, rfl, vr, rfl, (by show 2 ≤ sizeLine; decide), fun p9 hp9 => ?_⟩
  have s9 := same_new (o := .tup [vg, vr]) hp9
  have d9 : Dp K (upd H8 p9 (.tup [vg, vr])) (.ref p9) (.tuple [g.D, .tuple S]) := dp_tupN hp9 (.cons hg8 (.cons hr8 .nil))
  refine ⟨.ref p9, _, rfl, d9, sh.1, shd, shl, ?_⟩
  have hg9 := dp_mono s9 _ _ hg8
  have hh9 := dp_mono s9 _ _ hh8
  have hr9 := dp_mono s9 _ _ hr8
  have dk9 := dk8.same s9
  have hT9 := tabs_ext hT8 s9
  generalize upd H8 p9 (.tup [vg, vr]) = H9 at hg9 hh9 hr9 dk9 hT9 ⊢
  -- three times
  refine ⟨(by show 3 ≤ sizeLine; decide), fun p10 hp10 => ?_⟩
  have s10 := same_new (o := .tup [.bl true, .bl false, .bl true]) hp10
  have e10 : (upd H9 p10 (.tup [.bl true, .bl false, .bl true])) p10 = some (.tup [.bl true, .bl false, .bl true]) := upd_same
  have hg10 := dp_mono s10 _ _ hg9
  have hh10 := dp_mono s10 _ _ hh9
  have hr10 := dp_mono s10 _ _ hr9
  have dk10 := dk9.same s10
  have hT10 := tabs_ext hT9 s10
  generalize upd H9 p10 (.tup [.bl true, .bl false, .bl true]) = H10 at e10 hg10 hh10 hr10 dk10 hT10 ⊢
  have hsl : hs.length ≤ 10 := by omega
  refine ⟨p10, rfl, ⟨_, .inl (.inl e10)⟩, ?_⟩
  refine for_tup (xs := [.bl true, .bl false, .bl true]) (fun i σ H11 => ∃ x8 x9, σ = [some (.ref a), some (.ref d), some (.int (0 + (j : Int))), some (.ref wd), some vg, some (.ref p7), some vr, some (.str (PyData.tuple [g.D, .tuple S]).shown), x8, x9, x10] ∧ H11 p10 = some (.tup [.bl true, .bl false, .bl true]) ∧ Dp K H11 vg g.D ∧ Dp K H11 (.ref p7) (.tuple (hs.map K52.nD)) ∧ Dp K H11 vr (.tuple S) ∧ Deck d c (5000 * j + 4060 + 20) H11 ∧ Tabs Ts H11) ⟨_, _, rfl, e10, hg10, hh10, hr10, dk10, hT10⟩ ?_ ?_ ?_
  · rintro i σ H11 _ ⟨x8, x9, rfl, e11, _⟩
    exact .inl (.inl e11)
  · rintro i x σ H11 hi ⟨x8, x9, rfl, e11, hg11, hh11, hr11, dk11, hT11⟩
    have hb : ∃ b, x = .bl b := by
      have hm := List.mem_of_getElem? hi
      simp only [List.mem_cons, List.not_mem_nil, or_false] at hm
      rcases hm with rfl | rfl | rfl <;> exact ⟨_, rfl⟩
    obtain ⟨b, rfl⟩ := hb
    refine ⟨vg, rfl, .ref p7, rfl, .bl b, rfl, vr, rfl, rfl, vg, .ref p7, vr, b, g, hs, S, rfl, hg11, hh11, hr11, hIn, hks, by omega, hnS, hT11, fun z H12 x12 hT12 hz => ?_⟩
    have k12 := KT.ext x12
    have hg12 := dp_kt k12 _ _ (nlG g) hg11
    have hh12 := dp_kt k12 _ _ (nlNs hs) hh11
    have nlS : noL (.tuple S) = true := noL_tup.mpr hnS
    have hr12 := dp_kt k12 _ _ nlS hr11
    have fC := fnCode ok hSl hsl b
    refine ⟨z, rfl, vg, rfl, .ref p7, rfl, .bl b, rfl, vr, rfl, vg, .ref p7, vr, b, g, hs, S, rfl, hg12, hh12, hr12, hIn, hks, by omega, hnS, ok.pos, fun z2 H13 s13 hz2 => ⟨z, z2, _, rfl, dp_mono s13 _ _ hz, hz2, nlCode hnS hs b g, ?_, ?_, fun H14 s14 => ⟨_, rfl, iteF ?_⟩⟩⟩
    · have := fC.dp
      omega
    · have := fC.wt
      omega
    have s := s13.trans s14
    exact ⟨_, _, rfl, s _ _ (x12 _ _ e11 (fun _ z => by cases z)), dp_mono s _ _ hg12, dp_mono s _ _ hh12, dp_mono s _ _ hr12, (dk_extN dk11 x12).same s, tabs_ext hT12 s⟩
  · rintro σ H11 ⟨x8, x9, rfl, e11, hg11, hh11, hr11, dk11, hT11⟩
    refine ⟨vg, rfl, vr, rfl, (by show 2 ≤ sizeLine; decide), fun p12 hp12 => ?_⟩
    have s12 := same_new (o := .tup [vg, vr]) hp12
    have d12 : Dp K (upd H11 p12 (.tup [vg, vr])) (.ref p12) (.tuple [g.D, .tuple S]) := dp_tupN hp12 (.cons hg11 (.cons hr11 .nil))
    exact ⟨.ref p12, _, rfl, d12, sh.1, shd, shl, _, rfl, rfl, _, rfl, ne_no rfl ⟨_, _, _, _, _, _, _, _, _, rfl, (dk11.same s12).up (by omega), tabs_ext hT11 s12⟩⟩
end
end K52

set_option maxHeartbeats 0
open PySem PySem.W PySem.Calls PyProof.Rows
theorem PySem.Challenge.cw_wholeapart_k52_code_of_graphs_holds : PySem.Challenge.rw_wholeapart_k52_code_of_graphs.Holds := by
  w_on; o_law
  refine HandSHeadRun.head_any (r := OpenLaw.row PySem.Challenge.rw_wholeapart_k52_code_of_graphs) (q := view (OpenLaw.row PySem.Challenge.rw_wholeapart_k52_code_of_graphs).prog [39]) (H := K52.hk) (ob := K52.ob) (M := 6000) (loose := K52.loose) (d := HandSHeadRun.topDef (OpenLaw.row PySem.Challenge.rw_wholeapart_k52_code_of_graphs).prog 39) (kwd := []) K52.ob_eq
    (by kernel_rfl) (fun s => by kernel_rfl) K52.run (by kernel_rfl) (by kernel_rfl) (by kernel_rfl) (by rfl) (by first | assumption | decide +kernel) (by decide +kernel) ⟨rfl, rfl, rfl, rfl, rfl, by decide +kernel⟩ ?hw ?hc
  case hw => w_witness2
  case hc =>
    refine HG.walkTG (l := PySem.Challenge.rw_wholeapart_k52_code_of_graphs) (n := 63) (k := 9) (x := "_law_script") (CX := L2.CX0) rfl (by decide) (by kernel_rfl) ⟨rfl, by decide, by decide⟩ ?F (fun _ _ _ _ z => z)
    intro w mg fa h Y G hmg0
    obtain ⟨K, KX, c, cp, ct, nd⟩ := Y
    have hmg : mg ("law" : PySem.Str) = some (.ref fa) := by
      have e : (HandSHeadRun.topDef (OpenLaw.row PySem.Challenge.rw_wholeapart_k52_code_of_graphs).prog 39).name = ("law" : PySem.Str) := by kernel_rfl
      rw [← e]
      exact hmg0
    have T := K52.txt KX G c
    have efa : fa = He.ga K "law" := by
      have e := hmg.symm.trans (T.g "law" (by decide))
      cases e
      rfl
    subst efa
    obtain ⟨fd, F⟩ := T.d_law
    have ci := ct "in_slots" (by decide)
    have cc := ct "code_of" (by decide)
    have nd2 : [(cp "in_slots").2, (cp "code_of").2].Nodup := nd
    have hne : (cp "in_slots").2 ≠ (cp "code_of").2 := fun z => (List.nodup_cons.mp nd2).1 (List.mem_singleton.mpr z)
    clear nd nd2 ct
    generalize cp "in_slots" = pi at ci hne
    generalize cp "code_of" = pc at cc hne
    have two : ∀ {Q : Addr × Addr → Prop}, Q pi → Q pc → ∀ p ∈ [pi, pc], Q p := fun h1 h2 p hp => by
      rcases List.mem_cons.mp hp with rfl | hp
      · exact h1
      · rw [List.mem_singleton.mp hp]
        exact h2
    refine ⟨K, fd, [pi, pc], K52.spLaw K [(pi.2, K52.q_in), (pc.2, K52.q_co)], KX, two ci.tab cc.tab, two ci.no cc.no, two ci.hd cc.hd, fun s u => (L2.FunD.bindsA (ps := ["_law_script"]) F fun _ _ _ _ _ _ us hl => match us, hl with | [_], _ => rfl) s [u] rfl, fun H a ns hl _ hT hS => ⟨a, ns, rfl, hS, hl, fun p hp => ?_, fun _ => rfl⟩, fun base _ _ tb => ?_⟩
    · rcases List.mem_cons.mp hp with rfl | hp
      · exact .nil (hT pi List.mem_cons_self)
      · rw [List.mem_singleton.mp hp]
        exact .nil (hT pc (List.mem_cons_of_mem _ List.mem_cons_self))
    · refine K52.ok_law T ⟨⟨pi.1, pi.2, ⟨fun fd2 F2 => HG.code_of KX F2 ci, tb pi List.mem_cons_self, List.mem_cons_self, fun p hp e => ?_⟩⟩, ⟨pc.1, pc.2, ⟨fun fd2 F2 => HG.code_of KX F2 cc, tb pc (List.mem_cons_of_mem _ List.mem_cons_self), List.mem_cons_of_mem _ List.mem_cons_self, fun p hp e => ?_⟩⟩⟩ F
      · rcases List.mem_cons.mp hp with rfl | hp
        · rfl
        · rw [List.mem_singleton.mp hp] at e
          exact absurd e.symm hne
      · rcases List.mem_cons.mp hp with rfl | hp
        · exact absurd e hne
        · rw [List.mem_singleton.mp hp]
