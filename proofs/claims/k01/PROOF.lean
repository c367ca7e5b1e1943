import PyProof.Rows.All
import Wide.All
import OpenK.AllK
import Wide.FinOn
import HandS.ForMost
import HandS.WordsExc
import HandS.Defaults
import HandS.HeadEnd
import HandS.EndBits
import HandS.IsInst
import HandS.Wide
import HandS.HeadHook1
import HandS.HeadHook2
import HandS.More
import HandS.HeadHook3
import HandS.Walk
import HandS.Style
import HandS.NoneIn
import HandS.Strs
import HandS.SetBool
import PyProof.StrBlock2
import HandS.ExcInit
import HandS.ExcIs
import HandS.ExcField
import KE.KExcSuper
import HandS.ExcOwn
import HandS.ExcValue
import KE.KStateDown
import Lean
import HandS.Head0
import HandS.Head1
import HandS.Head2
import PySem.Challenge.RW_wholeapart_k01_errors
set_option Elab.async false
set_option linter.all false
set_option maxRecDepth 100000
set_option maxHeartbeats 4000000
/-! HG: defs that are called where no repr is under way (the guards are known to be none), and repr of data. -/
namespace HG
open PySem PySem.Spec PyProof.Rows L2

structure FnG (P : Program) (w : World) (K : PySem.W.Frag) (mg : Str → Option Value) (base : Heap)
    (CX : CXT) (k : Nat) (f : Addr) (fd : FuncData) (ps : List Str) (sp : Sp) : Prop where
  sized : ∀ vs H Q E, sp vs H Q E → vs.length = ps.length
  goes : ∀ (A : Around) (outer : List Env) (s : Shared) (H : Hp) (args : Args) (us : List Value) (vs : List V) (Q : VK) (E : XK),
    Room k A → A.guards = some [] → Env0 P w K mg base A outer s H → BindsTo s fd args (ps.zip us) → Vals vs us →
    sp vs H Q E → codeAny (model P w) A (.call (.ref f) args) (CR CX outer P w H s Q E) s

section
variable {P : Program} {w : World} {K : PySem.W.Frag} {mg : Str → Option Value} {base : Heap} {CX : CXT} {k : Nat} {f : Addr} {fd : FuncData} {ps : List Str} {sp : Sp}

theorem FnG.of (F : FnOk P w K mg base CX k f fd ps sp) : FnG P w K mg base CX k f fd ps sp :=
  ⟨F.len, fun A outer s H args us vs Q E r _ => F.run A outer s H args us vs Q E r⟩

theorem FnG.up {j : Nat} (F : FnG P w K mg base CX j f fd ps sp) (h : j ≤ k) : FnG P w K mg base CX k f fd ps sp :=
  ⟨F.sized, fun A outer s H args us vs Q E r => F.goes A outer s H args us vs Q E (r.mono h)⟩

/-- a def of the text, by its body -/
theorem fng_of {x qual : Str} {params : Arguments} {body : List Stmt} {scope : Scope} {dvs : List V} {kws : List (Str × V)} {N : List Str}
    (F : FunD K x qual params body scope dvs kws f fd) (S : FnScope N ps scope) (len : ∀ vs H Q E, sp vs H Q E → vs.length = ps.length)
    (hbody : ∀ (cdv : Value) (A : Around) (outer : List Env) (s : Shared) (H : Hp) (vs : List V) (Q : VK) (E : XK),
      Room k (A.deeper (envOfC qual scope s.heap.objs.size f cdv)) → A.guards = some [] → sp vs H Q E →
      ∃ t, PSs (cxOf CX P w K mg base N qual scope f cdv A outer s H E) body t ∧
        t { nx := fun _ H' => Q .non H', rt := Q } (start N vs) H) : FnG P w K mg base CX (k + 1) f fd ps sp := by
  obtain ⟨oc, od, dV, kV, doc, pm, an, cdv, ct, osl, rfl, lk, hcd, _, _⟩ := F.ex
  constructor
  · exact len
  intro A outer s H args us vs Q E hr hg e0 hb r hsp
  have X1 : K.In s.heap := e0.mod.kin.keeps fun b o e => (e0.bs b o e).1
  have X2 : s.heap.NoLimit := e0.mod.nolimit.keeps fun b o e => (e0.bs b o e).1
  obtain ⟨t, ht, hq⟩ := hbody cdv A outer s H vs Q E (hr.deeper _) hg hsp
  refine codeAny_call_function hr.depth (X1 _ _ lk) rfl S.co S.gen rfl (PySem.W.codeRec_of X1 hcd) (hb _ _ _ _ ?_)
  have kinds : ∀ y ∈ ps.zip us, scope.names.lookup y.1 = some .local ∨
      (scope.names.lookup y.1 = some .cell ∧ ((cellsFrom (s.heap.objs.size + 1) scope.names []).lookup y.1).isSome = true) := by
    rintro ⟨n, v⟩ hy
    have hn := (List.of_mem_zip hy).1
    rcases S.par n hn with q | q
    · left; exact q
    · right; exact ⟨q, PySem.W.cellsFrom_some _ _ _ (.inl q)⟩
  refine wpAny_newFunctionEnv_cells S.kind kinds ?_
  intro env he s1 x
  subst he
  refine ⟨X2.keeps x.toInCall.keep, codeAny_func ?_⟩
  have I := inv_start (CX := CX) (E := E) S hr.hd e0 (len _ _ _ _ hsp) r x
  refine wpAny_mono (ht.run [] s1 (start N vs) H _ I hq) ?_ (fun e s' hs => hs)
  intro fl s' hs
  cases fl with
  | next =>
    obtain ⟨σ', H', J, q⟩ := hs
    exact ⟨V.non, H', J.os, J.bare, J.base, J.hok, rfl, q⟩
  | ret u =>
    obtain ⟨v, σ', H', J, rv, q⟩ := hs
    exact ⟨v, H', J.os, J.bare, J.base, J.hok, rv, q⟩
  | brk => exact hs.elim fun _ z => z.elim fun _ z => z.2.elim
  | cont => exact hs.elim fun _ z => z.elim fun _ z => z.2.elim
end

/-! ### calls of such defs -/
section
variable {X : Cx} {CX : CXT} {k : Nat} {f : Addr} {fd : FuncData} {ps ks : List Str} {sp : Sp} {dvs : List V} {ds : List Value}
  {E : XK} {x : Str} {p pos : Pos} {e : Expr} {es : List Expr} {t tk : TA} {kws : List Keyword}
  {g : List Value → List Value → List Value} {gV : List V → List V → List V}

theorem fin_call {pins : List (Addr × Obj)} {σ : L2.St} {H : Hp} {s s' : Shared} {Q : VK} {r : Result} (hx : Passes CX X E)
    (I : Inv X pins σ H s) (h : CR CX X.stack X.prog X.w H s Q E r s') : callEnd (EP X pins σ Q) X.xe r s' := by
  cases r with
  | error e => exact hx pins σ H s e s' I h
  | ok fl =>
    cases fl with
    | ret u => exact I.after h
    | next => exact h.elim
    | brk => exact h.elim
    | cont => exact h.elim

theorem pe_callG (F : FnG X.prog X.w X.K X.mg X.base CX k f fd ps sp) (hr : Room k X.A) (hgd : X.A.guards = some []) (hg : Gl X x) (hm : X.mg x = some (.ref f))
    (hk : PySem.W.keepIn X.K (.ref f) = true) (hb : Binds X.K fd ps ds) (hd : Vals dvs ds) (hx : Passes CX X E) (ha : PA X (e :: es) t)
    (hdb : (x == ("__debug__" : Str)) = false := by decide)
    (he : starEach (e :: es) X.env = (false, eval e X.env) :: starEach es X.env := by rfl)
    (hpl : (backTo pos (starEach es X.env)).any (·.1) = false := by rfl) : PE X (.Call (.Name x p) (e :: es) [] pos) (tCall sp dvs E t) := by
  constructor
  intro pins s σ H Q I h
  refine wpAny_Call_Name_kw (ld_glob I hg hm ?_ hdb)
  refine PySem.W.callWith_K (h₀ := X.base) I.ok.mod.kin hk (thn (ha.run pos pins s σ H _ I h) ?_) he hpl
  rintro us s1 ⟨vs, H1, I1, r, q⟩
  have rr : Vals (vs ++ dvs) (us ++ ds) := r.append hd
  have hl : (us ++ ds).length = ps.length := rr.length.symm.trans (F.sized _ _ _ _ q)
  refine ⟨I1.kIn, wpAny_call (codeAny_mono (F.goes X.A X.stack s1 H1 ⟨us, []⟩ _ _ Q E hr hgd I1.env0 (hb s1 us I1.kIn hl) rr q) fun r s' hq => ?_)⟩
  exact fin_call hx I1 hq

end

/-! ### repr of data -/
mutual
theorem dp_nodict {K : PySem.W.Frag} {H : Hp} : ∀ (d : PyData) (v : V), Dp K H v d → d.hasDict = false
  | .none, _, _ => by simp only [PyData.hasDict]
  | .bool _, _, _ => by simp only [PyData.hasDict]
  | .int _, _, _ => by simp only [PyData.hasDict]
  | .str _, _, _ => by simp only [PyData.hasDict]
  | .list ds, _, h => by
    cases h with
    | lst _ ha =>
      simp only [PyData.hasDict]
      exact dpAll_nodict ds _ ha
  | .tuple ds, _, h => by
    cases h with
    | tup _ ha =>
      simp only [PyData.hasDict]
      exact dpAll_nodict ds _ ha
  | .dict _, _, h => by cases h
theorem dpAll_nodict {K : PySem.W.Frag} {H : Hp} : ∀ (ds : List PyData) (vs : List V), DpAll K H vs ds → PyData.hasDictAll ds = false
  | [], _, _ => by simp only [PyData.hasDictAll]
  | d :: ds, _, h => by
    cases h with
    | cons h1 h2 => simp only [PyData.hasDictAll, dp_nodict d _ h1, dpAll_nodict ds _ h2, Bool.or_self]
end

def rRepr (K : PySem.W.Frag) : List V → Hp → VK → Prop := fun xs H Q =>
  ∃ x d, xs = [x] ∧ Dp K H x d ∧ d.showable = true ∧ d.depth ≤ 150 ∧ d.shown.length ≤ sizeLine ∧ Q (.str d.shown) H

theorem call_repr {X : Cx} {k : Nat} (hgd : X.A.guards = some []) (hr : Room k X.A) : CallR X (.builtin "repr") (rRepr X.K) := by
  intro pins s σ H xs us Q I r h
  obtain ⟨x, d, rfl, hd, hs, hdep, hsz, q⟩ := h
  obtain ⟨u, rfl, ru⟩ := vals1 r
  obtain ⟨as, rd⟩ := Dp.reads I d x u hd ru
  have hu := hr.un
  cases rd with
  | none => 
    simp only [PyData.shown] at q
    exact PySem.P.repr_of_none ⟨.str _, H, I.tok _, ⟨_, rfl⟩, q⟩
  | bool b =>
    simp only [PyData.shown] at q
    exact PySem.P.repr_of_bool ⟨.str _, H, I.tok _, ⟨_, rfl⟩, q⟩
  | int i t =>
    simp only [PyData.shown] at q
    exact PySem.P.repr_of_int (by simpa [PyData.showable] using hs) ⟨.str _, H, I.tok _, ⟨_, rfl⟩, q⟩
  | str y t =>
    simp only [PyData.shown] at q hsz
    exact PySem.P.repr_of_str ⟨.str _, H, I.tok _, ⟨_, rfl⟩, q⟩ hsz
  | list h1 h2 h3 h4 =>
    have nd := dp_nodict _ _ hd
    refine repr_of_reads' (.list h1 h2 h3 h4) hs (fun z => ?_) hgd (by omega) (fun _ _ e => e) (fun h' u tk hk => ⟨.str _, H, I.kept hk, ⟨_, rfl⟩, q⟩) hsz
    rw [nd] at z; cases z
  | tuple h1 h2 h3 h4 =>
    have nd := dp_nodict _ _ hd
    refine repr_of_reads' (.tuple h1 h2 h3 h4) hs (fun z => ?_) hgd (by omega) (fun _ _ e => e) (fun h' u tk hk => ⟨.str _, H, I.kept hk, ⟨_, rfl⟩, q⟩) hsz
    rw [nd] at z; cases z
  | dict h1 h2 h3 h4 h5 => cases hd

/-! ### the law's own call -/
section
variable {P : Program} {w : World} {K : PySem.W.Frag} {mg mb : Str → Option Value} {CX : CXT} {k : Nat} {fa a : Addr} {fd : FuncData} {x : Str} {sp : Sp} {s1 : Shared} {vs : List Value} {ns : List Int}

/-- from an abstract heap H that tracks the script at most -/
theorem law_core (KX : K.In s1.heap) (hns : s1.heap.Ns mainGlobals mg) (hb : s1.heap.Ns builtinsNs mb)
    (hbb : ∀ x : Str, x ≠ "__name__" → mb x = bootBuiltins x) (hlim : s1.heap.NoLimit) (hg : s1.gens = #[])
    (ha : s1.heap.get? a = some { cls := .type "list", data := .seq vs.toArray }) (hr : Room k callerA)
    (F : ∀ base : Heap, K.In base → base.Ns mainGlobals mg → FnG P w K mg base CX k fa fd [x] sp)
    (hbind : ∀ (s : Shared) (u : Value), BindsTo s fd ⟨[u], []⟩ [(x, u)])
    {H : Hp} (only : Only H) (hok : HOk P w H s1.heap) (hA : ∀ b, H b ≠ none → b = a) (hK : H a ≠ none → K.lookup a = none)
    (hsp : sp [.ref a] H (fun v _ => v = .bl true) fun _ _ _ => False)
    (hCX : ∀ e s', CX [] H s1 (fun _ _ _ => False) e s' → False) :
    codeAny (model P w) callerA (.call (.ref fa) ⟨[.ref a], []⟩)
      (fun r s' => r = .ok (.ret (.bool true)) ∧ OldK s1.heap s'.heap ∧ s'.os = s1.os ∧ AllBare s'.gens) s1 := by
  have tracked : ∀ {b : Addr} {u : HO}, H b = some u → b = a := fun {b u} q => hA b (by simp [q])
  have dictFree : ∀ {b : Addr} {o : Obj} {es : Array DictEntry} {ep : Nat}, s1.heap.get? b = some o → o.data = .dict es ep → H b = none := by
    intro b o es ep e d
    cases q : H b with
    | none => rfl
    | some u =>
      rw [tracked q, ha] at e
      cases e
      cases d
  have nsK : ∀ {b : Addr} {m : Str → Option Value}, s1.heap.Ns b m → (hidT s1.heap H).Ns b m := by
    rintro b m ⟨o, es, ep, e, d, r⟩
    exact ⟨o, es, ep, hidT_get e (dictFree e d), d, r⟩
  have kin : K.In (hidT s1.heap H) := by
    intro b o e
    refine hidT_get (KX b o e) ?_
    cases q : H b with
    | none => rfl
    | some u =>
      have eb := tracked q
      subst eb
      rw [hK (by simp [q])] at e
      cases e
  have md : Mod K mg (hidT s1.heap H) := by
    obtain ⟨mc, l1, l2⟩ := hlim
    exact ⟨kin, nsK hns, ⟨mb, nsK hb, hbb⟩, ⟨mc, nsK l1, l2⟩⟩
  have e0 : Env0 P w K mg (hidT s1.heap H) callerA [] s1 H :=
    { frames := rfl, mod := md, bs := fun b o e => of_hidT e, bsz := Nat.le_of_eq (hidT_size _ _), funs := trivial,
      frf := fun b z => absurd (show b ∈ ([] : List Addr) from z) List.not_mem_nil, hok := hok, bare := .of_eq hg }
  have go := (F _ kin (nsK hns)).goes callerA [] s1 H ⟨[.ref a], []⟩ [.ref a] [.ref a] _ _ hr rfl e0 (hbind s1 (.ref a)) (.cons rfl .nil) hsp
  refine codeAny_mono go fun r s' h => ?_
  cases r with
  | error e => exact (hCX e s' h).elim
  | ok fl =>
    cases fl with
    | next => exact h.elim
    | brk => exact h.elim
    | cont => exact h.elim
    | ret u =>
      obtain ⟨v, H', os, bare, un, hok', r', q⟩ := h
      have ev : v = .bl true := q
      subst ev
      have eu : u = Value.bool true := r'
      subst eu
      refine ⟨rfl, OldK.of_keep fun b o e => ?_, os, bare⟩
      rcases only b with z | ⟨ob, xs, z⟩
      · exact un.keep b o e z (fun y => absurd (show b ∈ ([] : List Addr) from y) List.not_mem_nil) List.not_mem_nil
      · obtain ⟨e1, _⟩ := hok b _ z
        obtain ⟨e2, _⟩ := hok' b _ (un.frzs b ob _ z)
        rw [e1] at e
        cases e
        exact e2

theorem law_callG (KX : K.In s1.heap) (hns : s1.heap.Ns mainGlobals mg) (hb : s1.heap.Ns builtinsNs mb)
    (hbb : ∀ x : Str, x ≠ "__name__" → mb x = bootBuiltins x) (hlim : s1.heap.NoLimit) (hg : s1.gens = #[])
    (ha : s1.heap.get? a = some { cls := .type "list", data := .seq vs.toArray }) (hi : IntsAre vs ns) (hl : ns.length ≤ sizeLine) (hr : Room k callerA)
    (F : ∀ base : Heap, K.In base → base.Ns mainGlobals mg → FnG P w K mg base CX k fa fd [x] sp)
    (hbind : ∀ (s : Shared) (u : Value), BindsTo s fd ⟨[u], []⟩ [(x, u)])
    (hsp : ∀ H : Hp, Only H → SqL K H a (ns.map V.int) → sp [.ref a] H (fun v _ => v = .bl true) fun _ _ _ => False)
    (hCX : ∀ H e s', CX [] H s1 (fun _ _ _ => False) e s' → False) :
    codeAny (model P w) callerA (.call (.ref fa) ⟨[.ref a], []⟩)
      (fun r s' => r = .ok (.ret (.bool true)) ∧ OldK s1.heap s'.heap ∧ s'.os = s1.os ∧ AllBare s'.gens) s1 := by
  have rv := vals_ints hi
  cases hk : K.lookup a with
  | some o =>
    have e := KX a o hk
    rw [ha] at e
    cases e
    have on : Only (fun _ => none) := fun _ => .inl rfl
    refine law_core KX hns hb hbb hlim hg ha hr F hbind on (fun b u z => by cases z) (fun b z => absurd rfl z) (fun z => absurd rfl z) (hsp _ on (.inr ?_)) (hCX _)
    exact ⟨_, vs.toArray, _, hk, rfl, rfl, rfl, by rw [List.size_toArray, hi.length]; exact hl, by simpa using rv⟩
  | none =>
    let o : Obj := { cls := .type "list", data := .seq vs.toArray }
    let H : Hp := upd (fun _ => none) a (.frz o (.lst (ns.map V.int)))
    have hH : H a = some (.frz o (.lst (ns.map V.int))) := upd_same
    have hN : ∀ b, b ≠ a → H b = none := fun b z => upd_ne z
    have on : Only H := by
      intro b
      by_cases e : b = a
      · subst e; exact .inr ⟨_, _, hH⟩
      · exact .inl (hN b e)
    refine law_core KX hns hb hbb hlim hg ha hr F hbind on (fun b u z => ?_) (fun b z => ?_) (fun _ => hk) (hsp H on (.inl (.inr ⟨o, hH⟩))) (hCX _)
    · by_cases e : b = a
      · subst e
        rw [hH] at z
        cases z
        exact ⟨ha, by rw [List.length_map]; exact hl, vs, _, rv, ha⟩
      · rw [hN b e] at z; cases z
    · by_cases e : b = a
      · exact e
      · exact absurd (hN b e) z
end

/-- the walk that a head by facts asks for, with the script's bits -/
theorem walkG {l : PySem.W.OpenLaw} {n k : Nat} {q : Program} {loose : List Str} {XP : (Str → Option Value) → Heap → Prop} {YP : World → Heap → Prop} {d : DefRec} {CX : CXT} {x : Str}
    (hn : l.most = some n) (hn2 : n ≤ sizeLine) (hdf : d.params.defaults = []) (hr : Room k callerA)
    (F : ∀ (w : World) (mg : Str → Option Value) (fa : Addr) (h : Heap), YP w h → h.Ns mainGlobals mg → mg d.name = some (.ref fa) →
      ∃ (K : PySem.W.Frag) (fd : FuncData) (sp : Sp), K.In h ∧ (∀ (s : Shared) (u : Value), BindsTo s fd ⟨[u], []⟩ [(x, u)]) ∧
        (∀ (H : Hp) (a : Addr) (ns : List Int), ns.length ≤ n → (∀ z ∈ ns, Builtin.Int.intBits z ≤ 1048576) → Only H → SqL K H a (ns.map V.int) →
          sp [.ref a] H (fun v _ => v = .bl true) fun _ _ _ => False) ∧
        ∀ base : Heap, K.In base → base.Ns mainGlobals mg → FnG l.prog w K mg base CX k fa fd [x] sp)
    (hCX : ∀ (H : Hp) (s : Shared) (e : Value) (s' : Shared), CX [] H s (fun _ _ _ => False) e s' → False) :
    PySem.W.WalkO q loose XP YP l.row.toRowW d [] (fun f vs => PySem.call f vs) := by
  refine Att.attach_callB hn hdf ?_
  intro w s₀ s₁ mg mb fa o pm cd doc a vs ns G Y ho hd hcd hmg hobj hints hlen hbits hg
  obtain ⟨K, fd, sp, KX, hb, hsp, hF⟩ := F w mg fa _ Y G.T.g hmg
  exact law_callG KX G.T.g G.T.b G.T.builtins G.T.nolimit hg hobj hints (Nat.le_trans hlen hn2) hr hF hb (fun H hO hS => hsp H a ns hlen hbits hO hS) (fun H e s' => hCX H s₁ e s')
end HG

set_option maxHeartbeats 4000000
/-! HW: short words over HG: defs called by name (Cal), data, frames. -/
namespace HG
open PySem PySem.Spec PyProof.Rows L2

/-! ### a def of the top, ready to be called -/
structure Cal (P : Program) (w : World) (K : PySem.W.Frag) (mg : Str → Option Value) (base : Heap) (x : Str) (k : Nat) (ps : List Str) (sp : Sp) : Prop where
  ex : ∃ fd, FnOk P w K mg base CX0 k (He.ga K x) fd ps sp ∧ Binds K fd ps []
  gl : mg x = some (.ref (He.ga K x))
  kp : PySem.W.keepIn K (.ref (He.ga K x)) = true
structure CalG (P : Program) (w : World) (K : PySem.W.Frag) (mg : Str → Option Value) (base : Heap) (x : Str) (k : Nat) (ps : List Str) (sp : Sp) : Prop where
  ex : ∃ fd, FnG P w K mg base CX0 k (He.ga K x) fd ps sp ∧ Binds K fd ps []
  gl : mg x = some (.ref (He.ga K x))
  kp : PySem.W.keepIn K (.ref (He.ga K x)) = true
/-- called by keywords alone -/
structure CalK (P : Program) (w : World) (K : PySem.W.Frag) (mg : Str → Option Value) (base : Heap) (x : Str) (k : Nat) (ks ps : List Str) (gV : List V → List V) (sp : Sp) : Prop where
  ex : ∃ fd g, FnOk P w K mg base CX0 k (He.ga K x) fd ps sp ∧ KBn K fd ps 0 ks g (fun _ zs => gV zs)
  gl : mg x = some (.ref (He.ga K x))
  kp : PySem.W.keepIn K (.ref (He.ga K x)) = true
section
variable {X : Cx} {k : Nat} {ps ks : List Str} {sp : Sp} {x : Str} {p pos : Pos} {e : Expr} {es : List Expr} {t tk : TA} {kws : List Keyword} {gV : List V → List V}
theorem pe_cal (C : Cal X.prog X.w X.K X.mg X.base x k ps sp) (hr : Room k X.A) (hg : Gl X x) (ha : PA X (e :: es) t)
    (hdb : (x == ("__debug__" : Str)) = false := by decide)
    (he : starEach (e :: es) X.env = (false, eval e X.env) :: starEach es X.env := by rfl)
    (hpl : (backTo pos (starEach es X.env)).any (·.1) = false := by rfl) : PE X (.Call (.Name x p) (e :: es) [] pos) (tCall sp [] E0 t) := by
  obtain ⟨fd, F, b⟩ := C.ex
  exact pe_call F hr hg C.gl C.kp b .nil pass0 ha hdb he hpl
theorem pe_calG (C : CalG X.prog X.w X.K X.mg X.base x k ps sp) (hr : Room k X.A) (hgd : X.A.guards = some []) (hg : Gl X x) (ha : PA X (e :: es) t)
    (hdb : (x == ("__debug__" : Str)) = false := by decide)
    (he : starEach (e :: es) X.env = (false, eval e X.env) :: starEach es X.env := by rfl)
    (hpl : (backTo pos (starEach es X.env)).any (·.1) = false := by rfl) : PE X (.Call (.Name x p) (e :: es) [] pos) (tCall sp [] E0 t) := by
  obtain ⟨fd, F, b⟩ := C.ex
  exact pe_callG F hr hgd hg C.gl C.kp b .nil pass0 ha hdb he hpl
def tCalK (m : Nat) (sp : Sp) (gV : List V → List V) (tk : TA) : TE := fun σ H Q => tk σ H fun zs H1 => zs.length = m ∧ sp (gV zs) H1 Q E0
theorem pe_calK (C : CalK X.prog X.w X.K X.mg X.base x k ks ps gV sp) (hr : Room k X.A) (hg : Gl X x) (hkw : PK X kws tk)
    (hall : (backToKw pos (keywordEach kws X.env)).all (·.1.isSome) = true := by rfl)
    (hks : (backToKw pos (keywordEach kws X.env)).filterMap (·.1) = ks := by rfl)
    (hdb : (x == ("__debug__" : Str)) = false := by decide)
    (hpl : ((backTo pos (starEach [] X.env)).any (·.1) || (backToKw pos (keywordEach kws X.env)).any (·.1.isNone)) = false := by rfl) :
    PE X (.Call (.Name x p) [] kws pos) (tCalK ks.length sp gV tk) := by
  obtain ⟨fd, g, F, b⟩ := C.ex
  constructor
  intro pins s σ H Q I h
  refine wpAny_Call_Name_kw (ld_glob I hg C.gl ?_ hdb)
  refine PySem.W.callWith_KW0 (h₀ := X.base) I.ok.mod.kin C.kp hall (thn (hkw.run pos pins s σ H _ I h) ?_) hpl
  rintro ws s2 ⟨zs, H2, I2, rz, l2, q2⟩
  rw [hks]
  exact ⟨I2.kIn, run_fnN (us := []) (vs := []) F hr b pass0 I2 .nil rz rfl l2 q2⟩
theorem pe_globI {i : Int} (h : ∃ t, X.mg x = some (.int i t)) (hg : Gl X x) (hd : (x == ("__debug__" : Str)) = false := by decide) : PE X (.Name x pos) (tC (.int i)) := by
  obtain ⟨t, h⟩ := h
  exact pe_glob hg h ⟨t, rfl⟩ hd
theorem pe_globS {z : Str} (h : ∃ t, X.mg x = some (.str z t)) (hg : Gl X x) (hd : (x == ("__debug__" : Str)) = false := by decide) : PE X (.Name x pos) (tC (.str z)) := by
  obtain ⟨t, h⟩ := h
  exact pe_glob hg h ⟨t, rfl⟩ hd
end

/-! ### data -/
def tyN : PyData → String
  | .none => "NoneType"
  | .bool _ => "bool"
  | .int _ => "int"
  | .str _ => "str"
  | .list _ => "list"
  | .tuple _ => "tuple"
  | .dict _ => "dict"
theorem dp_ty {K : PySem.W.Frag} {H : Hp} {v : V} {d : PyData} (h : Dp K H v d) : TyX K H v (.type (tyN d)) := by
  cases h with
  | non => exact .base .non
  | bl b => exact .base (.bl b)
  | int i => exact .base (.int i)
  | str x => exact .base (.str x)
  | lst s _ =>
    rcases s with (e | ⟨o, e⟩) | ⟨o, _, _, e, c, _⟩
    · exact .base (.lst e)
    · exact .base (.frz e)
    · exact .kList e c
  | tup s _ =>
    rcases s with (e | ⟨o, e⟩) | ⟨o, _, _, e, c, _⟩
    · exact .base (.tup e)
    · exact .fTuple e
    · exact .kTuple e c
theorem isi_of {K : PySem.W.Frag} {H : Hp} {v : V} {d : PyData} {n : String} {b : Bool} {Q : VK} (h : Dp K H v d) (hk : kitB (tyN d) n = some b) (q : Q (.bl b) H) : rIsi K [v, .ty n] H Q :=
  ⟨v, .ty n, _, _, b, rfl, .ty n, dp_ty h, kit_ty hk, q⟩
def isI : PyData → Bool
  | .int _ => true
  | .bool _ => true
  | _ => false
def isB : PyData → Bool
  | .bool _ => true
  | _ => false
def isS : PyData → Bool
  | .str _ => true
  | _ => false
def isL : PyData → Bool
  | .list _ => true
  | _ => false
def isT : PyData → Bool
  | .tuple _ => true
  | _ => false
theorem kit_int : ∀ d : PyData, kitB (tyN d) "int" = some (isI d)
  | .none => (by decide +kernel : kitB "NoneType" "int" = some false)
  | .bool _ => (by decide +kernel : kitB "bool" "int" = some true)
  | .int _ => (by decide +kernel : kitB "int" "int" = some true)
  | .str _ => (by decide +kernel : kitB "str" "int" = some false)
  | .list _ => (by decide +kernel : kitB "list" "int" = some false)
  | .tuple _ => (by decide +kernel : kitB "tuple" "int" = some false)
  | .dict _ => (by decide +kernel : kitB "dict" "int" = some false)
theorem kit_bool : ∀ d : PyData, kitB (tyN d) "bool" = some (isB d)
  | .none => (by decide +kernel : kitB "NoneType" "bool" = some false)
  | .bool _ => (by decide +kernel : kitB "bool" "bool" = some true)
  | .int _ => (by decide +kernel : kitB "int" "bool" = some false)
  | .str _ => (by decide +kernel : kitB "str" "bool" = some false)
  | .list _ => (by decide +kernel : kitB "list" "bool" = some false)
  | .tuple _ => (by decide +kernel : kitB "tuple" "bool" = some false)
  | .dict _ => (by decide +kernel : kitB "dict" "bool" = some false)
theorem kit_str : ∀ d : PyData, kitB (tyN d) "str" = some (isS d)
  | .none => (by decide +kernel : kitB "NoneType" "str" = some false)
  | .bool _ => (by decide +kernel : kitB "bool" "str" = some false)
  | .int _ => (by decide +kernel : kitB "int" "str" = some false)
  | .str _ => (by decide +kernel : kitB "str" "str" = some true)
  | .list _ => (by decide +kernel : kitB "list" "str" = some false)
  | .tuple _ => (by decide +kernel : kitB "tuple" "str" = some false)
  | .dict _ => (by decide +kernel : kitB "dict" "str" = some false)
theorem kit_list : ∀ d : PyData, kitB (tyN d) "list" = some (isL d)
  | .none => (by decide +kernel : kitB "NoneType" "list" = some false)
  | .bool _ => (by decide +kernel : kitB "bool" "list" = some false)
  | .int _ => (by decide +kernel : kitB "int" "list" = some false)
  | .str _ => (by decide +kernel : kitB "str" "list" = some false)
  | .list _ => (by decide +kernel : kitB "list" "list" = some true)
  | .tuple _ => (by decide +kernel : kitB "tuple" "list" = some false)
  | .dict _ => (by decide +kernel : kitB "dict" "list" = some false)
theorem kit_tuple : ∀ d : PyData, kitB (tyN d) "tuple" = some (isT d)
  | .none => (by decide +kernel : kitB "NoneType" "tuple" = some false)
  | .bool _ => (by decide +kernel : kitB "bool" "tuple" = some false)
  | .int _ => (by decide +kernel : kitB "int" "tuple" = some false)
  | .str _ => (by decide +kernel : kitB "str" "tuple" = some false)
  | .list _ => (by decide +kernel : kitB "list" "tuple" = some false)
  | .tuple _ => (by decide +kernel : kitB "tuple" "tuple" = some true)
  | .dict _ => (by decide +kernel : kitB "dict" "tuple" = some false)

mutual
theorem dp_mono {K : PySem.W.Frag} {H H' : Hp} (e : Same H H') : ∀ (d : PyData) (v : V), Dp K H v d → Dp K H' v d
  | .none, _, h => by cases h; exact .non
  | .bool b, _, h => by cases h; exact .bl b
  | .int i, _, h => by cases h; exact .int i
  | .str x, _, h => by cases h; exact .str x
  | .list ds, _, h => by
    cases h with
    | lst s a =>
      refine .lst ?_ (dpAll_mono e ds _ a)
      rcases s with (s | ⟨o, s⟩) | s
      · exact .inl (.inl (e _ _ s))
      · exact .inl (.inr ⟨o, e _ _ s⟩)
      · exact .inr s
  | .tuple ds, _, h => by
    cases h with
    | tup s a =>
      refine .tup ?_ (dpAll_mono e ds _ a)
      rcases s with (s | ⟨o, s⟩) | s
      · exact .inl (.inl (e _ _ s))
      · exact .inl (.inr ⟨o, e _ _ s⟩)
      · exact .inr s
  | .dict _, _, h => by cases h
theorem dpAll_mono {K : PySem.W.Frag} {H H' : Hp} (e : Same H H') : ∀ (ds : List PyData) (vs : List V), DpAll K H vs ds → DpAll K H' vs ds
  | [], _, h => by cases h; exact .nil
  | d :: ds, _, h => by
    cases h with
    | cons a b => exact .cons (dp_mono e d _ a) (dpAll_mono e ds _ b)
end
theorem dpAll_len {K : PySem.W.Frag} {H : Hp} : ∀ {vs : List V} {ds : List PyData}, DpAll K H vs ds → vs.length = ds.length
  | _, _, .nil => rfl
  | _, _, .cons _ h => congrArg (· + 1) (dpAll_len h)
theorem dpAll_app {K : PySem.W.Frag} {H : Hp} : ∀ {vs us : List V} {ds es : List PyData}, DpAll K H vs ds → DpAll K H us es → DpAll K H (vs ++ us) (ds ++ es)
  | _, _, _, _, .nil, h => h
  | _, _, _, _, .cons a b, h => .cons a (dpAll_app b h)
theorem dpAll_get {K : PySem.W.Frag} {H : Hp} : ∀ {vs : List V} {ds : List PyData} {i : Nat} {v : V}, DpAll K H vs ds → vs[i]? = some v → ∃ d, ds[i]? = some d ∧ Dp K H v d
  | _, _, _, _, .nil, h => by simp at h
  | _, _, 0, _, .cons a _, h => by
    simp at h
    subst h
    exact ⟨_, rfl, a⟩
  | _, _, i + 1, _, .cons _ b, h => by
    obtain ⟨d, e, q⟩ := dpAll_get (i := i) b (by simpa using h)
    exact ⟨d, by simpa using e, q⟩

theorem dpInts {K : PySem.W.Frag} {H : Hp} : ∀ ns : List Int, DpAll K H (ns.map V.int) (ns.map PyData.int)
  | [] => .nil
  | n :: ns => .cons (.int n) (dpInts ns)
theorem canLay_ints : ∀ ns : List Int, PyData.canLayAll0 (ns.map PyData.int) = true
  | [] => by simp only [List.map_nil, PyData.canLayAll0]
  | n :: ns => by simp only [List.map_cons, PyData.canLayAll0, PyData.canLay0, canLay_ints ns, Bool.and_self]
theorem depth_ints : ∀ ns : List Int, PyData.depthAll (ns.map PyData.int) ≤ 1
  | [] => by simp only [List.map_nil, PyData.depthAll]; omega
  | n :: ns => by
    have := depth_ints ns
    simp only [List.map_cons, PyData.depthAll, PyData.depth]
    omega
theorem shaped_ints (ns : List Int) : SeqAt.shaped (.list (ns.map PyData.int)) = true := by
  have h := depth_ints ns
  have h2 : (PyData.list (ns.map PyData.int)).depth ≤ 64 := by
    simp only [PyData.depth]
    omega
  unfold SeqAt.shaped
  simp only [PyData.canLay0, canLay_ints ns, Bool.true_and]
  exact decide_eq_true h2
theorem upd_get {H : Hp} {p b : Addr} {o u : HO} (hp : H p = none) (h : H b = some u) : upd H p o b = some u := by
  rw [upd_ne (ne_of_none h hp)]
  exact h

/-! ### heaps but for two places -/
def off (d c : Addr) (H : Hp) : Hp := fun b => if b = d ∨ b = c then none else H b
theorem off_same {d c : Addr} {H : Hp} : Same (off d c H) H := fun b o h => by
  unfold off at h
  split at h
  · cases h
  · exact h
theorem off_get {d c b : Addr} {H : Hp} (h1 : b ≠ d) (h2 : b ≠ c) : off d c H b = H b := if_neg (fun z => z.elim h1 h2)
def Ext (d c : Addr) (H H' : Hp) : Prop := Same (off d c H) (off d c H')
theorem Ext.refl {d c : Addr} (H : Hp) : Ext d c H H := fun _ _ h => h
theorem Ext.trans {d c : Addr} {H H1 H2 : Hp} (a : Ext d c H H1) (b : Ext d c H1 H2) : Ext d c H H2 := fun x o h => b x o (a x o h)
theorem Ext.d {d c : Addr} {H : Hp} {o : HO} : Ext d c H (upd H d o) := fun b u h => by
  unfold off at h ⊢
  split at h
  · cases h
  · rename_i n
    rw [if_neg n, upd_ne (fun z => n (.inl z))]
    exact h
theorem Ext.c {d c : Addr} {H : Hp} {o : HO} : Ext d c H (upd H c o) := fun b u h => by
  unfold off at h ⊢
  split at h
  · cases h
  · rename_i n
    rw [if_neg n, upd_ne (fun z => n (.inr z))]
    exact h
theorem Ext.new {d c p : Addr} {H : Hp} {o : HO} (hp : H p = none) : Ext d c H (upd H p o) := fun b u h => by
  unfold off at h ⊢
  split at h
  · cases h
  · rename_i n
    rw [if_neg n, upd_ne (ne_of_none h hp)]
    exact h
/-- an object that was not there may change -/
theorem Ext.mut {d c p : Addr} {H H' : Hp} {o : HO} (e : Ext d c H H') (hp : H p = none) : Ext d c H (upd H' p o) := fun b u h => by
  have h1 := e b u h
  unfold off at h h1 ⊢
  split at h
  · cases h
  · rename_i n
    rw [if_neg n] at h1
    rw [if_neg n, upd_ne (ne_of_none h hp)]
    exact h1
theorem Ext.at {d c b : Addr} {H H' : Hp} {o : HO} (e : Ext d c H H') (h1 : b ≠ d) (h2 : b ≠ c) (h : H b = some o) : H' b = some o := by
  have := e b o ((off_get h1 h2).trans h)
  rw [off_get h1 h2] at this
  exact this
/-- of H' what H had not -/
def news (H H' : Hp) : Hp := fun b => if (H b).isSome = true then none else H' b
theorem news_get {H H' : Hp} {b : Addr} {o : HO} : news H H' b = some o ↔ H b = none ∧ H' b = some o := by
  unfold news
  cases h : H b with
  | none => simp
  | some u => simp
theorem news_same {H H' : Hp} : Same (news H H') H' := fun b o h => (news_get.mp h).2
theorem Ext.sqL {K : PySem.W.Frag} {d c : Addr} {H H' : Hp} {a : Addr} {xs : List V} (e : Ext d c H H') (h : SqL K (off d c H) a xs) : SqL K (off d c H') a xs := Same.seq e h
theorem offL {K : PySem.W.Frag} {d c : Addr} {H : Hp} {a : Addr} {xs : List V} (h : SqL K (off d c H) a xs) : SqL K H a xs := Same.seq off_same h
theorem offD {K : PySem.W.Frag} {d c : Addr} {H : Hp} {v : V} {D : PyData} (h : Dp K (off d c H) v D) : Dp K H v D := dp_mono off_same D v h
theorem Ext.dp {K : PySem.W.Frag} {d c : Addr} {H H' : Hp} {v : V} {D : PyData} (e : Ext d c H H') (h : Dp K (off d c H) v D) : Dp K (off d c H') v D := dp_mono e D v h
theorem tyes {σ : L2.St} {H : Hp} {A B : Hp → Prop} (h : A H) : tYes σ H fun b H3 => if b = true then A H3 else B H3 := by
  show if true = true then A H else B H
  exact iteT h
/-! ### texts -/
abbrev cp (z : Str) : List Nat := z.cps.toList
theorem cp_len (z : Str) : (cp z).length = z.length := by unfold cp; simp [Str.length]
theorem cp_app (a b : Str) : cp (a ++ b) = cp a ++ cp b := by
  unfold cp
  rw [Str.cps_append, Array.toList_append]
theorem cp_ext {a b : Str} (h : cp a = cp b) : a = b := Str.ext' (Array.toList_inj.mp h)
structure OkS (m : Nat) (z : Str) : Prop where
  len : z.length ≤ m
  cps : ∀ c ∈ cp z, c < 128
theorem OkS.up {m n : Nat} {z : Str} (h : OkS m z) (hn : m ≤ n) : OkS n z := ⟨Nat.le_trans h.len hn, h.cps⟩
theorem OkS.app {m n : Nat} {a b : Str} (h : OkS m a) (g : OkS n b) : OkS (m + n) (a ++ b) := by
  refine ⟨?_, fun c hc => ?_⟩
  · rw [Str.length_append]
    have := h.len
    have := g.len
    omega
  · rw [cp_app] at hc
    rcases List.mem_append.mp hc with q | q
    · exact h.cps c q
    · exact g.cps c q
theorem OkS.cut {m : Nat} {z : Str} (h : OkS m z) (lo hi : Option Int) : OkS m (cutS z lo hi) := by
  have e : cp (cutS z lo hi) = ((cp z).drop (HT.sIx z.length 0 lo)).take (HT.sIx z.length z.length hi - HT.sIx z.length 0 lo) := by
    unfold cutS cp
    simp
  refine ⟨?_, fun c hc => ?_⟩
  · rw [← cp_len, e, List.length_take, List.length_drop, cp_len]
    have := h.len
    omega
  · rw [e] at hc
    exact h.cps c (List.mem_of_mem_drop (List.mem_of_mem_take hc))
theorem OkS.one {c : Nat} (h : c < 128) : OkS 1 ⟨#[c]⟩ := ⟨by simp [Str.length], fun x hx => by simp [cp] at hx; omega⟩
theorem OkS.repr {m : Nat} {z : Str} (h : OkS m z) : (reprText z).length ≤ 10 * m + 2 := by
  have h1 := StrLaws.reprText_len z (fun c hc => Nat.lt_of_lt_of_le (h.cps c hc) (by decide))
  have := h.len
  omega
theorem cp_join0 : ∀ l : List Str, cp (Str.join "" l) = (l.map cp).flatten
  | [] => rfl
  | [x] => by
    show cp x = _
    simp
  | x :: y :: r => by
    show cp (x ++ "" ++ Str.join "" (y :: r)) = _
    rw [cp_app, cp_app, cp_join0 (y :: r)]
    have e : cp ("" : Str) = [] := rfl
    rw [e]
    simp
theorem cp_joinT (l : List Str) : cp (Txt.join "" l) = (l.map cp).flatten := by
  rw [eq_of_beq (join_plain_closes "" l)]
  exact cp_join0 l
end HG

set_option maxHeartbeats 4000000
/-! HH: a head's facts by a Hook with one more Bool; written dicts with text keys; written tuples. -/
namespace HG
open PySem PySem.Spec PyProof.Rows L2

/-! ### the Hook -/
abbrev AlB : Type := He.AlT × Bool
def obsB (fa : List He.Fa) (fn : List He.DefD) (ts : List He.Tab) (bx : PySem.W.Frag → Bool) (K : PySem.W.Frag) : AlB := (He.obsT fa fn ts K, bx K)
def obsBG (n : Nat) (fa : List He.Fa) (fn : List He.DefD) (ts : List He.Tab) (bx : PySem.W.Frag → Bool) (g : Addr → Option Obj) : AlB := obsB fa fn ts bx (He.frG g (He.asD g n))
def SaysB (fa : List He.Fa) (fn : List He.DefD) (ts : List He.Tab) (bx : PySem.W.Frag → Bool) (w : World) (K : PySem.W.Frag) : Prop := obsB fa fn ts bx K = (He.valT fn ts w, true)
def hookB (n : Nat) (fa : List He.Fa) (fn : List He.DefD) (ts : List He.Tab) (bx : PySem.W.Frag → Bool) : PySem.W.Hook where
  α := AlB
  obs := fun s => obsBG n fa fn ts bx s.heap.get?
  val := fun w => (He.valT fn ts w, true)
  says := fun w h => ∃ K : PySem.W.Frag, K.In h ∧ SaysB fa fn ts bx w K
  of := fun _ _ e => ⟨_, He.frG_in, e⟩
  keeps := fun _ _ _ ⟨K, hK, c⟩ k => ⟨K, PySem.W.Frag.In.keeps hK k, c⟩
theorem obsBG_eq {n : Nat} {fa : List He.Fa} {fn : List He.DefD} {ts : List He.Tab} {bx : PySem.W.Frag → Bool} {g : Addr → Option Obj} {s : Shared} (h : ∀ a, g a = s.heap.get? a) :
    obsBG n fa fn ts bx g = (hookB n fa fn ts bx).obs s := by
  have e : g = s.heap.get? := funext h
  rw [e]
  rfl
section
variable {fa : List He.Fa} {fn : List He.DefD} {ts : List He.Tab} {bx : PySem.W.Frag → Bool} {w : World} {K : PySem.W.Frag}
theorem SaysB.t (c : SaysB fa fn ts bx w K) : He.SaysT fa fn ts w K := congrArg (fun z : AlB => z.1) c
theorem SaysB.d (c : SaysB fa fn ts bx w K) : He.SaysD fa fn K := c.t.d
theorem SaysB.b (c : SaysB fa fn ts bx w K) : bx K = true := congrArg (fun z : AlB => z.2) c
end

/-! ### a written dict with text keys -/
structure KTab (K : PySem.W.Frag) (w : World) (a : Addr) (kvs : List (Str × V)) : Prop where
  dict : ∃ es n, KDict K w a es n
  hit : ∀ q ∈ kvs, ∃ u, PySem.W.nsIn K a q.1 = some (some u) ∧ RelV q.2 u
  miss : ∀ z : Str, z ∉ kvs.map (·.1) → PySem.W.nsIn K a z = some none
theorem keys_mem {P : Params} : ∀ {l : List DictEntry} {ks : List Str}, l.map He.keyOf = He.keysIn P ks → ∀ e ∈ l, ∃ x t, e.key = .str x t ∧ x ∈ ks
  | [], _, _, e, he => nomatch he
  | e :: r, [], h, _, _ => by cases h
  | e :: r, k :: ks, h, d, hd => by
    have h1 : He.keyOf e :: r.map He.keyOf = some (k, PyData.keyHash P k) :: He.keysIn P ks := h
    injection h1 with h2 h3
    rcases List.mem_cons.mp hd with rfl | hd
    · unfold He.keyOf at h2
      split at h2
      · rename_i x t q
        have h4 := Option.some.inj h2
        obtain ⟨h5, h6⟩ := Prod.mk.inj h4
        exact ⟨x, t, q, by rw [h5]; exact List.mem_cons_self⟩
      · cases h2
    · obtain ⟨x, t, q, hx⟩ := keys_mem h3 d hd
      exact ⟨x, t, q, List.mem_cons_of_mem _ hx⟩
theorem ns_miss {K : PySem.W.Frag} {P : Params} {a : Addr} {ks : List Str} (h : He.dicW K a = some (He.keysIn P ks)) {z : Str} (hz : z ∉ ks) : PySem.W.nsIn K a z = some none := by
  unfold He.dicW at h
  cases q : K.lookup a with
  | none =>
    rw [q] at h
    cases h
  | some o =>
    obtain ⟨oc, od, dt, osl⟩ := o
    rw [q] at h
    cases oc with
    | type c =>
      cases od with
      | none =>
        cases dt with
        | dict es n =>
          have h1 : (match decide (c = "dict") && (osl.isEmpty && !(a == sysModules)) with
            | true => some (es.toList.map He.keyOf)
            | false => none) = some (He.keysIn P ks) := h
          have h2 : es.toList.map He.keyOf = He.keysIn P ks := by
            cases y : decide (c = "dict") && (osl.isEmpty && !(a == sysModules)) with
            | false =>
              rw [y] at h1
              cases h1
            | true =>
              rw [y] at h1
              exact Option.some.inj h1
          have hk := keys_mem h2
          unfold PySem.W.nsIn
          rw [q]
          have e1 : es.toList.find? (·.key.isStr z) = none := by
            rw [List.find?_eq_none]
            intro e he
            obtain ⟨x, t, ex, hx⟩ := hk e he
            rw [ex]
            show ¬ (Value.str x t).isStr z = true
            intro hs
            have : x = z := by
              first
                | exact (beq_iff_eq.mp hs)
                | exact of_decide_eq_true hs
                | (simp [Value.isStr] at hs; exact hs)
            exact hz (this ▸ hx)
          have e2 : es.toList.any (·.refKey) = false := by
            rw [List.any_eq_false]
            intro e he
            obtain ⟨x, t, ex, hx⟩ := hk e he
            unfold DictEntry.refKey
            rw [ex]
            simp
          show (match es.toList.find? (·.key.isStr z) with
            | some e => some (some e.val)
            | none => if es.toList.any (·.refKey) then none else some none) = some none
          rw [e1, e2]
          rfl
        | _ => cases h
      | some b => cases dt <;> cases h
    | _ => cases od <;> cases dt <;> cases h
theorem ktab_mk {fa : List He.Fa} {fn : List He.DefD} {ts : List He.Tab} {bx : PySem.W.Frag → Bool} {w : World} {K : PySem.W.Frag} (c : SaysB fa fn ts bx w K) (i : Nat) {t : He.Tab} {kvs : List (Str × He.Dv)}
    (h : ts[i]? = some t) (hk : t.2 = kvs.map (·.1)) (hv : He.valsB K (t.1 K) kvs = true) : KTab K w (t.1 K) (kvs.map fun q => (q.1, q.2.v K)) := by
  have e : ts.map (fun t => He.dicW K (t.1 K)) = ts.map fun t => some (He.keysIn w.params t.2) := congrArg (fun z : He.AlT => z.2) c.t
  have e2 : (ts.map fun t => He.dicW K (t.1 K))[i]? = (ts.map fun t => some (He.keysIn w.params t.2))[i]? := by rw [e]
  rw [List.getElem?_map, List.getElem?_map, h] at e2
  have e3 := Option.some.inj e2
  refine ⟨He.dicW_ok e3, fun q hq => ?_, fun z hz => ns_miss e3 ?_⟩
  · obtain ⟨p, hp, rfl⟩ := List.mem_map.mp hq
    exact He.valsB_ok hv hp
  · rw [hk]
    rw [List.map_map] at hz
    exact hz
def tabGet (kvs : List (Str × V)) (z : Str) : Option V := (kvs.find? fun q => decide (q.1 = z)).map (·.2)
section
variable {X : Cx} {a : Addr} {kvs : List (Str × V)}
theorem ktab_get {K : PySem.W.Frag} {w : World} (T : KTab K w a kvs) (z : Str) : (∃ v u, tabGet kvs z = some v ∧ PySem.W.nsIn K a z = some (some u) ∧ RelV v u) ∨ (tabGet kvs z = none ∧ PySem.W.nsIn K a z = some none) := by
  unfold tabGet
  cases e : kvs.find? fun q => decide (q.1 = z) with
  | none =>
    refine .inr ⟨rfl, T.miss z fun hz => ?_⟩
    obtain ⟨q, hq, rfl⟩ := List.mem_map.mp hz
    have := List.find?_eq_none.mp e q hq
    simp at this
  | some q =>
    have h1 : q.1 = z := by simpa using List.find?_some e
    obtain ⟨u, h2, h3⟩ := T.hit q (List.mem_of_find?_eq_some e)
    rw [h1] at h2
    exact .inl ⟨q.2, u, rfl, h2, h3⟩
/-- z in TABLE -/
theorem op_in_tab (T : KTab X.K X.w a kvs) : OpR X (compareOp .In) (fun x y H Q => ∃ z : Str, x = .str z ∧ y = .ref a ∧ Q (.bl (tabGet kvs z).isSome) H) := by
  obtain ⟨es, n, D⟩ := T.dict
  intro pins s σ H x y v u Q I rx ry h
  obtain ⟨z, rfl, rfl, q⟩ := h
  rcases ktab_get T z with ⟨v0, u0, e1, e2, _⟩ | ⟨e1, e2⟩
  · rw [e1] at q
    exact op_in_kd D pins s σ H _ _ v u Q I rx ry ⟨z, _, rfl, rfl, e2, q⟩
  · rw [e1] at q
    exact op_in_kd D pins s σ H _ _ v u Q I rx ry ⟨z, _, rfl, rfl, e2, q⟩
theorem op_notIn_tab (T : KTab X.K X.w a kvs) : OpR X (compareOp .NotIn) (fun x y H Q => ∃ z : Str, x = .str z ∧ y = .ref a ∧ Q (.bl (!(tabGet kvs z).isSome)) H) := by
  obtain ⟨es, n, D⟩ := T.dict
  intro pins s σ H x y v u Q I rx ry h
  obtain ⟨z, rfl, rfl, q⟩ := h
  rcases ktab_get T z with ⟨v0, u0, e1, e2, _⟩ | ⟨e1, e2⟩
  · rw [e1] at q
    exact op_notIn_kd D pins s σ H _ _ v u Q I rx ry ⟨z, _, rfl, rfl, e2, q⟩
  · rw [e1] at q
    exact op_notIn_kd D pins s σ H _ _ v u Q I rx ry ⟨z, _, rfl, rfl, e2, q⟩
/-- TABLE[z] -/
theorem ix_tab (T : KTab X.K X.w a kvs) : IxR X (fun x y H Q => ∃ (z : Str) (v : V), x = .ref a ∧ y = .str z ∧ tabGet kvs z = some v ∧ Q v H) := by
  intro value slice pins s σ H x y v u Q I rx ry h hs
  obtain ⟨z, v1, rfl, rfl, e, q⟩ := h
  obtain ⟨es, n, D⟩ := T.dict
  rcases ktab_get T z with ⟨v0, u0, e1, e2, e3⟩ | ⟨e1, e2⟩
  · rw [e] at e1
    cases e1
    exact ix_kdict value slice pins s σ H _ _ v u Q I rx ry ⟨a, z, v1, rfl, rfl, ⟨es, n, u0, D.at_, D.lit, e2, e3⟩, q⟩ hs
  · rw [e] at e1
    cases e1
end

/-! ### a written tuple of plain things -/
def tupB (K : PySem.W.Frag) (x : Str) (ds : List He.Dv) : Bool := match K.lookup (He.ga K x) with
  | some ⟨.type "tuple", _, .seq its _, _⟩ => He.relAll (ds.map (He.Dv.v K)) its.toList && decide (its.size ≤ 1000)
  | _ => false
theorem tupB_ok {K : PySem.W.Frag} {x : Str} {ds : List He.Dv} (h : tupB K x ds = true) (H : Hp) : SqT K H (He.ga K x) (ds.map (He.Dv.v K)) := by
  unfold tupB at h
  split at h
  · rename_i od its n sl q
    obtain ⟨h1, h2⟩ := He.ba h
    exact .inr ⟨_, its, n, q, rfl, rfl, Nat.le_trans (of_decide_eq_true h2) (by decide), He.relAll_ok h1⟩
  · cases h
end HG

set_option maxHeartbeats 4000000
/-! HX: more rules: x is True of any value, text * int, {None: .., True: .., False: ..}[x], len(set(texts)). -/
namespace HG
open PySem PySem.Spec PyProof.Rows L2
section
variable {X : Cx}
/-- x is True, x is False -/
theorem op_isTF : OpR X (compareOp .Is) (fun x y H Q => ∃ b : Bool, y = .bl b ∧ Q (.bl (decide (x = .bl b))) H) := by
  intro pins s σ H x y v u Q I rx ry h
  obtain ⟨b, rfl, q⟩ := h
  cases (show u = Value.bool b from ry)
  by_cases e : x = .bl b
  · subst e
    cases (show v = Value.bool b from rx)
    exact wpAny_is_self rfl ⟨.bl true, H, I, rfl, by simpa using q⟩
  · have q' : Q (.bl false) H := by simpa [e] using q
    cases x with
    | non => cases rx; exact wpAny_is_other rfl (fun z => nomatch z) ⟨.bl false, H, I, rfl, q'⟩
    | bl a => cases rx; exact wpAny_is_other rfl (fun z => e (congrArg V.bl (Value.bool.inj z))) ⟨.bl false, H, I, rfl, q'⟩
    | int i => obtain ⟨t, rfl⟩ := rx; exact wpAny_is_other rfl (fun z => nomatch z) ⟨.bl false, H, I, rfl, q'⟩
    | str i => obtain ⟨t, rfl⟩ := rx; exact wpAny_is_other rfl (fun z => nomatch z) ⟨.bl false, H, I, rfl, q'⟩
    | byt i => obtain ⟨t, rfl⟩ := rx; exact wpAny_is_other rfl (fun z => nomatch z) ⟨.bl false, H, I, rfl, q'⟩
    | flt i => obtain ⟨t, rfl⟩ := rx; exact wpAny_is_other rfl (fun z => nomatch z) ⟨.bl false, H, I, rfl, q'⟩
    | ref i => cases rx; exact wpAny_is_other rfl (fun z => nomatch z) ⟨.bl false, H, I, rfl, q'⟩
    | ty i => cases rx; exact wpAny_is_other rfl (fun z => nomatch z) ⟨.bl false, H, I, rfl, q'⟩
/-- text * int -/
theorem op_mul_str : OpR X (binaryOp .Mult) (fun x y H Q => ∃ (z : Str) (n : Int), x = .str z ∧ y = .int n ∧ MulOk z n ∧ Q (.str (Txt.mul z n)) H) := by
  intro pins s σ H x y v u Q I rx ry h
  obtain ⟨z, n, rfl, rfl, ok, q⟩ := h
  obtain ⟨t, rfl⟩ := rx
  obtain ⟨t', rfl⟩ := ry
  exact SB.mul ok fun t' k => ⟨.str _, H, I.tok _, ⟨_, rfl⟩, q⟩
end
theorem mulOk_of {z : Str} {n : Int} (h0 : 0 ≤ n) (h : z.length * n.toNat ≤ 1000000) (hn : n < 2 ^ 40) (hz : z.length ≤ 1000000) : MulOk z n := by
  refine ⟨?_, fun h1 _ h2 => ?_, fun h1 _ => ?_⟩
  · rw [decide_eq_false (by omega), decide_eq_false (by omega)]
    rfl
  · have h3 : (1000000 : Int) ≤ (2 ^ 63 - 1) / n := by
      refine (Int.le_ediv_iff_mul_le (by omega)).mpr ?_
      omega
    omega
  · show decide (_ > _) = false
    refine decide_eq_false ?_
    rw [show (sizeLine : Nat) = 16777216 from sizeLine_eq]
    omega

theorem call_reprK {X : Cx} {K : PySem.W.Frag} (hK : X.K = K) (hgd : X.A.guards = some []) (hr : Room 0 X.A) : CallR X (.builtin "repr") (rRepr K) := by
  subst hK
  exact call_repr hgd hr
/-! ### keywords alone -/
theorem kbn0 {K : PySem.W.Frag} {x qual : Str} {params : Arguments} {body : List Stmt} {scope : Scope} {kws : List (Str × V)} {f : Addr} {fd : FuncData} {ks ps : List Str} {g : List Value → List Value} {gV : List V → List V}
    (F : FunD K x qual params body scope [] kws f fd)
    (h : ∀ (kV doc pm : Value) (an : Option Addr) (cdv ct : Value) (ws : List Value), ws.length = ks.length → bindArgs (PySem.W.fnOf x qual params body scope .none kV doc pm an cdv ct) ⟨[], ks.zip ws⟩ = pure (ps.zip (g ws)))
    (rel : ∀ {zs : List V} {ws : List Value}, Vals zs ws → Vals (gV zs) (g ws)) : KBn K fd ps 0 ks (fun _ ws => g ws) (fun _ zs => gV zs) := by
  obtain ⟨oc, od, dV, kV, doc, pm, an, cdv, ct, osl, rfl, lk, hcd, hD, hK⟩ := F.ex
  rcases hD with ⟨_, rfl⟩ | ⟨e, _⟩
  · refine ⟨fun s us ws _ hu hw => ?_, fun _ r => rel r⟩
    obtain rfl : us = [] := List.length_eq_zero_iff.mp hu
    exact .of_eq (h kV doc pm an cdv ct ws hw)
  · exact absurd rfl e

/-! ### objects made by a class of the top -/
structure MkC (P : Program) (w : World) (K : PySem.W.Frag) (mg : Str → Option Value) (base : Heap) (x : Str) (k : Nat) (sp : Sp) : Prop where
  ex : ∃ (f : Addr) (fd : FuncData) (ps : List Str), Mk K (He.ga K x) f ∧ FnOk P w K mg base CX0 k f fd ps sp ∧ Binds K fd ps []
  gl : mg x = some (.ref (He.ga K x))
theorem pe_mk {X : Cx} {k : Nat} {x : Str} {sp : Sp} {p pos : Pos} {e : Expr} {es : List Expr} {t : TA} (C : MkC X.prog X.w X.K X.mg X.base x k sp) (hr : Room (k + 1) X.A) (hg : Gl X x) (ha : PA X (e :: es) t)
    (hdb : (x == ("__debug__" : Str)) = false := by decide)
    (he : starEach (e :: es) X.env = (false, eval e X.env) :: starEach es X.env := by rfl)
    (hpl : (backTo pos (starEach es X.env)).any (·.1) = false := by rfl) : PE X (.Call (.Name x p) (e :: es) [] pos) (tMake (He.ga X.K x) sp [] E0 t) := by
  obtain ⟨f, fd, ps, M, F, b⟩ := C.ex
  exact pe_make M F hr hg C.gl b .nil pass0 ha hdb he hpl

/-! ### None and bools as keys -/
def nbV : Option Bool → V
  | none => .non
  | some b => .bl b
def nbIs : Option Bool → Value → Bool
  | none, .none => true
  | none, _ => false
  | some k, v => PpSet.isB k v
theorem nb_none {v : Value} (h : nbIs none v = true) : v = .none := by
  cases v with
  | none => rfl
  | _ => exact nomatch (show false = true from h)
def nbU : Option Bool → Value
  | none => .none
  | some b => .bool b
theorem nb_shape {k : Option Bool} {v : Value} (h : nbIs k v = true) : v = nbU k := by
  cases k with
  | none => exact nb_none h
  | some b => exact PpSet.isB_shape h
theorem nb_of {k : Option Bool} {v : Value} (h : RelV (nbV k) v) : nbIs k v = true := by
  cases k with
  | none => cases (show v = Value.none from h); rfl
  | some b => cases (show v = Value.bool b from h); exact beq_self_eq_true b
def nbKind (prog : Program) (w : World) : PySem.KeyKind prog w (Option Bool) where
  is := nbIs
  hash := fun k => match k with
    | none => reduceHash 0xFCA86420
    | some k => PpSet.hB k
  inj := fun v a b ha hb => by
    have e1 := nb_shape ha
    have e2 := nb_shape hb
    rw [e1] at e2
    cases a with
    | none => cases b with
      | none => rfl
      | some _ => cases e2
    | some x => cases b with
      | none => cases e2
      | some y => exact congrArg some (Value.bool.inj e2)
  byValue := fun k v h => by
    rw [nb_shape h]
    cases k <;> rfl
  pyHash := @fun A E s k v Q hv h => by
    cases k with
    | none =>
      have e := nb_none hv
      subst e
      exact PySem.W.pyHash_slot (T := "NoneType") rfl PySem.F.slot_NoneType_hash PySem.F.entry_NoneType_hash (PySem.F.args_NoneType_hash_1 _) (beq_builtin_none _) (.inl rfl) (wpAny_bind (wpAny_pure (wpAny_bind (wpAny_mkInt (wpAny_pure ⟨_, _, rfl, h⟩)))))
    | some k => exact (PpSet.boolK prog w).pyHash (k := k) hv h
  eqBool := @fun A E s a b u v Q hu hv h => by
    have e1 := nb_shape hu
    have e2 := nb_shape hv
    subst e1 e2
    cases a with
    | none =>
      cases b with
      | none =>
        rw [decide_eq_true rfl] at h
        exact SeqAt.EqAt.same _ _ _ _ _ h
      | some k =>
        rw [decide_eq_false (fun z => nomatch z)] at h
        exact SeqAt.EqAt.none_bool k _ _ _ _ h
    | some k =>
      cases b with
      | none =>
        rw [decide_eq_false (fun z => nomatch z)] at h
        exact SeqAt.EqAt.bool_none k _ _ _ _ h
      | some j =>
        have e : decide ((some k : Option Bool) = some j) = (k == j) := by cases k <;> cases j <;> rfl
        rw [e] at h
        exact SeqAt.EqAt.bool_bool k j _ _ _ _ h
  «strs» := fun k x t v h => by
    cases k with
    | none => exact nomatch (show false = true from h)
    | some k => exact absurd h Bool.false_ne_true
abbrev NB (P : Program) (w : World) (a : Addr) (vs : List (Option Bool × Value)) : HO := .ext fun h => h.DictOf (nbKind P w) a vs
theorem nb_new {P : Program} {w : World} {H : Hp} {h : Heap} {a : Addr} {vs : List (Option Bool × Value)} (R : h.DictOf (nbKind P w) a vs) : ObjOk P w H h a (NB P w a vs) := by
  refine ⟨R, ?_, fun h1 h2 p k => ?_⟩
  · obtain ⟨o, _, _, ho, _⟩ := R
    exact ⟨o, ho⟩
  · obtain ⟨o, es, ep, ho, r⟩ := p
    exact ⟨o, es, ep, k o ho, r⟩
/-- {None: 'x', True: 'y', False: 'z'}[e] -/
def tNb3 (x y z : Str) (te : TE) : TE := fun σ H Q => ∀ (p : Addr) (o : HO), H p = none → te σ (upd H p o) fun v H2 => H2 p = some o ∧ ∃ k : Option Bool, v = nbV k ∧ Q (.str (match k with | none => x | some true => y | some false => z)) H2
section
variable {X : Cx}
theorem pe_nb3 {x y z : Str} {e : Expr} {te : TE} {p1 p2 p3 p4 p5 p6 p7 pos : Pos} {k4 k5 k6 k7 k8 k9 : Nat} (he : PE X e te) (hs : NoSl e) :
    PE X (.Subscript (.Dict [some (.Constant .none k4 p1), some (.Constant (.bool true) k5 p2), some (.Constant (.bool false) k6 p3)] [.Constant (.str x) k7 p4, .Constant (.str y) k8 p5, .Constant (.str z) k9 p6] p7) e pos) (tNb3 x y z te) := by
  refine ⟨fun pins s σ H Q I h => ?_⟩
  refine subD_of PySem.F.slot_dict_getitem.lookup hs ?_
  have hn := I.hok.fresh (Nat.le_refl s.heap.objs.size)
  have I1 := I.laid (a := s.heap.objs.size) (o := NB X.prog X.w s.heap.objs.size []) (h' := s.heap.push { cls := .type "dict", data := .dict #[] }) (t' := s.toks) (fun _ _ q => Heap.get?_push_of_some _ q) (Nat.le_refl _) (nb_new (Heap.DictOf.new _))
  have PP : PPs X p7 [some (.Constant .none k4 p1), some (.Constant (.bool true) k5 p2), some (.Constant (.bool false) k6 p3)] [.Constant (.str x) k7 p4, .Constant (.str y) k8 p5, .Constant (.str z) k9 p6]
      [(tC .non, tC (.str x)), (tC (.bl true), tC (.str y)), (tC (.bl false), tC (.str z))] := pps_cons pe_non pe_str (pps_cons pe_bl pe_str (pps_cons pe_bl pe_str pps_nil))
  refine wpAny_Dict_walk (knd := nbKind X.prog X.w) rfl rfl (fun z => nomatch z) (show 3 ≤ 15 by decide) ?_
  refine thn (PP.run pins _ σ _ (fun ps H2 => ps = [(.non, .str x), (.bl true, .str y), (.bl false, .str z)] ∧ H2 = upd H s.heap.objs.size (NB X.prog X.w s.heap.objs.size [])) I1 ⟨rfl, rfl⟩) ?_
  rintro ws s2 ⟨ps, H2, I2, rel, rfl, rfl⟩
  cases rel with
  | @cons _ a1 _ _ r1 rel =>
  cases rel with
  | @cons _ a2 _ _ r2 rel =>
  cases rel with
  | @cons _ a3 _ _ r3 rel =>
  cases rel
  obtain ⟨c1, d1⟩ := a1
  obtain ⟨c2, d2⟩ := a2
  obtain ⟨c3, d3⟩ := a3
  have dd := (I2.hok _ _ upd_same).1
  refine ⟨[(none, d1), (some true, d2), (some false, d3)], ⟨nb_of (k := none) r1.1, rfl, nb_of (k := some true) r2.1, rfl, nb_of (k := some false) r3.1, rfl, trivial⟩, dd, fun h' dd' hsb => ?_⟩
  have em : merged [] [((none : Option Bool), d1), (some true, d2), (some false, d3)] = [(none, d1), (some true, d2), (some false, d3)] := rfl
  rw [em] at dd'
  have he' : ∃ q, h'.get? s.heap.objs.size = some q := let ⟨q, _, _, hq, _⟩ := dd'; ⟨q, hq⟩
  have I3 := d_write (t' := s2.toks + 3) (ob := NB X.prog X.w s.heap.objs.size [(none, d1), (some true, d2), (some false, d3)]) I2 (by rw [upd_same]; exact True.intro) hsb he' (nb_new dd')
  have eu : upd (upd H s.heap.objs.size (NB X.prog X.w s.heap.objs.size [])) s.heap.objs.size (NB X.prog X.w s.heap.objs.size [(none, d1), (some true, d2), (some false, d3)]) = upd H s.heap.objs.size (NB X.prog X.w s.heap.objs.size [(none, d1), (some true, d2), (some false, d3)]) := by
    funext b
    by_cases e : b = s.heap.objs.size
    · subst e; rw [upd_same, upd_same]
    · rw [upd_ne e, upd_ne e, upd_ne e]
  rw [eu] at I3
  refine thn (he.run pins _ σ _ _ I3 (h _ _ hn)) ?_
  rintro iv s3 ⟨v, H3, I4, rv, h3, k, rfl, q⟩
  have D3 : s3.heap.DictOf (nbKind X.prog X.w) s.heap.objs.size [(none, d1), (some true, d2), (some false, d3)] := (I4.hok _ _ h3).1
  refine ⟨D3.mapOf.typeIs, ?_⟩
  cases k with
  | none => exact wpAny_getItem_of (k := none) (nb_of rv) D3.mapOf rfl ⟨.str x, H3, I4.tok _, r1.2, q⟩
  | some b =>
    cases b with
    | true => exact wpAny_getItem_of (k := some true) (nb_of rv) D3.mapOf rfl ⟨.str y, H3, I4.tok _, r2.2, q⟩
    | false => exact wpAny_getItem_of (k := some false) (nb_of rv) D3.mapOf rfl ⟨.str z, H3, I4.tok _, r3.2, q⟩
end
end HG

set_option maxHeartbeats 4000000
/-! HA: texts of signs below 128, and what repr shows of data. -/
namespace HG
open PySem PySem.Spec PyProof.Rows L2
open TL (numL tl_num numL_digits numL_ne numL_inj numL_val numL_len)
def asc (z : Str) : Prop := ∀ c ∈ cp z, c < 128
theorem asc_app {a b : Str} (ha : asc a) (hb : asc b) : asc (a ++ b) := fun c hc => by
  rw [cp_app] at hc
  exact (List.mem_append.mp hc).elim (ha c) (hb c)
theorem asc_ok {z : Str} (h : asc z) : PyData.strOk z = true := by
  unfold PyData.strOk
  rw [← Array.all_toList]
  refine List.all_eq_true.mpr fun c hc => ?_
  have := h c hc
  exact decide_eq_true (by omega)
theorem asc_repr {z : Str} (h : asc z) : asc (reprText z) := by
  have hq : reprQuote z = 39 ∨ reprQuote z = 34 := by
    unfold reprQuote
    split
    · exact .inr rfl
    · exact .inl rfl
  have sm : ∀ q, q = 39 ∨ q = 34 → ∀ c, c < 128 → ∀ d ∈ Builtin.Str.reprChar q c, d < 128 := by
    have h1 : ∀ c : Nat, c < 128 → ∀ d ∈ Builtin.Str.reprChar 39 c, d < 128 := by decide +kernel
    have h2 : ∀ c : Nat, c < 128 → ∀ d ∈ Builtin.Str.reprChar 34 c, d < 128 := by decide +kernel
    rintro q (rfl | rfl)
    · exact h1
    · exact h2
  have key : ∀ (l : List Nat) (acc : Array Nat), (∀ c ∈ l, c < 128) → (∀ d ∈ acc.toList, d < 128) → ∀ d ∈ (l.foldl (fun out c => out ++ (Builtin.Str.reprChar (reprQuote z) c).toArray) acc).toList, d < 128 := by
    intro l
    induction l with
    | nil => intro acc _ ha; exact ha
    | cons c r ih =>
      intro acc hl ha
      rw [List.foldl_cons]
      refine ih _ (fun x hx => hl x (List.mem_cons_of_mem _ hx)) fun d hd => ?_
      rw [Array.toList_append] at hd
      rcases List.mem_append.mp hd with z | z
      · exact ha d z
      · exact sm _ hq c (hl c List.mem_cons_self) d z
  intro d hd
  unfold cp reprText at hd
  rw [Array.toList_push, ← Array.foldl_toList] at hd
  have q128 : reprQuote z < 128 := by rcases hq with e | e <;> rw [e] <;> decide
  rcases List.mem_append.mp hd with y | y
  · refine key _ _ h (fun x hx => ?_) d y
    have : x = reprQuote z := by simpa using hx
    rw [this]
    exact q128
  · rw [List.mem_singleton.mp y]
    exact q128
theorem asc_join : ∀ {l : List Str}, (∀ z ∈ l, asc z) → asc (Str.join ", " l)
  | [], _ => fun c hc => nomatch hc
  | [x], h => h x List.mem_cons_self
  | x :: y :: r, h => by
    show asc (x ++ ", " ++ Str.join ", " (y :: r))
    exact asc_app (asc_app (h x List.mem_cons_self) (by unfold asc; decide +kernel)) (asc_join fun z hz => h z (List.mem_cons_of_mem _ hz))
theorem asc_from : ∀ {l : List Str} (k : Nat) (acc : Str), asc acc → (∀ z ∈ l, asc z) → asc (textFrom k acc l)
  | [], _, _, h, _ => h
  | t :: ts, k, acc, h, hl => by
    show asc (textFrom (k + 1) (acc ++ (if k > 0 then ", " else "" : String) ++ t) ts)
    refine asc_from (k + 1) _ (asc_app (asc_app h ?_) (hl t List.mem_cons_self)) fun z hz => hl z (List.mem_cons_of_mem _ hz)
    split
    · unfold asc; decide +kernel
    · unfold asc; decide +kernel
theorem asc_list {l : List Str} (h : ∀ z ∈ l, asc z) : asc (listText l) := asc_app (asc_from 0 _ (by unfold asc; decide +kernel) h) (by unfold asc; decide +kernel)
theorem asc_tuple {l : List Str} (h : ∀ z ∈ l, asc z) : asc (tupleText l) := by
  refine asc_app (asc_app (by unfold asc; decide +kernel) (asc_join h)) ?_
  split
  · unfold asc; decide +kernel
  · unfold asc; decide +kernel
theorem asc_nat (n : Nat) : asc (Str.ofString (toString ((n : Nat) : Int))) := fun c hc => by
  have e : cp (Str.ofString (toString ((n : Nat) : Int))) = numL n := tl_num n
  rw [e] at hc
  have := numL_digits n c hc
  omega
theorem asc_int (i : Int) : asc (Str.ofString (toString i)) := by
  by_cases h : i < 0
  · rw [toString_neg h]
    obtain ⟨n, hn⟩ := Int.eq_ofNat_of_zero_le (show 0 ≤ 0 - i by omega)
    rw [hn]
    have e2 : cp (Str.ofString ("-" ++ toString ((n : Nat) : Int))) = 45 :: cp (Str.ofString (toString ((n : Nat) : Int))) := by
      unfold cp
      rw [Str.ofString_eq_toList, Str.ofString_eq_toList, String.toList_append, List.map_append]
      rfl
    intro c hc
    rw [e2] at hc
    rcases List.mem_cons.mp hc with rfl | hc
    · decide
    · exact asc_nat n c hc
  · obtain ⟨n, rfl⟩ := Int.eq_ofNat_of_zero_le (Int.not_lt.mp h)
    exact asc_nat n
theorem asc_all : ∀ {ds : List PyData}, (∀ d ∈ ds, asc d.shown) → ∀ z ∈ PyData.shownAll ds, asc z
  | [], _, z, hz => by simp only [PyData.shownAll] at hz; exact nomatch hz
  | d :: ds, h, z, hz => by
    simp only [PyData.shownAll] at hz
    rcases List.mem_cons.mp hz with rfl | hz
    · exact h d List.mem_cons_self
    · exact asc_all (fun e he => h e (List.mem_cons_of_mem _ he)) z hz
end HG

set_option maxHeartbeats 4000000
/-! HE: own errors over ValueError whose __init__ says super().__init__('..') and then self.f = f, ..: made as values. -/
namespace PySem.ErrX
open PySem PySem.W PySem.Calls PyProof.Rows PySem.HandSPX

/-- super().__init__('..') -/
abbrev supS (msg : Str) (p0 p1 p2 p3 p4 p5 : Pos) (k : Nat) : Stmt := .Expr (.Call (.Attribute (.Call (.Name "super" p0) [] [] p1) "__init__" p2) [.Constant (.str msg) k p3] [] p4) p5
/-- self.f = f -/
structure SetP where
  f : Str
  q1 : Pos
  q2 : Pos
  q3 : Pos
  q4 : Pos
abbrev setS (z : SetP) : Stmt := .Assign [.Attribute (.Name "self" z.q1) z.f z.q2] (.Name z.f z.q3) z.q4

/-- what the written part says of such a class, at C, and of its __init__, at fI -/
structure ErrT (prog : Program) (K : Frag) (C fI : Addr) (q : Str) (args : Arguments) (body : List Stmt) (scope : Scope) (fs : List Str) : Prop where
  cls : ∃ nm q N bs bm sn sub ab col dd k0 k1 k2 k3 k5, K.lookup C = some (excClassObj nm q C N bs bm true sn sub ab col dd k0 k1 k2 k3 k5 "ValueError.__new__") ∧ refsVE bm = true
  exi : excInitIn K C veTail "ValueError.__new__" = true
  sa : findIn K (.ref C) "__setattr__" = some (some (.builtin "object.__setattr__"))
  sup : ks_superIn K C C "__init__" = some (some (.builtin "ValueError.__init__"))
  sve : subIn K (.ref C) (.type "ValueError") = some true
  slf : mroIn K C (.ref C) = some true
  opq : nsIn K cStatics "thirdparty.any" = some none
  init : findIn K (.ref C) "__init__" = some (some (.ref fI))
  tyI : typeIn K (.ref fI) = some (.type "function")
  no : ∀ f ∈ fs, findIn K (.ref C) f = some none
  kC : keepIn K (.ref C) = true
  fn : ∃ (oc : Value) (od : Option Addr) (osl : Array (Option Value)) (doc pm ct : Value) (an : Option Addr) (cda cc : Addr) (ccl cl : Value) (cdd cld : Option Addr) (ccs csl : Array (Option Value)) (vs : Array Value) (file : Str) (tf : Tok),
    K.lookup fI = some ⟨oc, od, .func (ksFn "__init__" q args body scope .none .none doc pm an (.ref cda) ct cc), osl⟩ ∧
    codeIn K (.ref cda) q = true ∧ K.lookup cda = some ⟨ccl, cdd, .fields vs, ccs⟩ ∧ vs[2]? = some (.str file tf) ∧ ((prog.main.file : Str) == file) = true ∧ K.lookup cc = some ⟨cl, cld, .cell (some (.ref C)), csl⟩
  shape : ∃ (msg : Str) (p0 p1 p2 p3 p4 p5 : Pos) (k : Nat) (zs : List SetP), body = supS msg p0 p1 p2 p3 p4 p5 k :: zs.map setS ∧ zs.map SetP.f = fs ∧
    ∃ pl : Sem Bool, ∀ (L a cc : Addr) (cda : Value), eval (.Call (.Attribute (.Call (.Name "super" p0) [] [] p1) "__init__" p2) [.Constant (.str msg) k p3] [] p4) (ksEnv q scope L a cda cc) = (do
      let ov ← attributeBase (.Call (.Name "super" p0) [] [] p1) "__init__" (ksEnv q scope L a cda cc) (eval (.Call (.Name "super" p0) [] [] p1) (ksEnv q scope L a cda cc))
      standAt p2.atName
      let (f, first) ← holding [ov] (getMethod ov "__init__" pl)
      callWith p4 f first (backTo p4 (starEach [.Constant (.str msg) k p3] (ksEnv q scope L a cda cc))) [])
  ar : ∃ ar : Arg, (args.posonlyargs ++ args.args).head? = some ar ∧ ar.arg = "self"
  scK : scope.kind = .function
  scC : scope.isCoroutine = false
  scG : scope.isGenerator = false
  scS : scope.names.lookup ("super" : Str) = some .globalImplicit
  scL : scope.names.lookup ("__class__" : Str) = some .free
  scN : ∀ x ∈ scope.names, x.2 ≠ .cell
  scV : ∀ x ∈ ("self" : Str) :: fs, scope.names.lookup x = some .local
  nd : ((("self" : Str) :: fs)).Nodup ∧ (∀ x ∈ fs, (x == ("__debug__" : Str)) = false) ∧ fs.length ≤ 100
  top : (prog.main.scope.names.lookup ("super" : Str)).isSome = false

/-- an error at e that has the fields done (the last one first) -/
def ErrAt (hp : Heap) (L : Addr) (h : Heap) (e C : Addr) (done : List (Str × Value)) : Prop :=
  (done = [] ∧ ∃ t1, h.get? e = some (excObj C t1 none .none)) ∨
  (done ≠ [] ∧ ∃ t1 dx, h.get? e = some (excObj C t1 (some dx) .none) ∧ h.Ns1 dx (fun y => done.lookup y) ∧ dx ≠ L ∧ dx ≠ e ∧ hp.get? dx = none)

section
variable {prog : Program} {w : World} {A : Around} {E : Value → Shared → Prop} {K : Frag} {C fI e L : Addr} {hp : Heap} {m : Str → Option Value} {g : Array GenState} {d : Drawn} {os : OsState}
theorem K_in (X : K.In hp) {h : Heap} (F : Fr hp L h m) : K.In h := X.keeps F.keep

theorem within_lookup (done : List (Str × Value)) : Within (fun y => done.lookup y) (done.map (·.1)) := by
  intro y h
  have : ∀ l : List (Str × Value), l.lookup y ≠ none → y ∈ l.map (·.1) := by
    intro l
    induction l with
    | nil => intro h; exact absurd rfl h
    | cons p l ih =>
      intro h
      obtain ⟨a, b⟩ := p
      rw [List.lookup_cons] at h
      cases e : (y == a) with
      | true => rw [beq_iff_eq.mp e]; exact List.mem_cons_self
      | false => rw [e] at h; exact List.mem_cons_of_mem _ (ih h)
  exact this done h
theorem lookup_put (done : List (Str × Value)) (f : Str) (v : Value) : (fun y => if y = f then some v else done.lookup y) = fun y => ((f, v) :: done).lookup y := by
  funext y
  rw [List.lookup_cons]
  by_cases h : y = f
  · rw [if_pos h, beq_iff_eq.mpr h]
  · rw [if_neg h, beq_eq_false_iff_ne.mpr h]
/-- self.f = v -/
theorem set_field {f : Str} {v : Value} {done : List (Str × Value)} {h : Heap} {t : Nat} {Q : Unit → Shared → Prop} (X : K.In hp) (F : Fr hp L h m)
    (cls : ∃ nm q N bs bm sn sub ab col dd k0 k1 k2 k3 k5, K.lookup C = some (excClassObj nm q C N bs bm true sn sub ab col dd k0 k1 k2 k3 k5 "ValueError.__new__") ∧ refsVE bm = true)
    (sa : findIn K (.ref C) "__setattr__" = some (some (.builtin "object.__setattr__"))) (no : findIn K (.ref C) f = some none)
    (he : hp.get? e = none) (eL : e ≠ L) (hl : done.length ≤ 900) (at_ : ErrAt hp L h e C done)
    (hq : ∀ h' tk, Fr hp L h' m → ErrAt hp L h' e C ((f, v) :: done) → Q () ⟨h', g, d, tk, os⟩) :
    wpAny (model prog w) A (setAttr (.ref e) f v) Q E ⟨h, g, d, t, os⟩ := by
  obtain ⟨nm, q, N, bs, bm, sn, sub, ab, col, dd, k0, k1, k2, k3, k5, hC, hbm⟩ := cls
  have Xh : K.In h := X.keeps F.keep
  have hcl : clsIn K C = some { name := nm, bases := bs, mro := .ref C :: bm, ns := N, qualname := q, hasDict := true, slotNames := sn, subclasses := sub, abstract := ab, collection := col, hasDel := false } := by unfold clsIn; rw [hC] <;> rfl
  obtain ⟨oL, es, ep, hL, hr⟩ := F.ns
  have lL : L < h.objs.size := Heap.lt_size hL
  have lP : hp.objs.size ≤ h.objs.size := Nat.le_trans F.above (Nat.le_of_lt lL)
  rcases at_ with ⟨rfl, t1, ho⟩ | ⟨hne, t1, dx, ho, hns, hdL, hde, hdp⟩
  · refine set_plain Xh (ox := excObj C t1 none .none) (od := none) ⟨ho, rfl, rfl, trivial⟩ sa ?_
    refine exc_osa Xh ho hcl (show refsVE (.ref C :: bm) = true from hbm) rfl no (fun h' tk' dx k dn dne hx hn => ?_)
    refine hq h' tk' ⟨⟨oL, es, ep, k _ _ eL.symm hL, hr⟩, fun b o z => k b o (fun y => by rw [y, he] at z; cases z) (F.keep b o z), F.above⟩ (.inr ⟨(fun z => nomatch z), t1, dx, hx, ?_, ?_, dne, ?_⟩)
    · rw [← lookup_put]
      exact hn
    · exact Nat.ne_of_gt (Nat.lt_of_lt_of_le lL dn)
    · cases z : hp.get? dx with
      | none => rfl
      | some o => exact absurd (Heap.lt_size z) (Nat.not_lt.mpr (Nat.le_trans lP dn))
  · have hw := within_lookup done
    obtain ⟨oD, _, _, hoD, _, _⟩ := hns.count hw
    refine set_plain Xh (ox := excObj C t1 (some dx) .none) (od := some oD) ⟨ho, rfl, rfl, hoD⟩ sa ?_
    refine OEX.osa_old Xh ho hns hw (by rw [List.length_map]; omega) hcl (show refsVE (.ref C :: bm) = true from hbm) rfl no (fun h' tk' k hn => ?_)
    refine hq h' tk' ⟨⟨oL, es, ep, k _ _ hdL.symm hL, hr⟩, fun b o z => k b o (fun y => by rw [y, hdp] at z; cases z) (F.keep b o z), F.above⟩ (.inr ⟨(fun z => nomatch z), t1, dx, k _ _ hde.symm ho, ?_, hdL, hde, hdp⟩)
    rw [← lookup_put]
    exact hn
/-- the fields, one by one -/
theorem set_fields {q : Str} {scope : Scope} {a cc : Addr} {cda : Value} (X : K.In hp)
    (cls : ∃ nm q N bs bm sn sub ab col dd k0 k1 k2 k3 k5, K.lookup C = some (excClassObj nm q C N bs bm true sn sub ab col dd k0 k1 k2 k3 k5 "ValueError.__new__") ∧ refsVE bm = true)
    (sa : findIn K (.ref C) "__setattr__" = some (some (.builtin "object.__setattr__"))) (he : hp.get? e = none) (eL : e ≠ L) (hk : scope.kind = .function)
    (hs : scope.names.lookup ("self" : Str) = some .local) (hm : m ("self" : Str) = some (.ref e)) :
    ∀ (zs : List SetP) (us : List Value) (done : List (Str × Value)) (h : Heap) (t : Nat) (Q : Flow → Shared → Prop), Fr hp L h m → ErrAt hp L h e C done → us.length = zs.length → done.length + zs.length ≤ 900 →
      (∀ z ∈ zs, findIn K (.ref C) z.f = some none) → (∀ z ∈ zs, scope.names.lookup z.f = some .local) → (∀ z ∈ zs, (z.f == ("__debug__" : Str)) = false) → (∀ p ∈ (zs.map SetP.f).zip us, m p.1 = some p.2) →
      (∀ h' tk, Fr hp L h' m → ErrAt hp L h' e C (((zs.map SetP.f).zip us).reverse ++ done) → Q .next ⟨h', g, d, tk, os⟩) →
      wpAny (model prog w) A (execs (zs.map setS) (ksEnv q scope L a cda cc)) Q E ⟨h, g, d, t, os⟩
  | [], [], done, h, t, Q, F, at_, _, _, _, _, _, _, hq => wpAny_execs_nil (hq h t F at_)
  | z :: zs, u :: us, done, h, t, Q, F, at_, hl, hn, no, nl, nd, mv, hq => by
    rw [List.map_cons]
    refine wpAny_execs_cons (plainObj_wpAny_Assign_Attribute (wpAny_Name (wpAny_loadName_local hk (nl z List.mem_cons_self) F.ns (mv (z.f, u) List.mem_cons_self) (wpAny_Name (wpAny_loadName_local hk hs F.ns hm ?_) (by decide))) (nd z List.mem_cons_self)) rfl)
    rw [List.length_cons] at hn
    refine set_field X F cls sa (no z List.mem_cons_self) he eL (by omega) at_ fun h' tk F' at' => ?_
    refine set_fields X cls sa he eL hk hs hm zs us ((z.f, u) :: done) h' tk Q F' at' (by simpa using hl) (by rw [List.length_cons]; omega) (fun y hy => no y (List.mem_cons_of_mem _ hy)) (fun y hy => nl y (List.mem_cons_of_mem _ hy)) (fun y hy => nd y (List.mem_cons_of_mem _ hy)) (fun p hp => mv p (List.mem_cons_of_mem _ hp)) fun h'' tk' F'' at'' => hq h'' tk' F'' ?_
    rw [List.map_cons, List.zip_cons_cons, List.reverse_cons, List.append_assoc]
    exact at''
  | [], _ :: _, _, _, _, _, _, _, hl, _, _, _, _, _, _ => by cases hl
  | _ :: _, [], _, _, _, _, _, _, hl, _, _, _, _, _, _ => by cases hl

theorem map_self {fs : List Str} {us : List Value} {e : Value} (hn : ((("self" : Str) :: fs)).Nodup) (hl : us.length = fs.length) :
    (fun x => (((("self" : Str), e) :: fs.zip us).reverse.lookup x)) ("self" : Str) = some e ∧ ∀ p ∈ fs.zip us, (fun x => ((("self" : Str), e) :: fs.zip us).reverse.lookup x) p.1 = some p.2 := by
  have key : ∀ (l : List (Str × Value)), (l.map (·.1)).Nodup → ∀ p ∈ l, l.reverse.lookup p.1 = some p.2 := by
    intro l
    induction l with
    | nil => intro _ p hp; cases hp
    | cons a l ih =>
      intro hd p hp
      rw [List.map_cons, List.nodup_cons] at hd
      rw [List.reverse_cons, List.lookup_append]
      rcases List.mem_cons.mp hp with rfl | hp
      · have : l.reverse.lookup p.1 = none := by
          rw [List.lookup_eq_none_iff]
          intro q hq
          rw [List.mem_reverse] at hq
          refine bne_iff_ne.mpr fun z => hd.1 ?_
          rw [z]
          exact List.mem_map.mpr ⟨q, hq, rfl⟩
        rw [this]
        obtain ⟨x, y⟩ := p
        simp [List.lookup_cons]
      · rw [ih hd.2 p hp]
        rfl
  have em : ((("self" : Str), e) :: fs.zip us).map (·.1) = ("self" : Str) :: fs := by
    rw [List.map_cons]
    congr 1
    exact List.map_fst_zip (by omega)
  have k2 := key ((("self" : Str), e) :: fs.zip us) (by rw [em]; exact hn)
  exact ⟨k2 (("self" : Str), e) List.mem_cons_self, fun p hp => k2 p (List.mem_cons_of_mem _ hp)⟩

/-- __init__ of such a class, on a fresh error at e -/
theorem err_init {R : Result → Shared → Prop} {mg mb : Str → Option Value} {q : Str} {args : Arguments} {body : List Stmt} {scope : Scope} {fs : List Str} {us : List Value} {as : Args} {h : Heap} {t : Nat} {t0 : Addr}
    (T : ErrT prog K C fI q args body scope fs) (X : K.In hp) (hroom : A.depth < recursionLimit) (hg : hp.Ns mainGlobals mg) (hms : mg "super" = none) (hb : hp.Ns builtinsNs mb) (hbb : mb "super" = some (.type "super")) (hlim : hp.NoLimit)
    (keep : ∀ b o, hp.get? b = some o → h.get? b = some o) (hsz : hp.objs.size ≤ h.objs.size) (he : hp.get? e = none) (ho : h.get? e = some (excObj C t0 none .none)) (hu : us.length = fs.length)
    (hbd : ∀ (doc pm ct : Value) (an : Option Addr) (cda cc : Addr), bindArgs (ksFn "__init__" q args body scope .none .none doc pm an (.ref cda) ct cc) as = pure ((("self" : Str), .ref e) :: fs.zip us))
    (hq : ∀ h' tk, (∀ b o, hp.get? b = some o → h'.get? b = some o) → (∃ L, h'.objs.size > L ∧ ErrAt hp L h' e C ((fs.zip us).reverse)) → R (.ok (.ret .none)) ⟨h', g, d, tk, os⟩) :
    codeAny (model prog w) A (.call (.ref fI) as) R ⟨h, g, d, t, os⟩ := by
  obtain ⟨oc, od, osl, doc, pm, ct, an, cda, cc, ccl, cl, cdd, cld, ccs, csl, vs, file, tf, hF, hcd, hcode, hvs, hfile, hcell⟩ := T.fn
  obtain ⟨msg, p0, p1, p2, p3, p4, p5, k, zs, hbody, hzs, pl, hmc⟩ := T.shape
  obtain ⟨ar, har, hara⟩ := T.ar
  have Xh : K.In h := X.keeps keep
  have hk := T.scK
  obtain ⟨hmS, hmF⟩ := map_self (e := .ref e) T.nd.1 hu
  refine ks_codeAny_call_defAt (fd := ksFn "__init__" q args body scope .none .none doc pm an (.ref cda) ct cc) hroom (Xh _ _ hF) rfl (hlim.keeps keep) (codeRec_of Xh hcd) rfl (.of_eq (hbd doc pm ct an cda cc)) T.scN (fun x hx => ?_) (fun h₀ hns hk0 => ?_) T.scC T.scG hk
  · rcases List.mem_cons.mp hx with rfl | hx
    · exact T.scV _ List.mem_cons_self
    · exact T.scV _ (List.mem_cons_of_mem _ (List.of_mem_zip hx).1)
  generalize eL : h.objs.size = L at hns ⊢
  show wpAt _ _ (.func body (ksEnv q scope L fI (.ref cda) cc)) (execs body (ksEnv q scope L fI (.ref cda) cc)) _ _ _
  have heL : e ≠ L := by rw [← eL]; exact Nat.ne_of_lt (Heap.lt_size ho)
  have F0 : Fr hp L h₀ (fun x => ((("self" : Str), Value.ref e) :: fs.zip us).reverse.lookup x) := ⟨hns, fun b o z => hk0 b o (keep b o z), by rw [← eL]; exact hsz⟩
  have N0 : News hp L h₀ [(e, excObj C t0 none .none)] := fun p hp' => by
    rw [List.mem_singleton.mp hp']
    exact ⟨hk0 _ _ ho, heL, he⟩
  have X0 : K.In h₀ := X.keeps F0.keep
  generalize (((("self" : Str), Value.ref e) :: fs.zip us).length) = n1
  rw [hbody]
  -- super().__init__('..')
  have hint : interactive (ksEnv q scope L fI (.ref cda) cc) = false := by
    unfold interactive
    simp [hk]
  refine ks_wpAt_execs_cons (ks_wpAt_Expr_any (ks_wpAt_MethodCall ?_ (hmc _ _ _ _)) hint)
  obtain ⟨nm, qn, N', bs, bm, sn, sub, ab, col, dd, k0, k1, k2, k3, k5, hC, hbm⟩ := T.cls
  refine ks_wpAt_super_base (env := ksEnv q scope L fI (.ref cda) cc) T.scS T.scL (by decide) rfl (X0 _ _ hF) rfl har rfl (X0 _ _ hcode) rfl hvs hfile T.top ?_
  refine ks_loadName_global hk T.scS (loadGlobal_builtin (env := ksEnv q scope L fI (.ref cda) cc) (hg.keeps F0.keep) hms (hb.keeps F0.keep) hbb ⟨rfl, ?_⟩)
  refine wpAny_loadName_free hk T.scL rfl ⟨_, X0 _ _ hcell, rfl⟩ ?_
  rw [hara]
  refine wpAny_loadName_local hk (T.scV _ List.mem_cons_self) F0.ns hmS ?_
  refine ks_wpAny_isType_cls (X0 _ _ hC) rfl ⟨rfl, ?_⟩
  have I0 : W.InstAt h₀ e (excObj C t0 none .none) C none := ⟨hk0 _ _ ho, rfl, rfl, trivial⟩
  refine ks_wpAny_call_super (X0 _ _ hC) rfl I0.at_ I0.cls (fun c z => nomatch z) (looks_mroIn X0 T.slf) (fun h1 e1 k1' => ?_)
  obtain ⟨F1, N1, l1⟩ := ks_newsPush (s := ⟨h₀, g, d, t, os⟩) (o := ks_superObj C e C) F0 N0 rfl e1 k1'
  have I1 : W.InstAt h1 e (excObj C t0 none .none) C none := ⟨(N1 _ (List.mem_cons_of_mem _ List.mem_cons_self)).1, rfl, rfl, trivial⟩
  refine kxs_method kxs_ValueError F1 X N1 List.mem_cons_self I1 T.opq T.sup T.sve (by decide) (fun u h2 F2 N2 l2 => ?_)
  refine kxs_callWith1 (i := "ValueError.__init__") (x := e) N2 List.mem_cons_self ?_
  refine args_cons (wpAny_Constant_str (args_nil ⟨kxs_at N2 List.mem_cons_self, ?_⟩))
  have neSo : h₀.objs.size ≠ e := Nat.ne_of_gt (l1 _ List.mem_cons_self)
  have neU : u ≠ e := Nat.ne_of_gt (l2 _ (List.mem_cons_of_mem _ List.mem_cons_self))
  refine kxs_call (C := C) (x := e) F2 X N2 PySem.F.excBase_ValueError T.exi List.mem_cons_self (.tail neU (.tail neSo (.head (fun p hp => nomatch hp)))) (by show 1 ≤ sizeLine; decide) (fun t' h3 F3 N3 l3 => ?_)
  -- the fields
  refine wpAt_of_wpAny ?_
  have at3 : ErrAt hp L h3 e C [] := .inl ⟨rfl, t', (N3 (e, excObj C t' none .none) (by simp)).1⟩
  refine set_fields X T.cls T.sa he heL hk (T.scV _ List.mem_cons_self) hmS zs us [] h3 _ _ F3 at3 (by rw [hu, ← hzs, List.length_map]) ?_ ?_ ?_ ?_ ?_ (fun h4 tk F4 at4 => ?_)
  · have := T.nd.2.2
    rw [← hzs, List.length_map] at this
    rw [List.length_nil]
    omega
  · exact fun z hz => T.no _ (by rw [← hzs]; exact List.mem_map.mpr ⟨z, hz, rfl⟩)
  · exact fun z hz => T.scV _ (List.mem_cons_of_mem _ (by rw [← hzs]; exact List.mem_map.mpr ⟨z, hz, rfl⟩))
  · exact fun z hz => T.nd.2.1 _ (by rw [← hzs]; exact List.mem_map.mpr ⟨z, hz, rfl⟩)
  · rw [hzs]
    exact hmF
  · rw [hzs, List.append_nil] at at4
    obtain ⟨oL, _, _, hL4, _⟩ := F4.ns
    exact hq h4 tk F4.keep ⟨L, Heap.lt_size hL4, at4⟩
end
end PySem.ErrX

set_option maxHeartbeats 4000000
/-! HF: own errors called with keywords. -/
namespace PySem.ErrX
open PySem PySem.W PySem.Calls PyProof.Rows PySem.HandSPX
section
variable {M : Model} {A : Around} {E : Value → Shared → Prop} {h : Heap} {g : Array GenState} {d : Drawn} {t : Nat} {os : OsState}
variable {nm q : Str} {C N : Addr} {bs bm bmB : List Value} {hdct : Bool} {sn : List Str} {sub : List Value} {ab : Bool} {col : Option Bool} {dd : Option Addr} {k0 k1 k2 k3 k5 : Option Value} {B newId initId : String}
theorem check_newK (F : ExcBaseFacts B newId initId bmB) (hT : ∀ X : String, bm.contains (.type X) = bmB.contains (.type X)) {rest : List Value} {kw : List (Str × Value)} {Q : Unit → Shared → Prop}
    (hC : h.get? C = some (excClassObj nm q C N bs bm hdct sn sub ab col dd k0 k1 k2 k3 k5 newId)) (hq : Q () ⟨h, g, d, t, os⟩) : wpAny M A (checkBuiltinCall newId ⟨.ref C :: rest, kw⟩) Q E ⟨h, g, d, t, os⟩ := by
  have hcont : (Value.ref C :: bm).contains (.type B) = true := by rw [List.contains_cons, hT, F.hasB, Bool.or_true]
  have hstar := F.noStar
  simp only [checkBuiltinCall, F.newKind, F.newSplit, F.newRow]
  repeat (first | refine wpAny_loadPart_at hC ?_ | (refine wpAny_isSubtype_exc hC ?_; rw [hcont]) | refine wpAny_staticBase_exc hC ?_ | refine wpAny_madeBy_exc hC ?_ | simp only [bne_self_eq_false, Bool.false_eq_true, if_false] | wp_step)
  exact hq
end
section
variable {prog : Program} {w : World} {A : Around} {E : Value → Shared → Prop} {R : Result → Shared → Prop} {h : Heap} {g : Array GenState} {d : Drawn} {t : Nat} {os : OsState}
variable {nm q : Str} {C N : Addr} {bs bm bmB : List Value} {hdct : Bool} {sn : List Str} {sub : List Value} {ab : Bool} {col : Option Bool} {dd : Option Addr} {k0 k1 k2 k3 k5 : Option Value} {B newId initId : String}
theorem new_ownK (F : ExcBaseFacts B newId initId bmB) (hT : ∀ X : String, bm.contains (.type X) = bmB.contains (.type X)) {rest : List Value} {kw : List (Str × Value)}
    (hC : h.get? C = some (excClassObj nm q C N bs bm hdct sn sub ab col dd k0 k1 k2 k3 k5 newId))
    (hq : R (.ok (.ret (.ref (h.objs.size + 1)))) ⟨(h.push { cls := .type "tuple", data := .seq rest.toArray }).push
      { cls := .ref C, data := .fields #[.ref h.objs.size, .none, .none, .none, .bool false, .none] }, g, d, t, os⟩) (hrest : rest.length ≤ sizeLine) :
    codeAny (model prog w) A (.builtin newId ⟨.ref C :: rest, kw⟩) R ⟨h, g, d, t, os⟩ := by
  have hends := F.ends
  have hcB : (Value.ref C :: bm).contains (.type B) = true := by rw [List.contains_cons, hT, F.hasB, Bool.or_true]
  have hcA : (Value.ref C :: bm).contains (.type "AttributeError") = false := by rw [List.contains_cons, hT, F.noAttr]; rfl
  have hcN : (Value.ref C :: bm).contains (.type "NameError") = false := by rw [List.contains_cons, hT, F.noName]; rfl
  refine codeAny_builtinAt F.entry ?_
  unfold Builtin.«BaseException.__new__»
  refine wpAt_bind ?_
  show wpAt _ _ _ (stack >>= _) _ _ _
  refine wpAt_bind (wpAt_stack fun p below => wpAt_of_wpAny ?_)
  wp_walk
  refine wpAt_of_wpAny ?_
  rw [F.owner]
  repeat (first | with_reducible refine wpAny_madeHere_exc F.canon hC ?_ | with_reducible refine wpAny_loadPart_at hC ?_ | (with_reducible refine wpAny_isSubtype_exc hC ?_; first | rw [hcB] | rw [hcA] | rw [hcN]) | wp_step)
  show R _ _
  rw [Heap.size_push]
  exact hq
theorem type_callK (F : ExcBaseFacts B newId initId bmB) (hT : ∀ X : String, bm.contains (.type X) = bmB.contains (.type X)) {rest : List Value} {kw : List (Str × Value)} {fI : Addr} {Q : Fin → Shared → Prop}
    (hC : h.get? C = some (excClassObj nm q C N bs bm hdct sn sub ab col dd k0 k1 k2 k3 k5 newId))
    (hi : W.Looks (model prog w) h (typeLookup (.ref C) "__init__") (some (.ref fI))) (hb : ∀ self, W.Looks (model prog w) h (bindSpecial (.ref fI) self) (.ref fI, [self])) (hrest : rest.length ≤ sizeLine)
    (hq : codeAny (model prog w) A (.call (.ref fI) ⟨.ref (h.objs.size + 1) :: rest, kw⟩)
      (fun r s' => match r with | .ok (.ret v) => v = .none ∧ Q (.done (.ret (.ref (h.objs.size + 1)))) s' | .ok _ => False | .error e => E e s')
      ⟨(h.push (W.kdv_tup rest)).push (excO C h.objs.size), g, d, t, os⟩) :
    wpAny (model prog w) A (Builtin.«type.__call__» ⟨.ref C :: rest, kw⟩) Q E ⟨h, g, d, t, os⟩ := by
  repeat (first | with_reducible refine wpAny_loadPart_at hC ?_ | with_reducible refine wpAny_madeBy_exc hC ?_ | wp_step)
  refine codeAny_call_builtin_code (Code.quiet_builtin _ F.quiet) (check_newK F hT hC ?_)
  refine new_ownK F hT hC ?_ hrest
  show wpAny _ _ _ _ _ _
  have k : ∀ b o, h.get? b = some o → ((h.push (W.kdv_tup rest)).push (excO C h.objs.size)).get? b = some o := fun b o e => Heap.get?_push_of_some _ (Heap.get?_push_of_some _ e)
  have hC₁ := k _ _ hC
  have hget : ((h.push (W.kdv_tup rest)).push (excO C h.objs.size)).get? (h.objs.size + 1) = some (excO C h.objs.size) := by heap_get
  have hcC : (Value.ref C :: bm).contains (.ref C) = true := by simp
  have i1 := hi.keeps k
  have b1 := (hb (.ref (h.objs.size + 1))).keeps k
  unfold isInstance
  repeat (first | with_reducible refine wpAny_loadPart_at hget ?_ | (with_reducible refine wpAny_isSubtype_exc hC₁ ?_; rw [hcC]) | wp_step)
  show wpAny _ _ (typeLookup (.ref C) _) _ _ _
  refine i1.at ?_
  refine wpAny_holding (wpAny_bind (b1.at ?_))
  refine wpAny_bind (wpAny_call (codeAny_mono hq fun r s' z => ?_))
  rcases r with e | (v | _ | _ | _) <;> first | exact z | exact z.elim | skip
  obtain ⟨rfl, z⟩ := z
  first
    | exact wpAny_pure (wpAny_pure z)
    | (wp_walk; exact z)
theorem call_ownK (F : ExcBaseFacts B newId initId bmB) (hT : ∀ X : String, bm.contains (.type X) = bmB.contains (.type X)) {rest : List Value} {kw : List (Str × Value)} {fI : Addr}
    (hC : h.get? C = some (excClassObj nm q C N bs bm hdct sn sub ab col dd k0 k1 k2 k3 k5 newId))
    (hi : W.Looks (model prog w) h (typeLookup (.ref C) "__init__") (some (.ref fI))) (hb : ∀ self, W.Looks (model prog w) h (bindSpecial (.ref fI) self) (.ref fI, [self])) (hrest : rest.length ≤ sizeLine)
    (hq : codeAny (model prog w) (A.under (.builtin "type.__call__" ⟨.ref C :: rest, kw⟩)) (.call (.ref fI) ⟨.ref (h.objs.size + 1) :: rest, kw⟩) (W.InitBack (h.objs.size + 1) R)
      ⟨(h.push (W.kdv_tup rest)).push (excO C h.objs.size), g, d, t, os⟩) :
    codeAny (model prog w) A (.call (.ref C) ⟨rest, kw⟩) R ⟨h, g, d, t, os⟩ := by
  have f1 := tc_lookup
  have f2 := tc_bind (.ref C)
  have hTy : (⟨h, g, d, t, os⟩ : Shared).TypeIs (.ref C) "type" := ⟨_, hC, rfl⟩
  refine codeAny_of_tree ?_
  show wpAny _ _ (callAny (.ref C) _) _ _ _
  repeat (any_goals (first | assumption | with_reducible refine wpAny_loadPart_at hC ?_ | wp_step))
  refine ⟨rfl, ?_⟩
  refine codeAny_call_builtin_at (Code.quiet_builtin _ (by decide +kernel)) entry_typeCall (wpAny_check_type_call_sub hC (type_callK F hT hC hi hb hrest ?_))
  refine codeAny_mono hq fun r s' z => ?_
  unfold W.InitBack at z
  rcases r with e | (v | _ | _ | _) <;> exact z
/-- such an error made -/
theorem err_make {mg mb : Str → Option Value} {K : Frag} {fI : Addr} {qn : Str} {args : Arguments} {body : List Stmt} {scope : Scope} {fs : List Str} {us : List Value} {pos : List Value} {kw : List (Str × Value)} {Q : Value → Shared → Prop}
    (T : ErrT prog K C fI qn args body scope fs) (X : K.In h) (hr : L2.Room 1 A) (hg : h.Ns mainGlobals mg) (hms : mg "super" = none) (hb : h.Ns builtinsNs mb) (hbb : mb "super" = some (.type "super")) (hlim : h.NoLimit) (hu : us.length = fs.length) (hz : pos.length ≤ sizeLine)
    (hbd : ∀ (e : Value) (doc pm ct : Value) (an : Option Addr) (cda cc : Addr), bindArgs (ksFn "__init__" qn args body scope .none .none doc pm an (.ref cda) ct cc) ⟨e :: pos, kw⟩ = pure ((("self" : Str), e) :: fs.zip us))
    (hq : ∀ h' tk, (∀ b o, h.get? b = some o → h'.get? b = some o) → (∃ L, h'.objs.size > L ∧ ErrAt h L h' (h.objs.size + 1) C ((fs.zip us).reverse)) → Q (.ref (h.objs.size + 1)) ⟨h', g, d, tk, os⟩) :
    wpAny (model prog w) A (call (.ref C) pos kw) Q E ⟨h, g, d, t, os⟩ := by
  obtain ⟨nm, q, N, bs, bm, sn, sub, ab, col, dd, k0, k1, k2, k3, k5, hC, hbm⟩ := T.cls
  refine wpAny_call (call_ownK PySem.F.excBase_ValueError (fun Y => refsVE_contains Y bm hbm) (X _ _ hC) (looks_findIn X T.init) (fun self => bind_fn X self T.tyI) hz ?_)
  have kk : ∀ b o, h.get? b = some o → ((h.push (W.kdv_tup pos)).push (excO C h.objs.size)).get? b = some o := fun b o e => Heap.get?_push_of_some _ (Heap.get?_push_of_some _ e)
  have hget : ((h.push (W.kdv_tup pos)).push (excO C h.objs.size)).get? (h.objs.size + 1) = some (excO C h.objs.size) := by heap_get
  refine err_init (t0 := h.objs.size) T X (hr.make C pos kw).depth hg hms hb hbb hlim kk (by rw [Heap.size_push, Heap.size_push]; omega) ?_ hget hu (hbd _) (fun h' tk k at_ => ?_)
  · cases z : h.get? (h.objs.size + 1) with
    | none => rfl
    | some o => exact absurd (Heap.lt_size z) (Nat.not_lt.mpr (Nat.le_succ _))
  · exact ⟨rfl, hq h' tk k at_⟩
end
end PySem.ErrX

set_option maxHeartbeats 4000000
/-! HQ: own errors as values in the hand layer: making, isinstance, fields. -/
namespace PySem.ErrX
open PySem PySem.W PySem.Calls PyProof.Rows PySem.HandSPX
section
variable {prog : Program} {w : World} {A : Around} {E : Value → Shared → Prop} {s : Shared} {K : Frag} {x D : Addr} {ox : Obj} {od : Option Obj}
theorem findObj_dataO {C : Addr} {name : Str} {a g : Value} (hc : (clsIn K C).isSome = true) (ha : findIn K (.ref C) name = some (some a)) (hg : specialIn K a "__get__" = some (some g)) (ht : takesIn K a = some true) : findObj K C od name = some (.bind g a) := by
  obtain ⟨cd, hc⟩ := Option.isSome_iff_exists.mp hc
  unfold findObj
  rw [hc, Option.bind_some, ha, Option.bind_some]
  simp [hg, ht]
/-- x.__class__ of an error -/
theorem class_of_err {Q : Option Value → Shared → Prop} (T : L2.ExcC K D) (X : K.In s.heap) (I : InstAt s.heap x ox D od) (h : Q (some (.ref D)) { s with toks := s.toks + 1 }) : wpAny (model prog w) A (getAttr? (.ref x) "__class__") Q E s := by
  have hf : findObj K D od "__class__" = some (.bind (.builtin "getset_descriptor.__get__") (.builtin "object.__class__")) := findObj_dataO (by obtain ⟨cd, hc, _⟩ := any_some T.hd; rw [hc]; rfl) T.ha T.hn T.ht
  obtain ⟨hp, g, d, t, os⟩ := s
  have L0 := I.type (M := model prog w)
  have L1 := looks_findIn (M := model prog w) X T.hg
  have L2 := looks_findIn (M := model prog w) X T.hk
  have L3 := looks_find (M := model prog w) X I hf
  have sub : Looks (model prog w) hp (isInstance (.ref x) (.type "BaseException")) true := L0.andThen (looks_subIn X T.hs)
  have hx0 : (false && onTheHeap (Value.builtin "BaseException.__getattribute__")) = false := rfl
  have hx2 : (Value.builtin "BaseException.__getattribute__" == Value.builtin "object.__getattribute__") = false := by decide +kernel
  have hx1 : (onTheHeap (Value.ref D) && Value.builtin "BaseException.__getattribute__" == Value.builtin "object.__getattribute__") = false := by rw [hx2]; rfl
  unfold getAttr? getAttrBy? getAttrBy
  refine wpAny_bind (wpAny_mkText (wpAny_bind (wpAny_attempt (wpAny_holding (wpAny_bind (L0.at (wpAny_bind (L1.at ?_))))))))
  show wpAny _ _ (if (onTheHeap (Value.ref D) && Value.builtin "BaseException.__getattribute__" == Value.builtin "object.__getattribute__") = true then _ else _) _ _ _
  rw [hx1, if_neg Bool.false_ne_true]
  unfold getAttrByItsOwn hookBefore
  refine wpAny_bind ?_
  rw [if_pos (show onTheHeap (Value.ref D) = true from rfl)]
  refine L2.at ?_
  refine wpAny_bind (wpAny_attempt (wpAny_holding ?_))
  unfold callGetattribute
  rw [hx0, if_neg Bool.false_ne_true]
  unfold boundAndCalled
  rw [PySem.F.excAttr_ValueError.ga.bind (.ref x)]
  refine wpAny_bind (wpAny_pure ?_)
  show wpAny _ _ (call (.builtin "BaseException.__getattribute__") [.ref x, .str "__class__" t]) _ _ _
  refine wpAny_call (codeAny_call_builtin PySem.F.excAttr_ValueError.ga.plain PySem.F.entry_bexc_ga ?_)
  refine @check_slot (model prog w) _ _ ⟨hp, g, d, t + 1, os⟩ "BaseException.__getattribute__" "BaseException" "__getattribute__" (.ref x) [.str "__class__" t] [] _ (by decide +kernel) (by decide +kernel) sub (PySem.F.args_bexc_ga (.ref x) (.str "__class__" t)) ?_
  unfold Builtin.«object.__getattribute__»
  refine wpAny_bind (wpAny_of_eq (a := ((Value.ref x : Value), [Value.str "__class__" t])) (by first | rfl | (simp only [slotArgs]; rfl)) ?_)
  refine wpAny_bind (wpAny_pure (wpAny_bind (L0.at (wpAny_bind (L3.at ?_)))))
  show wpAny _ _ (holding [Value.builtin "object.__class__"] (call (.builtin "getset_descriptor.__get__") [.builtin "object.__class__", .ref x, .ref D]) >>= ret) _ _ _
  refine wpAny_bind (wpAny_holding (wpAny_call (class_get (s := ⟨hp, g, d, t + 1, os⟩) (ox := ox) (od := od) X I T.hm ?_)))
  refine wpAny_pure ?_
  show wpAny _ _ (handedOut (.ref D)) _ _ _
  rw [handedOut_of (v := .ref D) rfl]
  first
    | exact wpAny_pure (wpAny_pure h)
    | exact wpAny_pure h
    | exact wpAny_pure (wpAny_bind (wpAny_pure (wpAny_pure h)))
theorem kitx_err (T : L2.ExcC K D) : KitX K (.ref x) (.ref D) (fun h => ∃ ox od, InstAt h x ox D od) where
  ty := fun _ _ _ ⟨_, _, I⟩ => I.type
  it := fun _ _ X _ => by
    obtain ⟨cdD, hcD, _⟩ := any_some T.hd
    unfold clsIn at hcD
    split at hcD
    · rename_i c' d' cd' sl' ho
      intro A' Q' E' s' k q
      unfold isType loadHead
      exact wpAny_bind (wpAny_loadPart (k _ _ (X _ _ ho)) (wpAny_pure q))
    · cases hcD
  ne := fun h tp dd its n sl X htp => by
    obtain ⟨cdD, hcD, _⟩ := any_some T.hd
    refine Bool.eq_false_iff.mpr fun q => ?_
    have e : D = tp := Value.ref.inj (beq_iff_eq.mp q)
    subst e
    unfold clsIn at hcD
    split at hcD
    · rename_i c' d' cd' sl' ho
      have z := (X _ _ ho).symm.trans htp
      cases z
    · cases hcD
  ca := fun X ⟨_, _, I⟩ k => class_of_err T X I k
end
end PySem.ErrX

namespace HG
open PySem PySem.Spec PyProof.Rows L2 PySem.ErrX
/-- an error at a with its dict at dx; l: the fields, the last one first -/
def errH (H : Hp) (a dx C : Addr) : List (Str × V) → Hp
  | [] => upd H a (exo a C none)
  | p :: l => upd (upd H dx (exd dx (p :: l))) a (exo a C (some dx))
/-- isinstance(e, c), e such an error -/
def rIsErr (K : PySem.W.Frag) : List V → Hp → VK → Prop := fun xs H Q => ∃ (a D : Addr) (dx : Option Addr) (c : V) (u : Value) (b : Bool), xs = [.ref a, c] ∧ ClsV c u ∧ H a = some (exo a D dx) ∧ (∀ d, dx = some d → ∃ fs, H d = some (exd d fs)) ∧ ExcC K D ∧ PySem.W.kitOne K (.ref D) u = some b ∧ Q (.bl b) H
section
variable {X : Cx}
theorem call_isErr : CallR X (.builtin "isinstance") (rIsErr X.K) := by
  intro pins s σ H xs us Q I r h
  obtain ⟨a, D, dx, c, u, b, rfl, k, ha, hd, T, e, q⟩ := h
  obtain ⟨u1, u2, rfl, r1, r2⟩ := vals2 r
  cases (show u1 = Value.ref a from r1)
  have e2 := k.eq r2
  subst e2
  obtain ⟨t1, ho⟩ := exo_at I.hok ha
  have J : ∃ ox od, PySem.W.InstAt s.heap a ox D od := by
    cases dx with
    | none => exact ⟨_, none, ho, rfl, rfl, trivial⟩
    | some d =>
      obtain ⟨fs, hd⟩ := hd d rfl
      obtain ⟨mA, hns, _⟩ := exd_at I.hok hd
      obtain ⟨o, _, _, hod, _⟩ := hns
      exact ⟨_, some o, ho, rfl, rfl, hod⟩
  exact PySem.W.kia_one (kitx_err T) I.kIn J e (fun z => nomatch z) fun tk => ⟨.bl b, H, I.tok tk, rfl, q⟩
/-- e.f -/
def tErrF (K : PySem.W.Frag) (f : Str) (te : TE) : TE := fun σ H Q => te σ H fun x H1 => ∃ (a C dx : Addr) (fs : List (Str × V)) (v : V), x = .ref a ∧ H1 a = some (exo a C (some dx)) ∧ H1 dx = some (exd dx fs) ∧ XfC K C ∧ PySem.W.findIn K (.ref C) f = some none ∧ fs.lookup f = some v ∧ Q v H1
theorem pe_errF {e : Expr} {te : TE} {pos : Pos} {n : Str} (he : PE X e te) (hb : attributeBase e n X.env (eval e X.env) = eval e X.env := by rfl) : PE X (.Attribute e n pos) (tErrF X.K n te) := by
  refine ⟨fun pins s σ H Q I h => ?_⟩
  refine attr_of hb (thn (he.run pins s σ H _ I h) fun u s1 hh => ?_)
  obtain ⟨x, H1, I1, rx, a, C, dx, fs, v, ex, ea, ed, T, hno, l, q⟩ := hh
  subst ex
  obtain rfl : u = Value.ref a := rx
  obtain ⟨t1, ho⟩ := exo_at I1.hok ea
  obtain ⟨mA, hns, hr⟩ := exd_at I1.hok ed
  obtain ⟨od, hod, hl⟩ := lookIn_ns hns
  obtain ⟨u, hu, ru⟩ := RelO.some_of (v := v) (o := mA n) (by rw [← l]; exact hr n)
  have J : PySem.W.InstAt s1.heap a _ C (some od) := ⟨ho, rfl, rfl, hod⟩
  exact HandSPX.exc_get I1.kIn J T.ga T.gg T.exC (PySem.W.findObj_own T.hdC hno rfl (by rw [hl, hu])) (handed_of ru) ⟨v, H1, I1.tok _, ru, q⟩
end
end HG

set_option maxHeartbeats 4000000
/-! HR: own errors made as values: C(), C(x, ..), C(f = x, ..). -/
namespace HG
open PySem PySem.Spec PyProof.Rows L2 PySem.ErrX
theorem relO_fields : ∀ {l : List (Str × V)} {l' : List (Str × Value)}, Paired (fun (p : Str × V) (q : Str × Value) => p.1 = q.1 ∧ RelV p.2 q.2) l l' → ∀ f, RelO (l.lookup f) (l'.lookup f)
  | [], _, .nil, f => True.intro
  | p :: l, q :: l', .cons h t, f => by
    obtain ⟨a, x⟩ := p
    obtain ⟨b, y⟩ := q
    obtain ⟨h1, h2⟩ := h
    have e : a = b := h1
    subst e
    rw [List.lookup_cons, List.lookup_cons]
    cases (f == a) with
    | true => exact h2
    | false => exact relO_fields t f
theorem zip_fields : ∀ {fs : List Str} {vs : List V} {us : List Value}, Vals vs us → Paired (fun (p : Str × V) (q : Str × Value) => p.1 = q.1 ∧ RelV p.2 q.2) (fs.zip vs) (fs.zip us)
  | [], _, _, _ => by simp; exact .nil
  | f :: fs, _, _, .nil => by simp; exact .nil
  | f :: fs, _, _, .cons h t => .cons ⟨rfl, h⟩ (zip_fields t)
theorem paired_app {α β : Type} {R : α → β → Prop} : ∀ {a : List α} {b : List β} {c : List α} {d : List β}, Paired R a b → Paired R c d → Paired R (a ++ c) (b ++ d)
  | _, _, _, _, .nil, h => h
  | _, _, _, _, .cons x y, h => .cons x (paired_app y h)
theorem paired_rev {α β : Type} {R : α → β → Prop} : ∀ {a : List α} {b : List β}, Paired R a b → Paired R a.reverse b.reverse
  | _, _, .nil => .nil
  | _, _, .cons x y => by
    rw [List.reverse_cons, List.reverse_cons]
    exact paired_app (paired_rev y) (.cons x .nil)
section
variable {X : Cx} {C fI : Addr} {q : Str} {args : Arguments} {body : List Stmt} {scope : Scope} {fs : List Str}
theorem err_run {pins : List (Addr × Obj)} {σ : L2.St} {H1 : Hp} {s1 : Shared} {us : List Value} {vs : List V} {pos : List Value} {kw : List (Str × Value)} {Q : VK}
    (T : ErrT X.prog X.K C fI q args body scope fs) (hr : Room 1 X.A) (hms : X.mg "super" = none) (I1 : Inv X pins σ H1 s1) (r1 : Vals vs us) (hl : vs.length = fs.length) (hz : pos.length ≤ sizeLine)
    (hbd : ∀ (e : Value) (doc pm ct : Value) (an : Option Addr) (cda cc : Addr), bindArgs (PySem.W.ksFn "__init__" q args body scope .none .none doc pm an (.ref cda) ct cc) ⟨e :: pos, kw⟩ = pure ((("self" : Str), e) :: fs.zip us))
    (hq : ∀ a dx, H1 a = none → H1 dx = none → dx ≠ a → Q (.ref a) (errH H1 a dx C (fs.zip vs).reverse)) :
    wpAny (model X.prog X.w) X.A (call (.ref C) pos kw) (EP X pins σ Q) X.xe s1 := by
  have e0 := I1.env0
  obtain ⟨mb, hmb, hbb⟩ := e0.mod.blt
  have bk : ∀ b o, X.base.get? b = some o → s1.heap.get? b = some o := fun b o e => (e0.bs b o e).1
  obtain ⟨hp, g, dr, tk, os⟩ := s1
  refine err_make (g := g) (d := dr) (os := os) T I1.kIn hr (e0.mod.glob.keeps bk) hms (hmb.keeps bk) ((hbb _ (by decide)).trans PyProof.Rows.Boot.«super») (e0.mod.nolimit.keeps bk) (us := us) (by rw [← r1.length]; exact hl) hz hbd (fun h' tk' k hat => ?_)
  obtain ⟨L, _, at_⟩ := hat
  have ng : hp.get? (hp.objs.size + 1) = none := by
    cases z : hp.get? (hp.objs.size + 1) with
    | none => rfl
    | some o => exact absurd (Heap.lt_size z) (Nat.not_lt.mpr (Nat.le_succ _))
  have hn : H1 (hp.objs.size + 1) = none := I1.hok.gone ng
  have hrel := relO_fields (paired_rev (zip_fields (fs := fs) r1))
  rcases at_ with ⟨hnil, t1, ho⟩ | ⟨hne, t1, dx, ho, hns, _, hde, hdp⟩
  · have hv : (fs.zip vs).reverse = [] := by
      have e1 := congrArg List.length hnil
      rw [List.length_reverse, List.length_zip, ← r1.length, ← List.length_zip, List.length_nil] at e1
      rw [List.length_eq_zero_iff.mp e1]
      rfl
    have qq := hq (hp.objs.size + 1) (hp.objs.size + 2) hn (I1.hok.fresh (Nat.le_add_right _ 2)) (Nat.ne_of_gt (Nat.lt_succ_self _))
    rw [hv] at qq
    exact ⟨.ref _, _, I1.laidN (t' := tk') (o := exo (hp.objs.size + 1) C none) k ng hn (exo_ok ho), rfl, qq⟩
  · obtain ⟨G, g1, g2⟩ := restrict h' fun b => decide (b ≠ hp.objs.size + 1)
    have gk : ∀ b, b ≠ hp.objs.size + 1 → G.get? b = h'.get? b := fun b hb => g1 b (decide_eq_true hb)
    have ge : G.get? (hp.objs.size + 1) = none := g2 _ (by simp)
    have hnd : H1 dx = none := I1.hok.gone hdp
    have kG : ∀ b u, hp.get? b = some u → G.get? b = some u := fun b u z => by
      rw [gk b (fun y => by rw [y, ng] at z; cases z)]
      exact k b u z
    have kG2 : ∀ b u, G.get? b = some u → h'.get? b = some u := fun b u z => by
      by_cases hb : b = hp.objs.size + 1
      · rw [hb, ge] at z; cases z
      · rw [← gk b hb]; exact z
    have hnsG : G.Ns1 dx (fun y => (fs.zip us).reverse.lookup y) := hns.at fun o z => by rw [gk dx hde]; exact z
    have I2 := I1.laidN (t' := tk') (a := dx) (o := exd dx (fs.zip vs).reverse) kG hdp hnd (exd_ok hnsG hrel)
    have hn2 : (upd H1 dx (exd dx (fs.zip vs).reverse)) (hp.objs.size + 1) = none := by rw [upd_ne hde.symm]; exact hn
    have I3 := I2.laidN (t' := tk') (a := hp.objs.size + 1) (o := exo (hp.objs.size + 1) C (some dx)) (h' := h') kG2 ge hn2 (exo_ok ho)
    have qq := hq (hp.objs.size + 1) dx hn hnd hde
    refine ⟨.ref _, _, I3, rfl, ?_⟩
    cases e : (fs.zip vs).reverse with
    | nil =>
      exfalso
      apply hne
      have e1 := congrArg List.length e
      rw [List.length_reverse, List.length_zip, r1.length, ← List.length_zip, List.length_nil] at e1
      rw [List.length_eq_zero_iff.mp e1]
      rfl
    | cons p l =>
      rw [e] at qq
      exact qq
/-- an own error's class of the top -/
structure ErrC (P : Program) (K : PySem.W.Frag) (mg : Str → Option Value) (x : Str) (q : Str) (args : Arguments) (body : List Stmt) (scope : Scope) (fs : List Str) : Prop where
  t : ∃ fI, ErrT P K (He.ga K x) fI q args body scope fs
  gl : mg x = some (.ref (He.ga K x))
  sp : mg "super" = none
def tErr (C : Addr) (fs : List Str) (gV : List V → List V) (ta : TA) : TE := fun σ H Q => ta σ H fun vs H1 => (gV vs).length = fs.length ∧ vs.length ≤ 1000 ∧ ∀ a dx, H1 a = none → H1 dx = none → dx ≠ a → Q (.ref a) (errH H1 a dx C (fs.zip (gV vs)).reverse)
variable {x : Str} {p pos : Pos} {e : Expr} {es : List Expr} {t : TA} {kws : List Keyword}
theorem pe_err (E : ErrC X.prog X.K X.mg x q args body scope fs) (hr : Room 1 X.A) (hg : Gl X x) (ha : PA X (e :: es) t)
    (hb : ∀ (e : Value) (doc pm ct : Value) (an : Option Addr) (cda cc : Addr) (us : List Value), us.length = fs.length → bindArgs (PySem.W.ksFn "__init__" q args body scope .none .none doc pm an (.ref cda) ct cc) ⟨e :: us, []⟩ = pure ((("self" : Str), e) :: fs.zip us))
    (hdb : (x == ("__debug__" : Str)) = false := by decide) (he : starEach (e :: es) X.env = (false, eval e X.env) :: starEach es X.env := by rfl) (hpl : (backTo pos (starEach es X.env)).any (·.1) = false := by rfl) :
    PE X (.Call (.Name x p) (e :: es) [] pos) (tErr (He.ga X.K x) fs id t) := by
  obtain ⟨fI, T⟩ := E.t
  refine ⟨fun pins s σ H Q I h => ?_⟩
  refine wpAny_Call_Name_kw (ld_glob I hg E.gl ?_ hdb)
  refine PySem.W.callWith_K (h₀ := X.base) I.ok.mod.kin T.kC (thn (ha.run pos pins s σ H _ I h) fun us s1 ⟨vs, H1, I1, r1, hl, hz, q1⟩ => ⟨I1.kIn, ?_⟩) he hpl
  have hl' : us.length = fs.length := by rw [← r1.length]; exact hl
  exact err_run (vs := vs) T hr E.sp I1 r1 hl (show us.length ≤ sizeLine by rw [← r1.length]; exact Nat.le_trans hz (by decide)) (fun e doc pm ct an cda cc => hb e doc pm ct an cda cc us hl') q1
theorem pe_err0 (E : ErrC X.prog X.K X.mg x q args body scope []) (hr : Room 1 X.A) (hg : Gl X x)
    (hb : ∀ (e : Value) (doc pm ct : Value) (an : Option Addr) (cda cc : Addr), bindArgs (PySem.W.ksFn "__init__" q args body scope .none .none doc pm an (.ref cda) ct cc) ⟨[e], []⟩ = pure [(("self" : Str), e)])
    (hdb : (x == ("__debug__" : Str)) = false := by decide) :
    PE X (.Call (.Name x p) [] [] pos) (tErr (He.ga X.K x) [] id tNil) := by
  obtain ⟨fI, T⟩ := E.t
  refine ⟨fun pins s σ H Q I h => ?_⟩
  refine wpAny_Call_Name_kw (ld_glob I hg E.gl ?_ hdb)
  refine PySem.W.callWith_K0 I.kIn T.kC ?_
  obtain ⟨_, _, q1⟩ := h
  exact err_run (vs := []) T hr E.sp I .nil rfl (Nat.zero_le _) (fun e doc pm ct an cda cc => hb e doc pm ct an cda cc) q1
theorem pe_errK {ks : List Str} {g : List Value → List Value} {gV : List V → List V} (E : ErrC X.prog X.K X.mg x q args body scope fs) (hr : Room 1 X.A) (hg : Gl X x) (hkw : PK X kws t) (rel : ∀ {zs : List V} {ws : List Value}, Vals zs ws → Vals (gV zs) (g ws))
    (hb : ∀ (e : Value) (doc pm ct : Value) (an : Option Addr) (cda cc : Addr) (us : List Value), us.length = ks.length → bindArgs (PySem.W.ksFn "__init__" q args body scope .none .none doc pm an (.ref cda) ct cc) ⟨[e], ks.zip us⟩ = pure ((("self" : Str), e) :: fs.zip (g us)))
    (hkl : ∀ vs : List V, (gV vs).length = fs.length → vs.length = ks.length)
    (hall : (backToKw pos (keywordEach kws X.env)).all (·.1.isSome) = true := by rfl)
    (hks : (backToKw pos (keywordEach kws X.env)).filterMap (·.1) = ks := by rfl)
    (hdb : (x == ("__debug__" : Str)) = false := by decide)
    (hpl : ((backTo pos (starEach [] X.env)).any (·.1) || (backToKw pos (keywordEach kws X.env)).any (·.1.isNone)) = false := by rfl) :
    PE X (.Call (.Name x p) [] kws pos) (tErr (He.ga X.K x) fs gV t) := by
  obtain ⟨fI, T⟩ := E.t
  refine ⟨fun pins s σ H Q I h => ?_⟩
  refine wpAny_Call_Name_kw (ld_glob I hg E.gl ?_ hdb)
  refine PySem.W.callWith_KW0 (h₀ := X.base) I.ok.mod.kin T.kC hall (thn (hkw.run pos pins s σ H _ I h) ?_) hpl
  rintro ws s2 ⟨zs, H2, I2, rz, l2, hz, q2⟩
  rw [hks]
  refine ⟨I2.kIn, ?_⟩
  exact err_run (vs := gV zs) (us := g ws) T hr E.sp I2 (rel rz) l2 (Nat.zero_le _) (fun e doc pm ct an cda cc => hb e doc pm ct an cda cc ws (by rw [← rz.length]; exact hkl zs l2)) q2
end
end HG

set_option maxHeartbeats 4000000
/-! HS: a head's facts with own errors. -/
namespace HG
open PySem PySem.Spec PyProof.Rows L2 PySem.ErrX
abbrev ErrD : Type := Option (Str × Arguments × List Stmt × Scope)
def cellB (K : PySem.W.Frag) (cc C : Addr) : Bool := match K.lookup cc with
  | some ⟨_, _, .cell (some (.ref D)), _⟩ => D == C
  | _ => false
def fileB (K : PySem.W.Frag) (cda : Addr) (file : Str) : Bool := match K.lookup cda with
  | some ⟨_, _, .fields vs, _⟩ => (match (vs[2]? : Option Value) with | some (Value.str f _) => f == file | _ => false)
  | _ => false
/-- __init__ of the class x, as it is written -/
def errD (file : Str) (K : PySem.W.Frag) (x : Str) : ErrD := match PySem.W.findIn K (.ref (He.ga K x)) "__init__" with
  | some (some (.ref f)) => (match K.lookup f with
    | some ⟨_, _, .func ⟨n, q, a, .stmts b, sc, gl, [(c, cc)], .none, .none, _, _, _, .ref cda, _, bl⟩, _⟩ =>
      if (n == ("__init__" : Str) && (c == ("__class__" : Str) && (gl == mainGlobals && (bl == builtinsNs && (PySem.W.codeIn K (.ref cda) q && (cellB K cc (He.ga K x) && (fileB K cda file && decide (PySem.W.typeIn K (.ref f) = some (.type "function"))))))))) = true then some (q, a, b, sc) else none
    | _ => none)
  | _ => none
def clsEB (K : PySem.W.Frag) (C : Addr) : Bool := match K.lookup C with
  | some ⟨.type t, _, .cls cd, sl⟩ => (match cd.mro, sl.toList with
    | .ref C' :: bm, [_, _, _, _, some (.builtin n), _] => t == "type" && (C' == C && (n == "ValueError.__new__" && (!cd.hasDel && (PySem.HandSPX.refsVE bm && cd.hasDict))))
    | _, _ => false)
  | _ => false
theorem clsEB_ok {K : PySem.W.Frag} {C : Addr} (h : clsEB K C = true) : ∃ nm q N bs bm sn sub ab col dd k0 k1 k2 k3 k5, K.lookup C = some (excClassObj nm q C N bs bm true sn sub ab col dd k0 k1 k2 k3 k5 "ValueError.__new__") ∧ PySem.HandSPX.refsVE bm = true := by
  unfold clsEB at h
  split at h
  · rename_i t dd cd sl hl
    split at h
    · rename_i C' bm a0 a1 a2 a3 n a5 hm hsl
      simp only [Bool.and_eq_true, beq_iff_eq, Bool.not_eq_true'] at h
      obtain ⟨h0, h1, h2, h3, h4, h5⟩ := h
      subst h0 h1 h2
      obtain ⟨nm, bs, mro, ns, qn, hd, sn, sub, ab, col, del⟩ := cd
      dsimp only at hm h3 h5
      subst hm h3 h5
      have es : sl = #[a0, a1, a2, a3, some (.builtin "ValueError.__new__"), a5] := by
        rw [← Array.toList_inj, hsl]
      subst es
      exact ⟨nm, qn, ns, bs, bm, sn, sub, ab, col, dd, a0, a1, a2, a3, a5, hl, h4⟩
    · cases h
  · cases h
def excB (K : PySem.W.Frag) (C : Addr) : Bool :=
  decide (PySem.W.findIn K (.ref C) "__class__" = some (some (.builtin "object.__class__"))) && (decide (PySem.W.specialIn K (.builtin "object.__class__") "__get__" = some (some (.builtin "getset_descriptor.__get__"))) &&
    (decide (PySem.W.takesIn K (.builtin "object.__class__") = some true) && decide (PySem.W.mroIn K C (.type "object") = some true)))
def errB (K : PySem.W.Frag) (x : Str) (fs : List Str) : Bool :=
  clsEB K (He.ga K x) && (PySem.W.excInitIn K (He.ga K x) PySem.HandSPX.veTail "ValueError.__new__" && (decide (PySem.W.findIn K (.ref (He.ga K x)) "__setattr__" = some (some (.builtin "object.__setattr__"))) &&
    (decide (PySem.W.ks_superIn K (He.ga K x) (He.ga K x) "__init__" = some (some (.builtin "ValueError.__init__"))) && (decide (PySem.W.subIn K (.ref (He.ga K x)) (.type "ValueError") = some true) && (decide (PySem.W.mroIn K (He.ga K x) (.ref (He.ga K x)) = some true) &&
      (decide (PySem.W.nsIn K cStatics "thirdparty.any" = some none) && (fs.all (fun f => decide (PySem.W.findIn K (.ref (He.ga K x)) f = some none)) && (PySem.W.keepIn K (.ref (He.ga K x)) && (xfB K (He.ga K x) && (excB K (He.ga K x) &&
        decide (PySem.W.typeIn K (.ref (He.ga K x)) = some (.type "type"))))))))))))
/-- all that is known of such a class -/
structure ErrX (K : PySem.W.Frag) (x : Str) (fs : List Str) : Prop where
  xf : XfC K (He.ga K x)
  ex : ExcC K (He.ga K x)
  ty : PySem.W.typeIn K (.ref (He.ga K x)) = some (.type "type")
  no : ∀ f ∈ fs, PySem.W.findIn K (.ref (He.ga K x)) f = some none
theorem errX_of {K : PySem.W.Frag} {x : Str} {fs : List Str} (h : errB K x fs = true) : ErrX K x fs := by
  unfold errB at h
  simp only [Bool.and_eq_true] at h
  obtain ⟨h1, h2, h3, h4, h5, h6, h7, h8, h9, h10, h11, h12⟩ := h
  have xf := xfB_ok h10
  unfold excB at h11
  simp only [Bool.and_eq_true] at h11
  obtain ⟨a, b, c, d⟩ := h11
  exact ⟨xf, ⟨xf.ga, xf.gg, xf.exC, xf.hdC, of_decide_eq_true a, of_decide_eq_true b, of_decide_eq_true c, of_decide_eq_true d⟩, of_decide_eq_true h12, fun f hf => of_decide_eq_true (List.all_eq_true.mp h8 f hf)⟩
/-- what is asked of the program -/
structure PrgOk (file : Str) (P : Program) : Prop where
  file : ((P.main.file : Str) == file) = true
  top : (P.main.scope.names.lookup ("super" : Str)).isSome = false
theorem errC_mk {P : Program} {file : Str} {K : PySem.W.Frag} {mg : Str → Option Value} {x q : Str} {a : Arguments} {b : List Stmt} {sc : Scope} {fs : List Str} (hP : PrgOk file P) (hd : errD file K x = some (q, a, b, sc)) (hb : errB K x fs = true)
    (gl : mg x = some (.ref (He.ga K x))) (sp : mg "super" = none)
    (shape : ∃ (msg : Str) (p0 p1 p2 p3 p4 p5 : Pos) (k : Nat) (zs : List SetP), b = supS msg p0 p1 p2 p3 p4 p5 k :: zs.map setS ∧ zs.map SetP.f = fs ∧
      ∃ pl : Sem Bool, ∀ (L a cc : Addr) (cda : Value), eval (.Call (.Attribute (.Call (.Name "super" p0) [] [] p1) "__init__" p2) [.Constant (.str msg) k p3] [] p4) (PySem.W.ksEnv q sc L a cda cc) = (do
        let ov ← attributeBase (.Call (.Name "super" p0) [] [] p1) "__init__" (PySem.W.ksEnv q sc L a cda cc) (eval (.Call (.Name "super" p0) [] [] p1) (PySem.W.ksEnv q sc L a cda cc))
        standAt p2.atName
        let (f, first) ← holding [ov] (getMethod ov "__init__" pl)
        callWith p4 f first (backTo p4 (starEach [.Constant (.str msg) k p3] (PySem.W.ksEnv q sc L a cda cc))) []))
    (ar : ∃ ar : Arg, (a.posonlyargs ++ a.args).head? = some ar ∧ ar.arg = "self")
    (scK : sc.kind = .function) (scC : sc.isCoroutine = false) (scG : sc.isGenerator = false) (scS : sc.names.lookup ("super" : Str) = some .globalImplicit) (scL : sc.names.lookup ("__class__" : Str) = some .free) (scN : ∀ x ∈ sc.names, x.2 ≠ .cell)
    (scV : ∀ x ∈ ("self" : Str) :: fs, sc.names.lookup x = some .local) (nd : ((("self" : Str) :: fs)).Nodup ∧ (∀ x ∈ fs, (x == ("__debug__" : Str)) = false) ∧ fs.length ≤ 100) : ErrC P K mg x q a b sc fs := by
  unfold errB at hb
  simp only [Bool.and_eq_true] at hb
  obtain ⟨h1, h2, h3, h4, h5, h6, h7, h8, h9, h10, h11, h12⟩ := hb
  unfold errD at hd
  split at hd
  · rename_i f hf
    split at hd
    · rename_i oc od n q' a' b' sc' gl' c cc doc pm an cda ct bl osl hF
      split at hd
      · rename_i hc
        simp only [Bool.and_eq_true] at hc
        obtain ⟨c1, c2, c3, c4, c5, c6, c7, c8⟩ := hc
        obtain ⟨rfl, rfl, rfl, rfl⟩ : q' = q ∧ a' = a ∧ b' = b ∧ sc' = sc := by
          have e := Option.some.inj hd
          obtain ⟨e1, e⟩ := Prod.mk.inj e
          obtain ⟨e2, e⟩ := Prod.mk.inj e
          obtain ⟨e3, e4⟩ := Prod.mk.inj e
          exact ⟨e1, e2, e3, e4⟩
        have d1 := beq_iff_eq.mp c1
        have d2 := beq_iff_eq.mp c2
        have d3 := beq_iff_eq.mp c3
        have d4 := beq_iff_eq.mp c4
        subst d1 d2 d3 d4
        refine ⟨⟨f, ⟨clsEB_ok h1, h2, of_decide_eq_true h3, of_decide_eq_true h4, of_decide_eq_true h5, of_decide_eq_true h6, of_decide_eq_true h7, hf, of_decide_eq_true c8, fun g hg => of_decide_eq_true (List.all_eq_true.mp h8 g hg), h9, ?_, shape, ar, scK, scC, scG, scS, scL, scN, scV, nd, hP.top⟩⟩, gl, sp⟩
        unfold cellB at c6
        split at c6
        · rename_i cl cld D csl hcell
          have eD := beq_iff_eq.mp c6
          subst eD
          unfold fileB at c7
          split at c7
          · rename_i ccl cdd vs ccs hcode
            split at c7
            · rename_i fl tf hvs
              have ef := beq_iff_eq.mp c7
              subst ef
              exact ⟨oc, od, osl, doc, pm, ct, an, cda, cc, ccl, cl, cdd, cld, ccs, csl, vs, fl, tf, hF, c5, hcode, hvs, hP.file, hcell⟩
            · cases c7
          · cases c7
        · cases c6
      · cases hd
    · cases hd
  · cases hd
/-! ### the Hook -/
abbrev AlE : Type := AlB × List ErrD
def obsE (file : Str) (fa : List He.Fa) (fn : List He.DefD) (ts : List He.Tab) (bx : PySem.W.Frag → Bool) (es : List Str) (K : PySem.W.Frag) : AlE := (obsB fa fn ts bx K, es.map (errD file K))
def obsEG (n : Nat) (file : Str) (fa : List He.Fa) (fn : List He.DefD) (ts : List He.Tab) (bx : PySem.W.Frag → Bool) (es : List Str) (g : Addr → Option Obj) : AlE := obsE file fa fn ts bx es (He.frG g (cStatics :: He.asD g n))
structure SaysE (file : Str) (fa : List He.Fa) (fn : List He.DefD) (ts : List He.Tab) (bx : PySem.W.Frag → Bool) (es : List Str) (ev : List ErrD) (w : World) (K : PySem.W.Frag) : Prop where
  q : obsE file fa fn ts bx es K = ((He.valT fn ts w, true), ev)
def hookE (n : Nat) (file : Str) (fa : List He.Fa) (fn : List He.DefD) (ts : List He.Tab) (bx : PySem.W.Frag → Bool) (es : List Str) (ev : List ErrD) : PySem.W.Hook where
  α := AlE
  obs := fun s => obsEG n file fa fn ts bx es s.heap.get?
  val := fun w => ((He.valT fn ts w, true), ev)
  says := fun w h => ∃ K : PySem.W.Frag, K.In h ∧ SaysE file fa fn ts bx es ev w K
  of := fun _ _ e => ⟨_, He.frG_in, ⟨e⟩⟩
  keeps := fun _ _ _ ⟨K, hK, c⟩ k => ⟨K, PySem.W.Frag.In.keeps hK k, c⟩
theorem obsEG_eq {n : Nat} {file : Str} {fa : List He.Fa} {fn : List He.DefD} {ts : List He.Tab} {bx : PySem.W.Frag → Bool} {es : List Str} {ev : List ErrD} {g : Addr → Option Obj} {s : Shared} (h : ∀ a, g a = s.heap.get? a) :
    obsEG n file fa fn ts bx es g = (hookE n file fa fn ts bx es ev).obs s := by
  have e : g = s.heap.get? := funext h
  rw [e]
  rfl
section
variable {file : Str} {fa : List He.Fa} {fn : List He.DefD} {ts : List He.Tab} {bx : PySem.W.Frag → Bool} {es : List Str} {ev : List ErrD} {w : World} {K : PySem.W.Frag}
theorem SaysE.s (c : SaysE file fa fn ts bx es ev w K) : SaysB fa fn ts bx w K := congrArg (fun z : AlE => z.1) c.q
theorem SaysE.e (c : SaysE file fa fn ts bx es ev w K) (i : Nat) {x : Str} {d : ErrD} (h1 : es[i]? = some x) (h2 : ev[i]? = some d) : errD file K x = d := by
  have h : es.map (errD file K) = ev := congrArg (fun z : AlE => z.2) c.q
  rw [← h, List.getElem?_map, h1] at h2
  exact Option.some.inj h2
end
end HG

set_option maxHeartbeats 0
namespace K01
open PySem PySem.Spec PyProof.Rows L2 HG
def top (i : Nat) : Stmt := PySem.Challenge.pw_wholeapart_k01_errors.main.body.getD i (.Pass ⟨0, 0, 0, 0⟩)
def dd (x : Str) (i : Nat) : He.DefD := ⟨(x, none), x, x, defArgs (top i), defBody (top i), defScope (top i), [], []⟩
def dm (C m q : Str) (i j : Nat) : He.DefD := ⟨(C, some m), m, q, defArgs (inClass (top i) j), defBody (inClass (top i) j), defScope (inClass (top i) j), [], []⟩
def fn : List He.DefD := [dd "_law_deck" 19, dd "_law_draw" 20, dd "_law_pick" 21, dd "_law_value" 22, dd "_law_kinds" 23, dd "_law_plain" 24, dd "_law_named" 25, dd "_law_made" 26, dd "_law_right" 27, dd "law" 28]
def fa : List He.Fa := [.free "ValueError", .free "isinstance", .free "len", .free "list", .free "range", .free "repr", .free "super", .free "tuple", .glo "_law_deck", .glo "_law_draw", .glo "_law_pick", .glo "_law_value", .glo "_law_kinds", .glo "_law_plain", .glo "_law_named", .glo "_law_made", .glo "_law_right", .glo "law", .glo "InvalidText", .glo "InvalidModule", .glo "Undefined", .glo "Incompatible", .glo "Conflict", .glo "NoEntry", .glo "InvalidRewrite", .glo "InvalidObject", .glo "Outdated", .glo "Stale", .glo "Rejected", .glo "Missing", .glo "Disagreement", .glo "UnknownModule", .glo "InvalidCommand", .glo "NoImage", .glo "WholeError"]
def ts : List He.Tab := []
def bx (K : PySem.W.Frag) : Bool := (["InvalidText", "InvalidModule", "Undefined", "Incompatible", "Conflict", "NoEntry", "InvalidRewrite", "InvalidObject", "Outdated", "Stale", "Rejected", "Missing", "Disagreement", "UnknownModule", "InvalidCommand", "NoImage"] : List Str).all (fun x => (["InvalidText", "InvalidModule", "Undefined", "Incompatible", "Conflict", "NoEntry", "InvalidRewrite", "InvalidObject", "Outdated", "Stale", "Rejected", "Missing", "Disagreement", "UnknownModule", "InvalidCommand", "NoImage"] : List Str).all fun y => decide (PySem.W.kitOne K (.ref (He.ga K x)) (.ref (He.ga K y)) = some (decide (x = y)))) && ((["InvalidText", "InvalidModule", "Undefined", "Incompatible", "Conflict", "NoEntry", "InvalidRewrite", "InvalidObject", "Outdated", "Stale", "Rejected", "Missing", "Disagreement", "UnknownModule", "InvalidCommand", "NoImage"] : List Str).all (fun x => decide (PySem.W.kitOne K (.ref (He.ga K x)) (.ref (He.ga K "WholeError")) = some true)) && ((["InvalidText", "InvalidModule", "Undefined", "Incompatible", "Conflict", "NoEntry", "InvalidRewrite", "InvalidObject", "Outdated", "Stale", "Rejected", "Missing", "Disagreement", "UnknownModule", "InvalidCommand", "NoImage"] : List Str).all (fun x => decide (PySem.W.kitOne K (.ref (He.ga K x)) (.type "ValueError") = some true)) && (errB K "InvalidText" [] && (errB K "InvalidModule" [] && (errB K "Undefined" ["name"] && (errB K "Incompatible" ["name"] && (errB K "Conflict" ["name"] && (errB K "NoEntry" ["name"] && (errB K "InvalidRewrite" [] && (errB K "InvalidObject" ["module"] && (errB K "Outdated" ["module"] && (errB K "Stale" ["module", "question", "expected", "actual"] && (errB K "Rejected" ["module"] && (errB K "Missing" ["user", "name"] && (errB K "Disagreement" ["user", "definer", "name"] && (errB K "UnknownModule" ["name"] && (errB K "InvalidCommand" [] && (errB K "NoImage" [] && (true)))))))))))))))))))
abbrev R : PySem.W.OpenRow := PySem.W.OpenLaw.row PySem.Challenge.rw_wholeapart_k01_errors
abbrev s_InvalidText___init__ : Stmt := inClass (top 2) 0
abbrev s_InvalidModule___init__ : Stmt := inClass (top 3) 0
abbrev s_Undefined___init__ : Stmt := inClass (top 4) 0
abbrev s_Incompatible___init__ : Stmt := inClass (top 5) 0
abbrev s_Conflict___init__ : Stmt := inClass (top 6) 0
abbrev s_NoEntry___init__ : Stmt := inClass (top 7) 0
abbrev s_InvalidRewrite___init__ : Stmt := inClass (top 8) 0
abbrev s_InvalidObject___init__ : Stmt := inClass (top 9) 0
abbrev s_Outdated___init__ : Stmt := inClass (top 10) 0
abbrev s_Stale___init__ : Stmt := inClass (top 11) 0
abbrev s_Rejected___init__ : Stmt := inClass (top 12) 0
abbrev s_Missing___init__ : Stmt := inClass (top 13) 0
abbrev s_Disagreement___init__ : Stmt := inClass (top 14) 0
abbrev s_UnknownModule___init__ : Stmt := inClass (top 15) 0
abbrev s_InvalidCommand___init__ : Stmt := inClass (top 16) 0
abbrev s_NoImage___init__ : Stmt := inClass (top 17) 0
abbrev file : Str := PySem.Challenge.pw_wholeapart_k01_errors.main.file
def es : List Str := ["InvalidText", "InvalidModule", "Undefined", "Incompatible", "Conflict", "NoEntry", "InvalidRewrite", "InvalidObject", "Outdated", "Stale", "Rejected", "Missing", "Disagreement", "UnknownModule", "InvalidCommand", "NoImage"]
def ev : List ErrD := [some ("InvalidText.__init__", defArgs s_InvalidText___init__, defBody s_InvalidText___init__, defScope s_InvalidText___init__), some ("InvalidModule.__init__", defArgs s_InvalidModule___init__, defBody s_InvalidModule___init__, defScope s_InvalidModule___init__), some ("Undefined.__init__", defArgs s_Undefined___init__, defBody s_Undefined___init__, defScope s_Undefined___init__), some ("Incompatible.__init__", defArgs s_Incompatible___init__, defBody s_Incompatible___init__, defScope s_Incompatible___init__), some ("Conflict.__init__", defArgs s_Conflict___init__, defBody s_Conflict___init__, defScope s_Conflict___init__), some ("NoEntry.__init__", defArgs s_NoEntry___init__, defBody s_NoEntry___init__, defScope s_NoEntry___init__), some ("InvalidRewrite.__init__", defArgs s_InvalidRewrite___init__, defBody s_InvalidRewrite___init__, defScope s_InvalidRewrite___init__), some ("InvalidObject.__init__", defArgs s_InvalidObject___init__, defBody s_InvalidObject___init__, defScope s_InvalidObject___init__), some ("Outdated.__init__", defArgs s_Outdated___init__, defBody s_Outdated___init__, defScope s_Outdated___init__), some ("Stale.__init__", defArgs s_Stale___init__, defBody s_Stale___init__, defScope s_Stale___init__), some ("Rejected.__init__", defArgs s_Rejected___init__, defBody s_Rejected___init__, defScope s_Rejected___init__), some ("Missing.__init__", defArgs s_Missing___init__, defBody s_Missing___init__, defScope s_Missing___init__), some ("Disagreement.__init__", defArgs s_Disagreement___init__, defBody s_Disagreement___init__, defScope s_Disagreement___init__), some ("UnknownModule.__init__", defArgs s_UnknownModule___init__, defBody s_UnknownModule___init__, defScope s_UnknownModule___init__), some ("InvalidCommand.__init__", defArgs s_InvalidCommand___init__, defBody s_InvalidCommand___init__, defScope s_InvalidCommand___init__), some ("NoImage.__init__", defArgs s_NoImage___init__, defBody s_NoImage___init__, defScope s_NoImage___init__)]
abbrev hk : PySem.W.Hook := hookE 5 file fa fn ts bx es ev
def ob (s : PySem.W.SharedT) : AlE := obsEG 5 file fa fn ts bx es (HandSHeadRun.getT s)
theorem ob_eq (s : PySem.W.SharedT) : ob s = hk.obs s.abs := obsEG_eq (HandSHeadRun.getT_eq s)
def loose : List Str := (["WholeError", "InvalidText", "InvalidModule", "Undefined", "Incompatible", "Conflict", "NoEntry", "InvalidRewrite", "InvalidObject", "Outdated", "Stale", "Rejected", "Missing", "Disagreement", "UnknownModule", "InvalidCommand", "NoImage", "_law_deck", "_law_draw", "_law_pick", "_law_value", "_law_kinds", "_law_plain", "_law_named", "_law_made", "_law_right"] : List Str)
theorem runF (w : World) : HandSHeadRun.RunEq R (PySem.W.view R.prog [28]) hk ob 6000 loose (w.withFollow "special-get-raises" false) := by
  intro os
  kernel_rfl
theorem runT (w : World) : HandSHeadRun.RunEq R (PySem.W.view R.prog [28]) hk ob 6000 loose (w.withFollow "special-get-raises" true) := by
  intro os
  kernel_rfl
theorem run (w : World) : HandSHeadRun.RunEq R (PySem.W.view R.prog [28]) hk ob 6000 loose w := PySem.W.byRow2 "special-get-raises" (P := fun w => HandSHeadRun.RunEq R (PySem.W.view R.prog [28]) hk ob 6000 loose w) runF runT w
abbrev FnP (K : PySem.W.Frag) (x : Str) (st : Stmt) : Prop := ∃ fd, FunD K x x (defArgs st) (defBody st) (defScope st) [] [] (He.ga K x) fd
abbrev s__law_deck : Stmt := top 19
abbrev N__law_deck : List Str := ["_law_script", "_law_mixed", "_law_cell"]
theorem sc__law_deck : FnScope N__law_deck ["_law_script"] (defScope s__law_deck) := ⟨rfl, rfl, rfl, by decide +kernel, rfl, by decide +kernel, by decide +kernel⟩
abbrev s__law_draw : Stmt := top 20
abbrev N__law_draw : List Str := ["_law_deck_here", "_law_many", "_law_found", "_law_turn", "_law_cell", "_law_mixed"]
theorem sc__law_draw : FnScope N__law_draw ["_law_deck_here", "_law_many"] (defScope s__law_draw) := ⟨rfl, rfl, rfl, by decide +kernel, rfl, by decide +kernel, by decide +kernel⟩
abbrev s__law_pick : Stmt := top 21
abbrev N__law_pick : List Str := ["_law_deck_here", "_law_some"]
theorem sc__law_pick : FnScope N__law_pick ["_law_deck_here", "_law_some"] (defScope s__law_pick) := ⟨rfl, rfl, rfl, by decide +kernel, rfl, by decide +kernel, by decide +kernel⟩
abbrev s__law_value : Stmt := top 22
abbrev N__law_value : List Str := ["_law_deck_here", "_law_deep", "_law_way", "_law_some", "_law_k"]
theorem sc__law_value : FnScope N__law_value ["_law_deck_here", "_law_deep"] (defScope s__law_value) := ⟨rfl, rfl, rfl, by decide +kernel, rfl, by decide +kernel, by decide +kernel⟩
abbrev s__law_kinds : Stmt := top 23
abbrev N__law_kinds : List Str := ["_law_e", "_law_found"]
theorem sc__law_kinds : FnScope N__law_kinds ["_law_e"] (defScope s__law_kinds) := ⟨rfl, rfl, rfl, by decide +kernel, rfl, by decide +kernel, by decide +kernel⟩
abbrev s__law_plain : Stmt := top 24
abbrev N__law_plain : List Str := ["_law_at"]
theorem sc__law_plain : FnScope N__law_plain ["_law_at"] (defScope s__law_plain) := ⟨rfl, rfl, rfl, by decide +kernel, rfl, by decide +kernel, by decide +kernel⟩
abbrev s__law_named : Stmt := top 25
abbrev N__law_named : List Str := ["_law_at", "_law_one", "_law_by_name", "_law_e"]
theorem sc__law_named : FnScope N__law_named ["_law_at", "_law_one", "_law_by_name"] (defScope s__law_named) := ⟨rfl, rfl, rfl, by decide +kernel, rfl, by decide +kernel, by decide +kernel⟩
abbrev s__law_made : Stmt := top 26
abbrev N__law_made : List Str := ["_law_at", "_law_some", "_law_by_name", "_law_one", "_law_two", "_law_three", "_law_four", "_law_e"]
theorem sc__law_made : FnScope N__law_made ["_law_at", "_law_some", "_law_by_name"] (defScope s__law_made) := ⟨rfl, rfl, rfl, by decide +kernel, rfl, by decide +kernel, by decide +kernel⟩
abbrev s__law_right : Stmt := top 27
abbrev N__law_right : List Str := ["_law_e", "_law_at", "_law_k"]
theorem sc__law_right : FnScope N__law_right ["_law_e", "_law_at"] (defScope s__law_right) := ⟨rfl, rfl, rfl, by decide +kernel, rfl, by decide +kernel, by decide +kernel⟩
abbrev s_law : Stmt := top 28
abbrev N_law : List Str := ["_law_script", "_law_deck_here", "_law_turn", "_law_at", "_law_some", "_law_kept", "_law_by_name", "_law_e", "_law_fields", "_law_k", "_law_one"]
theorem sc_law : FnScope N_law ["_law_script"] (defScope s_law) := ⟨rfl, rfl, rfl, by decide +kernel, rfl, by decide +kernel, by decide +kernel⟩
def gnames : List Str := ["_law_deck", "_law_draw", "_law_pick", "_law_value", "_law_kinds", "_law_plain", "_law_named", "_law_made", "_law_right", "law", "InvalidText", "InvalidModule", "Undefined", "Incompatible", "Conflict", "NoEntry", "InvalidRewrite", "InvalidObject", "Outdated", "Stale", "Rejected", "Missing", "Disagreement", "UnknownModule", "InvalidCommand", "NoImage", "WholeError"]
structure Txt (w : World) (K : PySem.W.Frag) (mg : Str → Option Value) : Prop where
  d__law_deck : FnP K "_law_deck" s__law_deck
  d__law_draw : FnP K "_law_draw" s__law_draw
  d__law_pick : FnP K "_law_pick" s__law_pick
  d__law_value : FnP K "_law_value" s__law_value
  d__law_kinds : FnP K "_law_kinds" s__law_kinds
  d__law_plain : FnP K "_law_plain" s__law_plain
  d__law_named : FnP K "_law_named" s__law_named
  d__law_made : FnP K "_law_made" s__law_made
  d__law_right : FnP K "_law_right" s__law_right
  d_law : FnP K "law" s_law
  kinds : ∀ x ∈ (["InvalidText", "InvalidModule", "Undefined", "Incompatible", "Conflict", "NoEntry", "InvalidRewrite", "InvalidObject", "Outdated", "Stale", "Rejected", "Missing", "Disagreement", "UnknownModule", "InvalidCommand", "NoImage"] : List Str), ∀ y ∈ (["InvalidText", "InvalidModule", "Undefined", "Incompatible", "Conflict", "NoEntry", "InvalidRewrite", "InvalidObject", "Outdated", "Stale", "Rejected", "Missing", "Disagreement", "UnknownModule", "InvalidCommand", "NoImage"] : List Str), PySem.W.kitOne K (.ref (He.ga K x)) (.ref (He.ga K y)) = some (decide (x = y))
  whole : ∀ x ∈ (["InvalidText", "InvalidModule", "Undefined", "Incompatible", "Conflict", "NoEntry", "InvalidRewrite", "InvalidObject", "Outdated", "Stale", "Rejected", "Missing", "Disagreement", "UnknownModule", "InvalidCommand", "NoImage"] : List Str), PySem.W.kitOne K (.ref (He.ga K x)) (.ref (He.ga K "WholeError")) = some true
  value : ∀ x ∈ (["InvalidText", "InvalidModule", "Undefined", "Incompatible", "Conflict", "NoEntry", "InvalidRewrite", "InvalidObject", "Outdated", "Stale", "Rejected", "Missing", "Disagreement", "UnknownModule", "InvalidCommand", "NoImage"] : List Str), PySem.W.kitOne K (.ref (He.ga K x)) (.type "ValueError") = some true
  x_InvalidText : ErrX K "InvalidText" []
  e_InvalidText : ∀ {P : Program}, PrgOk file P → ErrC P K mg "InvalidText" "InvalidText.__init__" (defArgs s_InvalidText___init__) (defBody s_InvalidText___init__) (defScope s_InvalidText___init__) []
  x_InvalidModule : ErrX K "InvalidModule" []
  e_InvalidModule : ∀ {P : Program}, PrgOk file P → ErrC P K mg "InvalidModule" "InvalidModule.__init__" (defArgs s_InvalidModule___init__) (defBody s_InvalidModule___init__) (defScope s_InvalidModule___init__) []
  x_Undefined : ErrX K "Undefined" ["name"]
  e_Undefined : ∀ {P : Program}, PrgOk file P → ErrC P K mg "Undefined" "Undefined.__init__" (defArgs s_Undefined___init__) (defBody s_Undefined___init__) (defScope s_Undefined___init__) ["name"]
  x_Incompatible : ErrX K "Incompatible" ["name"]
  e_Incompatible : ∀ {P : Program}, PrgOk file P → ErrC P K mg "Incompatible" "Incompatible.__init__" (defArgs s_Incompatible___init__) (defBody s_Incompatible___init__) (defScope s_Incompatible___init__) ["name"]
  x_Conflict : ErrX K "Conflict" ["name"]
  e_Conflict : ∀ {P : Program}, PrgOk file P → ErrC P K mg "Conflict" "Conflict.__init__" (defArgs s_Conflict___init__) (defBody s_Conflict___init__) (defScope s_Conflict___init__) ["name"]
  x_NoEntry : ErrX K "NoEntry" ["name"]
  e_NoEntry : ∀ {P : Program}, PrgOk file P → ErrC P K mg "NoEntry" "NoEntry.__init__" (defArgs s_NoEntry___init__) (defBody s_NoEntry___init__) (defScope s_NoEntry___init__) ["name"]
  x_InvalidRewrite : ErrX K "InvalidRewrite" []
  e_InvalidRewrite : ∀ {P : Program}, PrgOk file P → ErrC P K mg "InvalidRewrite" "InvalidRewrite.__init__" (defArgs s_InvalidRewrite___init__) (defBody s_InvalidRewrite___init__) (defScope s_InvalidRewrite___init__) []
  x_InvalidObject : ErrX K "InvalidObject" ["module"]
  e_InvalidObject : ∀ {P : Program}, PrgOk file P → ErrC P K mg "InvalidObject" "InvalidObject.__init__" (defArgs s_InvalidObject___init__) (defBody s_InvalidObject___init__) (defScope s_InvalidObject___init__) ["module"]
  x_Outdated : ErrX K "Outdated" ["module"]
  e_Outdated : ∀ {P : Program}, PrgOk file P → ErrC P K mg "Outdated" "Outdated.__init__" (defArgs s_Outdated___init__) (defBody s_Outdated___init__) (defScope s_Outdated___init__) ["module"]
  x_Stale : ErrX K "Stale" ["module", "question", "expected", "actual"]
  e_Stale : ∀ {P : Program}, PrgOk file P → ErrC P K mg "Stale" "Stale.__init__" (defArgs s_Stale___init__) (defBody s_Stale___init__) (defScope s_Stale___init__) ["module", "question", "expected", "actual"]
  x_Rejected : ErrX K "Rejected" ["module"]
  e_Rejected : ∀ {P : Program}, PrgOk file P → ErrC P K mg "Rejected" "Rejected.__init__" (defArgs s_Rejected___init__) (defBody s_Rejected___init__) (defScope s_Rejected___init__) ["module"]
  x_Missing : ErrX K "Missing" ["user", "name"]
  e_Missing : ∀ {P : Program}, PrgOk file P → ErrC P K mg "Missing" "Missing.__init__" (defArgs s_Missing___init__) (defBody s_Missing___init__) (defScope s_Missing___init__) ["user", "name"]
  x_Disagreement : ErrX K "Disagreement" ["user", "definer", "name"]
  e_Disagreement : ∀ {P : Program}, PrgOk file P → ErrC P K mg "Disagreement" "Disagreement.__init__" (defArgs s_Disagreement___init__) (defBody s_Disagreement___init__) (defScope s_Disagreement___init__) ["user", "definer", "name"]
  x_UnknownModule : ErrX K "UnknownModule" ["name"]
  e_UnknownModule : ∀ {P : Program}, PrgOk file P → ErrC P K mg "UnknownModule" "UnknownModule.__init__" (defArgs s_UnknownModule___init__) (defBody s_UnknownModule___init__) (defScope s_UnknownModule___init__) ["name"]
  x_InvalidCommand : ErrX K "InvalidCommand" []
  e_InvalidCommand : ∀ {P : Program}, PrgOk file P → ErrC P K mg "InvalidCommand" "InvalidCommand.__init__" (defArgs s_InvalidCommand___init__) (defBody s_InvalidCommand___init__) (defScope s_InvalidCommand___init__) []
  x_NoImage : ErrX K "NoImage" []
  e_NoImage : ∀ {P : Program}, PrgOk file P → ErrC P K mg "NoImage" "NoImage.__init__" (defArgs s_NoImage___init__) (defBody s_NoImage___init__) (defScope s_NoImage___init__) []
  n_ValueError : mg "ValueError" = none
  n_isinstance : mg "isinstance" = none
  n_len : mg "len" = none
  n_list : mg "list" = none
  n_range : mg "range" = none
  n_repr : mg "repr" = none
  n_super : mg "super" = none
  n_tuple : mg "tuple" = none
  g : ∀ x ∈ gnames, mg x = some (.ref (He.ga K x))
theorem glos {K : PySem.W.Frag} {h : Heap} {mg : Str → Option Value} (X : K.In h) (G : h.Ns mainGlobals mg) : ∀ {l : List Str}, (∀ x ∈ l, (He.Fa.glo x).ok K = true) → ∀ x ∈ l, mg x = some (.ref (He.ga K x)) := fun h x hx => He.glo_ok X G (h x hx)
theorem txt0 {w : World} {K : PySem.W.Frag} {h : Heap} {mg : Str → Option Value} (X : K.In h) (G : h.Ns mainGlobals mg) (c : SaysB fa fn ts bx w K) (c0 : SaysE file fa fn ts bx es ev w K) : Txt w K mg where
  d__law_deck := c.d.def_ 0 (d := dd "_law_deck" 19) rfl
  d__law_draw := c.d.def_ 1 (d := dd "_law_draw" 20) rfl
  d__law_pick := c.d.def_ 2 (d := dd "_law_pick" 21) rfl
  d__law_value := c.d.def_ 3 (d := dd "_law_value" 22) rfl
  d__law_kinds := c.d.def_ 4 (d := dd "_law_kinds" 23) rfl
  d__law_plain := c.d.def_ 5 (d := dd "_law_plain" 24) rfl
  d__law_named := c.d.def_ 6 (d := dd "_law_named" 25) rfl
  d__law_made := c.d.def_ 7 (d := dd "_law_made" 26) rfl
  d__law_right := c.d.def_ 8 (d := dd "_law_right" 27) rfl
  d_law := c.d.def_ 9 (d := dd "law" 28) rfl
  kinds := fun x hx y hy => of_decide_eq_true (List.all_eq_true.mp (List.all_eq_true.mp (He.ba c.b).1 x hx) y hy)
  whole := fun x hx => of_decide_eq_true (List.all_eq_true.mp (He.ba (He.ba c.b).2).1 x hx)
  value := fun x hx => of_decide_eq_true (List.all_eq_true.mp (He.ba (He.ba (He.ba c.b).2).2).1 x hx)
  x_InvalidText := errX_of (He.ba (He.ba (He.ba (He.ba c.b).2).2).2).1
  e_InvalidText := fun hP => errC_mk hP (c0.e 0 rfl rfl) (He.ba (He.ba (He.ba (He.ba c.b).2).2).2).1 (He.glo_ok X G (c.d.fact 18 (f := .glo "InvalidText") rfl)) (He.free_ok X G (c.d.fact 6 (f := .free "super") rfl)) ⟨_, _, _, _, _, _, _, _, [], rfl, rfl, _, fun _ _ _ _ => rfl⟩ ⟨_, rfl, rfl⟩ rfl rfl rfl rfl rfl (by decide +kernel) (by decide +kernel) ⟨by decide +kernel, by decide +kernel, by decide⟩
  x_InvalidModule := errX_of (He.ba (He.ba (He.ba (He.ba (He.ba c.b).2).2).2).2).1
  e_InvalidModule := fun hP => errC_mk hP (c0.e 1 rfl rfl) (He.ba (He.ba (He.ba (He.ba (He.ba c.b).2).2).2).2).1 (He.glo_ok X G (c.d.fact 19 (f := .glo "InvalidModule") rfl)) (He.free_ok X G (c.d.fact 6 (f := .free "super") rfl)) ⟨_, _, _, _, _, _, _, _, [], rfl, rfl, _, fun _ _ _ _ => rfl⟩ ⟨_, rfl, rfl⟩ rfl rfl rfl rfl rfl (by decide +kernel) (by decide +kernel) ⟨by decide +kernel, by decide +kernel, by decide⟩
  x_Undefined := errX_of (He.ba (He.ba (He.ba (He.ba (He.ba (He.ba c.b).2).2).2).2).2).1
  e_Undefined := fun hP => errC_mk hP (c0.e 2 rfl rfl) (He.ba (He.ba (He.ba (He.ba (He.ba (He.ba c.b).2).2).2).2).2).1 (He.glo_ok X G (c.d.fact 20 (f := .glo "Undefined") rfl)) (He.free_ok X G (c.d.fact 6 (f := .free "super") rfl)) ⟨_, _, _, _, _, _, _, _, [⟨"name", _, _, _, _⟩], rfl, rfl, _, fun _ _ _ _ => rfl⟩ ⟨_, rfl, rfl⟩ rfl rfl rfl rfl rfl (by decide +kernel) (by decide +kernel) ⟨by decide +kernel, by decide +kernel, by decide⟩
  x_Incompatible := errX_of (He.ba (He.ba (He.ba (He.ba (He.ba (He.ba (He.ba c.b).2).2).2).2).2).2).1
  e_Incompatible := fun hP => errC_mk hP (c0.e 3 rfl rfl) (He.ba (He.ba (He.ba (He.ba (He.ba (He.ba (He.ba c.b).2).2).2).2).2).2).1 (He.glo_ok X G (c.d.fact 21 (f := .glo "Incompatible") rfl)) (He.free_ok X G (c.d.fact 6 (f := .free "super") rfl)) ⟨_, _, _, _, _, _, _, _, [⟨"name", _, _, _, _⟩], rfl, rfl, _, fun _ _ _ _ => rfl⟩ ⟨_, rfl, rfl⟩ rfl rfl rfl rfl rfl (by decide +kernel) (by decide +kernel) ⟨by decide +kernel, by decide +kernel, by decide⟩
  x_Conflict := errX_of (He.ba (He.ba (He.ba (He.ba (He.ba (He.ba (He.ba (He.ba c.b).2).2).2).2).2).2).2).1
  e_Conflict := fun hP => errC_mk hP (c0.e 4 rfl rfl) (He.ba (He.ba (He.ba (He.ba (He.ba (He.ba (He.ba (He.ba c.b).2).2).2).2).2).2).2).1 (He.glo_ok X G (c.d.fact 22 (f := .glo "Conflict") rfl)) (He.free_ok X G (c.d.fact 6 (f := .free "super") rfl)) ⟨_, _, _, _, _, _, _, _, [⟨"name", _, _, _, _⟩], rfl, rfl, _, fun _ _ _ _ => rfl⟩ ⟨_, rfl, rfl⟩ rfl rfl rfl rfl rfl (by decide +kernel) (by decide +kernel) ⟨by decide +kernel, by decide +kernel, by decide⟩
  x_NoEntry := errX_of (He.ba (He.ba (He.ba (He.ba (He.ba (He.ba (He.ba (He.ba (He.ba c.b).2).2).2).2).2).2).2).2).1
  e_NoEntry := fun hP => errC_mk hP (c0.e 5 rfl rfl) (He.ba (He.ba (He.ba (He.ba (He.ba (He.ba (He.ba (He.ba (He.ba c.b).2).2).2).2).2).2).2).2).1 (He.glo_ok X G (c.d.fact 23 (f := .glo "NoEntry") rfl)) (He.free_ok X G (c.d.fact 6 (f := .free "super") rfl)) ⟨_, _, _, _, _, _, _, _, [⟨"name", _, _, _, _⟩], rfl, rfl, _, fun _ _ _ _ => rfl⟩ ⟨_, rfl, rfl⟩ rfl rfl rfl rfl rfl (by decide +kernel) (by decide +kernel) ⟨by decide +kernel, by decide +kernel, by decide⟩
  x_InvalidRewrite := errX_of (He.ba (He.ba (He.ba (He.ba (He.ba (He.ba (He.ba (He.ba (He.ba (He.ba c.b).2).2).2).2).2).2).2).2).2).1
  e_InvalidRewrite := fun hP => errC_mk hP (c0.e 6 rfl rfl) (He.ba (He.ba (He.ba (He.ba (He.ba (He.ba (He.ba (He.ba (He.ba (He.ba c.b).2).2).2).2).2).2).2).2).2).1 (He.glo_ok X G (c.d.fact 24 (f := .glo "InvalidRewrite") rfl)) (He.free_ok X G (c.d.fact 6 (f := .free "super") rfl)) ⟨_, _, _, _, _, _, _, _, [], rfl, rfl, _, fun _ _ _ _ => rfl⟩ ⟨_, rfl, rfl⟩ rfl rfl rfl rfl rfl (by decide +kernel) (by decide +kernel) ⟨by decide +kernel, by decide +kernel, by decide⟩
  x_InvalidObject := errX_of (He.ba (He.ba (He.ba (He.ba (He.ba (He.ba (He.ba (He.ba (He.ba (He.ba (He.ba c.b).2).2).2).2).2).2).2).2).2).2).1
  e_InvalidObject := fun hP => errC_mk hP (c0.e 7 rfl rfl) (He.ba (He.ba (He.ba (He.ba (He.ba (He.ba (He.ba (He.ba (He.ba (He.ba (He.ba c.b).2).2).2).2).2).2).2).2).2).2).1 (He.glo_ok X G (c.d.fact 25 (f := .glo "InvalidObject") rfl)) (He.free_ok X G (c.d.fact 6 (f := .free "super") rfl)) ⟨_, _, _, _, _, _, _, _, [⟨"module", _, _, _, _⟩], rfl, rfl, _, fun _ _ _ _ => rfl⟩ ⟨_, rfl, rfl⟩ rfl rfl rfl rfl rfl (by decide +kernel) (by decide +kernel) ⟨by decide +kernel, by decide +kernel, by decide⟩
  x_Outdated := errX_of (He.ba (He.ba (He.ba (He.ba (He.ba (He.ba (He.ba (He.ba (He.ba (He.ba (He.ba (He.ba c.b).2).2).2).2).2).2).2).2).2).2).2).1
  e_Outdated := fun hP => errC_mk hP (c0.e 8 rfl rfl) (He.ba (He.ba (He.ba (He.ba (He.ba (He.ba (He.ba (He.ba (He.ba (He.ba (He.ba (He.ba c.b).2).2).2).2).2).2).2).2).2).2).2).1 (He.glo_ok X G (c.d.fact 26 (f := .glo "Outdated") rfl)) (He.free_ok X G (c.d.fact 6 (f := .free "super") rfl)) ⟨_, _, _, _, _, _, _, _, [⟨"module", _, _, _, _⟩], rfl, rfl, _, fun _ _ _ _ => rfl⟩ ⟨_, rfl, rfl⟩ rfl rfl rfl rfl rfl (by decide +kernel) (by decide +kernel) ⟨by decide +kernel, by decide +kernel, by decide⟩
  x_Stale := errX_of (He.ba (He.ba (He.ba (He.ba (He.ba (He.ba (He.ba (He.ba (He.ba (He.ba (He.ba (He.ba (He.ba c.b).2).2).2).2).2).2).2).2).2).2).2).2).1
  e_Stale := fun hP => errC_mk hP (c0.e 9 rfl rfl) (He.ba (He.ba (He.ba (He.ba (He.ba (He.ba (He.ba (He.ba (He.ba (He.ba (He.ba (He.ba (He.ba c.b).2).2).2).2).2).2).2).2).2).2).2).2).1 (He.glo_ok X G (c.d.fact 27 (f := .glo "Stale") rfl)) (He.free_ok X G (c.d.fact 6 (f := .free "super") rfl)) ⟨_, _, _, _, _, _, _, _, [⟨"module", _, _, _, _⟩, ⟨"question", _, _, _, _⟩, ⟨"expected", _, _, _, _⟩, ⟨"actual", _, _, _, _⟩], rfl, rfl, _, fun _ _ _ _ => rfl⟩ ⟨_, rfl, rfl⟩ rfl rfl rfl rfl rfl (by decide +kernel) (by decide +kernel) ⟨by decide +kernel, by decide +kernel, by decide⟩
  x_Rejected := errX_of (He.ba (He.ba (He.ba (He.ba (He.ba (He.ba (He.ba (He.ba (He.ba (He.ba (He.ba (He.ba (He.ba (He.ba c.b).2).2).2).2).2).2).2).2).2).2).2).2).2).1
  e_Rejected := fun hP => errC_mk hP (c0.e 10 rfl rfl) (He.ba (He.ba (He.ba (He.ba (He.ba (He.ba (He.ba (He.ba (He.ba (He.ba (He.ba (He.ba (He.ba (He.ba c.b).2).2).2).2).2).2).2).2).2).2).2).2).2).1 (He.glo_ok X G (c.d.fact 28 (f := .glo "Rejected") rfl)) (He.free_ok X G (c.d.fact 6 (f := .free "super") rfl)) ⟨_, _, _, _, _, _, _, _, [⟨"module", _, _, _, _⟩], rfl, rfl, _, fun _ _ _ _ => rfl⟩ ⟨_, rfl, rfl⟩ rfl rfl rfl rfl rfl (by decide +kernel) (by decide +kernel) ⟨by decide +kernel, by decide +kernel, by decide⟩
  x_Missing := errX_of (He.ba (He.ba (He.ba (He.ba (He.ba (He.ba (He.ba (He.ba (He.ba (He.ba (He.ba (He.ba (He.ba (He.ba (He.ba c.b).2).2).2).2).2).2).2).2).2).2).2).2).2).2).1
  e_Missing := fun hP => errC_mk hP (c0.e 11 rfl rfl) (He.ba (He.ba (He.ba (He.ba (He.ba (He.ba (He.ba (He.ba (He.ba (He.ba (He.ba (He.ba (He.ba (He.ba (He.ba c.b).2).2).2).2).2).2).2).2).2).2).2).2).2).2).1 (He.glo_ok X G (c.d.fact 29 (f := .glo "Missing") rfl)) (He.free_ok X G (c.d.fact 6 (f := .free "super") rfl)) ⟨_, _, _, _, _, _, _, _, [⟨"user", _, _, _, _⟩, ⟨"name", _, _, _, _⟩], rfl, rfl, _, fun _ _ _ _ => rfl⟩ ⟨_, rfl, rfl⟩ rfl rfl rfl rfl rfl (by decide +kernel) (by decide +kernel) ⟨by decide +kernel, by decide +kernel, by decide⟩
  x_Disagreement := errX_of (He.ba (He.ba (He.ba (He.ba (He.ba (He.ba (He.ba (He.ba (He.ba (He.ba (He.ba (He.ba (He.ba (He.ba (He.ba (He.ba c.b).2).2).2).2).2).2).2).2).2).2).2).2).2).2).2).1
  e_Disagreement := fun hP => errC_mk hP (c0.e 12 rfl rfl) (He.ba (He.ba (He.ba (He.ba (He.ba (He.ba (He.ba (He.ba (He.ba (He.ba (He.ba (He.ba (He.ba (He.ba (He.ba (He.ba c.b).2).2).2).2).2).2).2).2).2).2).2).2).2).2).2).1 (He.glo_ok X G (c.d.fact 30 (f := .glo "Disagreement") rfl)) (He.free_ok X G (c.d.fact 6 (f := .free "super") rfl)) ⟨_, _, _, _, _, _, _, _, [⟨"user", _, _, _, _⟩, ⟨"definer", _, _, _, _⟩, ⟨"name", _, _, _, _⟩], rfl, rfl, _, fun _ _ _ _ => rfl⟩ ⟨_, rfl, rfl⟩ rfl rfl rfl rfl rfl (by decide +kernel) (by decide +kernel) ⟨by decide +kernel, by decide +kernel, by decide⟩
  x_UnknownModule := errX_of (He.ba (He.ba (He.ba (He.ba (He.ba (He.ba (He.ba (He.ba (He.ba (He.ba (He.ba (He.ba (He.ba (He.ba (He.ba (He.ba (He.ba c.b).2).2).2).2).2).2).2).2).2).2).2).2).2).2).2).2).1
  e_UnknownModule := fun hP => errC_mk hP (c0.e 13 rfl rfl) (He.ba (He.ba (He.ba (He.ba (He.ba (He.ba (He.ba (He.ba (He.ba (He.ba (He.ba (He.ba (He.ba (He.ba (He.ba (He.ba (He.ba c.b).2).2).2).2).2).2).2).2).2).2).2).2).2).2).2).2).1 (He.glo_ok X G (c.d.fact 31 (f := .glo "UnknownModule") rfl)) (He.free_ok X G (c.d.fact 6 (f := .free "super") rfl)) ⟨_, _, _, _, _, _, _, _, [⟨"name", _, _, _, _⟩], rfl, rfl, _, fun _ _ _ _ => rfl⟩ ⟨_, rfl, rfl⟩ rfl rfl rfl rfl rfl (by decide +kernel) (by decide +kernel) ⟨by decide +kernel, by decide +kernel, by decide⟩
  x_InvalidCommand := errX_of (He.ba (He.ba (He.ba (He.ba (He.ba (He.ba (He.ba (He.ba (He.ba (He.ba (He.ba (He.ba (He.ba (He.ba (He.ba (He.ba (He.ba (He.ba c.b).2).2).2).2).2).2).2).2).2).2).2).2).2).2).2).2).2).1
  e_InvalidCommand := fun hP => errC_mk hP (c0.e 14 rfl rfl) (He.ba (He.ba (He.ba (He.ba (He.ba (He.ba (He.ba (He.ba (He.ba (He.ba (He.ba (He.ba (He.ba (He.ba (He.ba (He.ba (He.ba (He.ba c.b).2).2).2).2).2).2).2).2).2).2).2).2).2).2).2).2).2).1 (He.glo_ok X G (c.d.fact 32 (f := .glo "InvalidCommand") rfl)) (He.free_ok X G (c.d.fact 6 (f := .free "super") rfl)) ⟨_, _, _, _, _, _, _, _, [], rfl, rfl, _, fun _ _ _ _ => rfl⟩ ⟨_, rfl, rfl⟩ rfl rfl rfl rfl rfl (by decide +kernel) (by decide +kernel) ⟨by decide +kernel, by decide +kernel, by decide⟩
  x_NoImage := errX_of (He.ba (He.ba (He.ba (He.ba (He.ba (He.ba (He.ba (He.ba (He.ba (He.ba (He.ba (He.ba (He.ba (He.ba (He.ba (He.ba (He.ba (He.ba (He.ba c.b).2).2).2).2).2).2).2).2).2).2).2).2).2).2).2).2).2).2).1
  e_NoImage := fun hP => errC_mk hP (c0.e 15 rfl rfl) (He.ba (He.ba (He.ba (He.ba (He.ba (He.ba (He.ba (He.ba (He.ba (He.ba (He.ba (He.ba (He.ba (He.ba (He.ba (He.ba (He.ba (He.ba (He.ba c.b).2).2).2).2).2).2).2).2).2).2).2).2).2).2).2).2).2).2).1 (He.glo_ok X G (c.d.fact 33 (f := .glo "NoImage") rfl)) (He.free_ok X G (c.d.fact 6 (f := .free "super") rfl)) ⟨_, _, _, _, _, _, _, _, [], rfl, rfl, _, fun _ _ _ _ => rfl⟩ ⟨_, rfl, rfl⟩ rfl rfl rfl rfl rfl (by decide +kernel) (by decide +kernel) ⟨by decide +kernel, by decide +kernel, by decide⟩
  n_ValueError := He.free_ok X G (c.d.fact 0 (f := .free "ValueError") rfl)
  n_isinstance := He.free_ok X G (c.d.fact 1 (f := .free "isinstance") rfl)
  n_len := He.free_ok X G (c.d.fact 2 (f := .free "len") rfl)
  n_list := He.free_ok X G (c.d.fact 3 (f := .free "list") rfl)
  n_range := He.free_ok X G (c.d.fact 4 (f := .free "range") rfl)
  n_repr := He.free_ok X G (c.d.fact 5 (f := .free "repr") rfl)
  n_super := He.free_ok X G (c.d.fact 6 (f := .free "super") rfl)
  n_tuple := He.free_ok X G (c.d.fact 7 (f := .free "tuple") rfl)
  g := by
    refine glos X G (l := gnames) ?_
    intro x hx
    obtain ⟨i, hi⟩ := List.getElem?_of_mem hx
    have e : fa[8 + i]? = some (He.Fa.glo x) := by
      have : (gnames.map He.Fa.glo)[i]? = some (He.Fa.glo x) := by rw [List.getElem?_map, hi]; rfl
      have h2 : fa.drop 8 = gnames.map He.Fa.glo := rfl
      rw [← h2, List.getElem?_drop] at this
      exact this
    exact c.d.fact (8 + i) e
theorem txt {w : World} {K : PySem.W.Frag} {h : Heap} {mg : Str → Option Value} (X : K.In h) (G : h.Ns mainGlobals mg) (c : SaysE file fa fn ts bx es ev w K) : Txt w K mg := txt0 X G c.s c
end K01

set_option maxHeartbeats 4000000
namespace K01
open PySem PySem.Spec PyProof.Rows L2 HG
/-! ### the deck: a dict of four -/
abbrev kC : Key := Sum.inr "cells"
abbrev kL : Key := Sum.inr "left"
abbrev kM : Key := Sum.inr "mixed"
abbrev kT : Key := Sum.inr "turn"
def deckD (c : Addr) (l m t : Int) : List (Key × V) := [(kC, .ref c), (kL, .int l), (kM, .int m), (kT, .int t)]
structure Deck (d c : Addr) (n : Nat) (H : Hp) : Prop where
  ex : ∃ (ns : List Int) (l m t : Int), H d = some (.dK (deckD c l m t)) ∧ H c = some (.lst (ns.map V.int)) ∧ 0 ≤ l ∧ 0 ≤ t ∧ t ≤ n ∧ ns.length ≤ 63
theorem Deck.up {d c : Addr} {n m : Nat} {H : Hp} (D : Deck d c n H) (h : n ≤ m) : Deck d c m H := by
  obtain ⟨ns, l, x, t, h1, h2, h3, h4, h5, h6⟩ := D.ex
  exact ⟨ns, l, x, t, h1, h2, h3, h4, by omega, h6⟩
theorem Deck.ne {d c : Addr} {n : Nat} {H : Hp} (D : Deck d c n H) : d ≠ c := by
  obtain ⟨ns, l, x, t, h1, h2, _⟩ := D.ex
  exact ne_of h1 h2 (by intro z; cases z)
section
variable {H : Hp} {d c : Addr} {l m t : Int}
theorem get_c (h : H d = some (.dK (deckD c l m t))) : DGet H d (.str "cells") (some (.ref c)) := DGet.k (k := kC) h
theorem get_l (h : H d = some (.dK (deckD c l m t))) : DGet H d (.str "left") (some (.int l)) := DGet.k (k := kL) h
theorem get_m (h : H d = some (.dK (deckD c l m t))) : DGet H d (.str "mixed") (some (.int m)) := DGet.k (k := kM) h
theorem get_t (h : H d = some (.dK (deckD c l m t))) : DGet H d (.str "turn") (some (.int t)) := DGet.k (k := kT) h
theorem put_l {x : Int} (h : H d = some (.dK (deckD c l m t))) : DPut H d (.str "left") (.int x) (upd H d (.dK (deckD c x m t))) := DPut.k (k := kL) h (by show 4 < sizeLine; decide)
theorem put_t {x : Int} (h : H d = some (.dK (deckD c l m t))) : DPut H d (.str "turn") (.int x) (upd H d (.dK (deckD c l m x))) := DPut.k (k := kT) h (by show 4 < sizeLine; decide)
end
section
variable {P : Program} {w : World} {K : PySem.W.Frag} {mg : Str → Option Value} {base : Heap}
/-! ### _law_draw -/
def spDraw : Sp := fun vs H Q _ => ∃ (d c : Addr) (n : Nat) (many : Int), vs = [.ref d, .int many] ∧ 0 < many ∧ many < 10 ^ 40 ∧ n < 2 ^ 60 ∧ Deck d c n H ∧
  ∀ (r : Int) (H' : Hp), 0 ≤ r → r < many → Deck d c (n + 1) H' → Ext d c H H' → Q (.int r) H'
theorem many_small {many : Int} (h0 : 0 < many) (h : many < 10 ^ 40) : many.natAbs < 2 ^ 200 := by
  have e : (10 : Int) ^ 40 < 2 ^ 200 := by decide
  omega
theorem mod_small (x : Int) : -(2 ^ 64) < x % 2147483647 ∧ x % 2147483647 < 2 ^ 64 := by
  have h1 := Int.emod_nonneg x (show (2147483647 : Int) ≠ 0 by decide)
  have h2 := Int.emod_lt_of_pos x (show (0 : Int) < 2147483647 by decide)
  omega
theorem ix0 (n : Nat) : seqIndex? 0 (n + 1) = some 0 := by
  unfold seqIndex?
  simp
theorem ok_draw (T : Txt w K mg) : ∃ fd, FnOk P w K mg base CX0 1 (He.ga K "_law_draw") fd ["_law_deck_here", "_law_many"] spDraw ∧ Binds K fd ["_law_deck_here", "_law_many"] [] := by
  obtain ⟨fd, F⟩ := T.d__law_draw
  refine ⟨fd, F.ok sc__law_draw (fun vs H Q E h => ?_) (fun cdv A outer s H vs Q E hr h => ?_), F.bindsN fun _ _ _ _ _ _ us hl => match us, hl with | [_, _], _ => rfl⟩
  · obtain ⟨d, c, n, many, rfl, _⟩ := h
    rfl
  obtain ⟨d, c, n, many, rfl, hm0, hm1, hn, D, q⟩ := h
  obtain ⟨ns, l, m, t, hd, hc, hl, ht, htn, hns⟩ := D.ex
  have hu := hu_of hr
  have ndc := D.ne
  have wd : CDivW l many := wide_div hm0 (many_small hm0 hm1) (by decide) (by decide)
  refine ⟨_, PSs.nox (pss_cons (ps_if (pt_cmpR op_gt (pe_dget hu (pv 0) pe_str (fun _ _ => rfl)) pe_int (nomark _)) (pss_cons (ps_set (i := 2) sc__law_draw.nd rfl (.inl rfl) (pe_op op_mod (pe_dget hu (pv 0) pe_str (fun _ _ => rfl)) (pv 1)))
      (pss_cons (ps_dput hu (pv 0) pe_str (pe_op op_fdivW (pe_dget hu (pv 0) pe_str (fun _ _ => rfl)) (pv 1)) rfl)
      (pss_one (ps_ret (pv 2))))) pss_nil)
      (pss_cons (ps_set (i := 3) sc__law_draw.nd rfl (.inl rfl) (pe_op op_add (pe_dget hu (pv 0) pe_str (fun _ _ => rfl)) pe_int))
      (pss_cons (ps_dput hu (pv 0) pe_str (pv 3) rfl)
      (pss_cons (ps_set (i := 4) sc__law_draw.nd rfl (.inl rfl) (pe_dget hu (pv 0) pe_str (fun _ _ => rfl)))
      (pss_cons (ps_if (pt_cmpR (op_neD hr.units) (pe_dget hu (pv 0) pe_str (fun _ _ => rfl)) (pe_lst pa_nil) (nomark _)) (pss_cons (ps_set (i := 4) sc__law_draw.nd rfl (.inl rfl) (pe_bm PySem.F.plainAttrs_list PySem.F.slot_list_pop PySem.F.type_list_pop mt_popAt (pe_dget hu (pv 0) pe_str (fun _ _ => rfl)) (pa_cons pe_int pa_nil)))
      (pss_cons (ps_if (pt_cmpR op_ge (pv 4) (pe_op op_pow pe_int pe_int) (nomark _)) (pss_cons (ps_dput hu (pv 0) pe_str (pe_op op_fdivW (pv 4) (pv 1)) rfl)
      (pss_one (ps_ret (pe_op op_mod (pv 4) (pv 1))))) pss_nil)
      (pss_one (ps_set (i := 4) sc__law_draw.nd rfl (.inl rfl) (pe_op op_add (pv 4) (pe_dget hu (pv 0) pe_str (fun _ _ => rfl))))))) pss_nil)
      (pss_cons (ps_set (i := 5) sc__law_draw.nd rfl (.inl rfl) (pe_op op_mod (pe_op op_mul (pe_op op_add (pe_op op_add (pe_op op_mod (pv 4) pe_int) (pe_op op_mul (pe_op op_mul pe_int (pv 3)) (pv 3))) pe_int) pe_int) pe_int))
      (pss_cons (ps_set (i := 5) sc__law_draw.nd rfl (.inl rfl) (pe_op op_mod (pe_op op_add (pe_op op_add (pe_op op_mul (pv 5) (pv 5)) (pe_op op_mul pe_int (pv 3))) pe_int) pe_int))
      (pss_one (ps_ret (pe_op op_mod (pe_op op_fdiv (pe_op op_mod (pe_op op_mul (pv 5) pe_int) pe_int) pe_int) (pv 1))))))))))), ?_⟩
  -- if left > 0
  refine ⟨.ref d, rfl, d, .int l, rfl, get_l hd, l, 0, rfl, rfl, _, rfl, ite2 (fun e => ?_) (fun e => ?_)⟩
  · refine ⟨.ref d, rfl, d, .int l, rfl, get_l hd, .int many, rfl, l, many, rfl, rfl, hm0, ?_⟩
    refine ⟨.ref d, rfl, d, .int l, rfl, get_l hd, .int many, rfl, l, many, rfl, rfl, wd, .ref d, rfl, d, _, rfl, put_l hd, ?_⟩
    refine ⟨.int (l % many), rfl, q _ _ (Int.emod_nonneg _ (by omega)) (Int.emod_lt_of_pos _ hm0) ⟨ns, l / many, m, t, upd_same, ?_, Int.ediv_nonneg hl (by omega), ht, by omega, hns⟩ Ext.d⟩
    rw [upd_ne ndc.symm]; exact hc
  -- turn = deck['turn'] + 1; deck['turn'] = turn; cell = deck['mixed']
  refine ⟨.ref d, rfl, d, .int t, rfl, get_t hd, t, 1, rfl, rfl, ?_⟩
  refine ⟨.int (t + 1), rfl, .ref d, rfl, d, _, rfl, put_t hd, ?_⟩
  have hd1 : (upd H d (.dK (deckD c l m (t + 1)))) d = some (.dK (deckD c l m (t + 1))) := upd_same
  have hc1 : (upd H d (.dK (deckD c l m (t + 1)))) c = some (.lst (ns.map V.int)) := by rw [upd_ne ndc.symm]; exact hc
  have x1 : Ext d c H (upd H d (.dK (deckD c l m (t + 1)))) := Ext.d
  generalize upd H d (.dK (deckD c l m (t + 1))) = H1 at hd1 hc1 x1 ⊢
  refine ⟨.ref d, rfl, d, .int m, rfl, get_m hd1, ?_⟩
  -- if deck['cells'] != []
  refine ⟨.ref d, rfl, d, .ref c, rfl, get_c hd1, Nat.zero_le _, fun p hp => ?_⟩
  have hd2 := upd_get (o := .lst []) hp hd1
  have hc2 := upd_get (o := .lst []) hp hc1
  have x2 : Ext d c H (upd H1 p (.lst [])) := x1.trans (Ext.new hp)
  have hp2 : (upd H1 p (.lst [])) p = some (.lst []) := upd_same
  generalize upd H1 p (.lst []) = H2 at hd2 hc2 x2 hp2 ⊢
  refine ⟨.list (ns.map PyData.int), .list [], .lst (.inl (.inl hc2)) (dpInts ns), .lst (.inl (.inl hp2)) .nil, shaped_ints ns, shaped_ints [], _, rfl, ?_⟩
  have dk : ∀ (H3 : Hp) (ns' : List Int) (l' : Int), H3 d = some (.dK (deckD c l' m (t + 1))) → H3 c = some (.lst (ns'.map V.int)) → 0 ≤ l' → ns'.length ≤ 63 → Deck d c (n + 1) H3 :=
    fun H3 ns' l' a1 a2 a3 a4 => ⟨ns', l', m, t + 1, a1, a2, a3, by omega, by omega, a4⟩
  cases ns with
  | nil =>
    refine iteF ?_
    generalize m = cell at hd2 dk ⊢
    have D2 := dk H2 [] l hd2 hc2 hl hns
    refine ⟨.int cell, rfl, cell, _, rfl, rfl, (by decide : (0 : Int) < 2147483629), .int (t + 1), rfl, _, _, rfl, rfl, .inl ⟨by decide, by decide⟩, .int (t + 1), rfl, _, _, rfl, rfl, .inr ⟨by omega, by omega⟩, _, _, rfl, rfl, _, _, rfl, rfl, _, _, rfl, rfl, .inr ⟨by decide, by decide⟩, _, _, rfl, rfl, (by decide : (0 : Int) < 2147483647), ?_⟩
    refine ⟨_, rfl, _, rfl, _, _, rfl, rfl, .inl (mod_small _), .int (t + 1), rfl, _, _, rfl, rfl, .inl ⟨by decide, by decide⟩, _, _, rfl, rfl, _, _, rfl, rfl, _, _, rfl, rfl, (by decide : (0 : Int) < 2147483587), ?_⟩
    refine ⟨_, rfl, _, _, rfl, rfl, .inr ⟨by decide, by decide⟩, _, _, rfl, rfl, (by decide : (0 : Int) < 2147483563), _, _, rfl, rfl, ⟨by decide, by decide⟩, .int many, rfl, _, _, rfl, rfl, hm0, ?_⟩
    exact q _ _ (Int.emod_nonneg _ (by omega)) (Int.emod_lt_of_pos _ hm0) D2 x2
  | cons x r =>
    refine iteT ?_
    -- cell = deck['cells'].pop(0)
    refine ⟨.ref d, rfl, d, .ref c, rfl, get_c hd2, .inl ⟨rfl, _, .inl (.inl hc2)⟩, c, _, 0, 0, .int x, rfl, rfl, hc2, by decide, by decide, ix0 _, rfl, ?_⟩
    generalize eH : upd H2 c (.lst (((x :: r).map V.int).eraseIdx 0)) = H3
    have hd3 : H3 d = some (.dK (deckD c l m (t + 1))) := by rw [← eH, upd_ne ndc]; exact hd2
    have hc3 : H3 c = some (.lst (r.map V.int)) := by rw [← eH]; exact upd_same
    have x3 : Ext d c H H3 := by rw [← eH]; exact x2.trans Ext.c
    have hr1 : r.length ≤ 63 := by rw [List.length_cons] at hns; omega
    refine ⟨.int x, rfl, _, _, rfl, rfl, ⟨by decide, by decide, by decide⟩, _, _, rfl, rfl, _, rfl, ite2 (fun e1 => ?_) (fun e1 => ?_)⟩
    · have hx : (10 : Int) ^ 18 ≤ x := of_decide_eq_true e1
      have h10 : (0 : Int) < 10 ^ 18 := by decide
      have wx : CDivW x many := wide_div hm0 (many_small hm0 hm1) (by decide) (by decide)
      refine ⟨.int x, rfl, .int many, rfl, x, many, rfl, rfl, wx, .ref d, rfl, d, _, rfl, put_l hd3, ?_⟩
      refine ⟨.int x, rfl, .int many, rfl, x, many, rfl, rfl, hm0, ?_⟩
      refine q _ _ (Int.emod_nonneg _ (by omega)) (Int.emod_lt_of_pos _ hm0) (dk _ r (x / many) upd_same ?_ (Int.ediv_nonneg (by omega) (by omega)) hr1) (x3.trans Ext.d)
      rw [upd_ne ndc.symm]; exact hc3
    refine ⟨.int x, rfl, .ref d, rfl, d, .int m, rfl, get_m hd3, x, m, rfl, rfl, ?_⟩
    have D3 := dk H3 r l hd3 hc3 hl hr1
    refine ⟨.int (x + m), rfl, x + m, _, rfl, rfl, (by decide : (0 : Int) < 2147483629), .int (t + 1), rfl, _, _, rfl, rfl, .inl ⟨by decide, by decide⟩, .int (t + 1), rfl, _, _, rfl, rfl, .inr ⟨by omega, by omega⟩, _, _, rfl, rfl, _, _, rfl, rfl, _, _, rfl, rfl, .inr ⟨by decide, by decide⟩, _, _, rfl, rfl, (by decide : (0 : Int) < 2147483647), ?_⟩
    refine ⟨_, rfl, _, rfl, _, _, rfl, rfl, .inl (mod_small _), .int (t + 1), rfl, _, _, rfl, rfl, .inl ⟨by decide, by decide⟩, _, _, rfl, rfl, _, _, rfl, rfl, _, _, rfl, rfl, (by decide : (0 : Int) < 2147483587), ?_⟩
    refine ⟨_, rfl, _, _, rfl, rfl, .inr ⟨by decide, by decide⟩, _, _, rfl, rfl, (by decide : (0 : Int) < 2147483563), _, _, rfl, rfl, ⟨by decide, by decide⟩, .int many, rfl, _, _, rfl, rfl, hm0, ?_⟩
    exact q _ _ (Int.emod_nonneg _ (by omega)) (Int.emod_lt_of_pos _ hm0) D3 x3
end
theorem Deck.upd {d c p : Addr} {n : Nat} {H : Hp} {o : HO} (D : Deck d c n H) (h1 : p ≠ d) (h2 : p ≠ c) : Deck d c n (upd H p o) := by
  obtain ⟨ns, l, m, t, e1, e2, r⟩ := D.ex
  exact ⟨ns, l, m, t, by rw [upd_ne h1.symm]; exact e1, by rw [upd_ne h2.symm]; exact e2, r⟩
theorem Deck.has {d c p : Addr} {n : Nat} {H : Hp} (D : Deck d c n H) (hp : H p = none) : p ≠ d ∧ p ≠ c := by
  obtain ⟨ns, l, m, t, e1, e2, r⟩ := D.ex
  exact ⟨(ne_of_none e1 hp).symm, (ne_of_none e2 hp).symm⟩
theorem Deck.new {d c p : Addr} {n : Nat} {H : Hp} {o : HO} (D : Deck d c n H) (hp : H p = none) : Deck d c n (L2.upd H p o) := D.upd (D.has hp).1 (D.has hp).2
theorem cut_to (xs : List V) (k : Nat) : cutV xs none (some (k : Int)) = xs.take k := by
  unfold cutV
  rw [HT.sIx_none, HT.sIx_nat, Nat.sub_zero, List.drop_zero]
  by_cases h : k ≤ xs.length
  · rw [Nat.min_eq_left h]
  · rw [Nat.min_eq_right (by omega), List.take_length, List.take_of_length_le (by omega)]
theorem cut63 {ns : List Int} (h : ns.length ≤ 63) : cutV (ns.map V.int) none (some 63) = ns.map V.int := by
  have e := cut_to (ns.map V.int) 63
  rw [List.take_of_length_le (by rw [List.length_map]; exact h)] at e
  exact e
section
variable {P : Program} {w : World} {K : PySem.W.Frag} {mg : Str → Option Value} {base : Heap}
/-! ### _law_deck -/
def spDeck (K : PySem.W.Frag) : Sp := fun vs H Q _ => ∃ (a : Addr) (ns : List Int), vs = [.ref a] ∧ SqL K H a (ns.map V.int) ∧ ns.length ≤ 63 ∧
  ∀ (d c : Addr) (H' : Hp), H d = none → H c = none → Same H H' → Deck d c 0 H' → Q (.ref d) H'
theorem ok_deck (T : Txt w K mg) : ∃ fd, FnOk P w K mg base CX0 1 (He.ga K "_law_deck") fd ["_law_script"] (spDeck K) ∧ Binds K fd ["_law_script"] [] := by
  obtain ⟨fd, F⟩ := T.d__law_deck
  refine ⟨fd, F.ok sc__law_deck (fun vs H Q E h => ?_) (fun cdv A outer s H vs Q E hr h => ?_), F.bindsN fun _ _ _ _ _ _ us hl => match us, hl with | [_], _ => rfl⟩
  · obtain ⟨a, ns, rfl, _⟩ := h
    rfl
  obtain ⟨a, ns, rfl, hS, hn, q⟩ := h
  refine ⟨_, PSs.nox (pss_cons (ps_set (i := 1) sc__law_deck.nd rfl (.inl rfl) pe_int)
      (pss_cons (ps_for PassesOwn.never rfl (pi_list (pe_slice sl_list (pv 0) po_none (po_some pe_int))) (pg_name (i := 2) sc__law_deck.nd rfl (.inl rfl)) (pss_one (ps_set (i := 1) sc__law_deck.nd rfl (.inl rfl) (pe_op op_mod (pe_op op_add (pe_op op_add (pe_op op_mul (pv 1) pe_int) (pe_op op_mod (pv 2) pe_int)) pe_int) pe_int))))
      (pss_one (ps_ret (pe_disp (pps_cons pe_str (pe_callTy call_list_of (by rfl) T.n_list (by decide +kernel) (pa_cons (pe_slice sl_list (pv 0) po_none (po_some pe_int)) pa_nil)) (pps_cons pe_str pe_int (pps_cons pe_str (pv 1) (pps_cons pe_str pe_int pps_nil)))) (by rfl) (by rfl) (fun z => by cases z) (by decide)))))), ?_⟩
  -- mixed = 70001; for cell in script[:63]
  refine ⟨.ref a, rfl, 63, rfl, a, _, rfl, hS, fun p hp => ?_⟩
  rw [cut63 hn]
  have s1 : Same H (upd H p (.lst (ns.map V.int))) := fun b o h => upd_get hp h
  have h1 : (upd H p (.lst (ns.map V.int))) p = some (.lst (ns.map V.int)) := upd_same
  generalize upd H p (.lst (ns.map V.int)) = H1 at s1 h1 ⊢
  refine ⟨p, rfl, ⟨_, .inl (.inl h1)⟩, for_list (xs := ns.map V.int) (fun i σ H2 => ∃ m y, σ = [some (.ref a), some (.int m), y] ∧ -(2 ^ 64) < m ∧ m < 2 ^ 64 ∧ H2 = H1) ⟨70001, none, rfl, by decide, by decide, rfl⟩ ?_ ?_ ?_⟩
  · rintro i σ H2 _ ⟨m, y, rfl, _, _, rfl⟩
    exact .inl (.inl h1)
  · rintro i x σ H2 hx ⟨m, y, rfl, hm1, hm2, rfl⟩
    obtain ⟨z, hz, rfl⟩ : ∃ z : Int, True ∧ x = .int z := by
      rw [List.getElem?_map] at hx
      cases e : ns[i]? with
      | none => rw [e] at hx; cases hx
      | some z => rw [e] at hx; cases hx; exact ⟨z, trivial, rfl⟩
    refine ⟨.int m, rfl, _, _, rfl, rfl, .inl ⟨hm1, hm2⟩, .int z, rfl, _, _, rfl, rfl, (by decide : (0 : Int) < 2147483629), _, _, rfl, rfl, _, _, rfl, rfl, _, _, rfl, rfl, (by decide : (0 : Int) < 2147483587), ?_⟩
    refine ⟨_, some (.int z), rfl, ?_, ?_, rfl⟩
    · have := Int.emod_nonneg (m * 48271 + z % 2147483629 + 19) (show (2147483587 : Int) ≠ 0 by decide)
      show -(2 ^ 64) < (m * 48271 + z % 2147483629 + 19) % 2147483587
      omega
    · have := Int.emod_lt_of_pos (m * 48271 + z % 2147483629 + 19) (show (0 : Int) < 2147483587 by decide)
      show (m * 48271 + z % 2147483629 + 19) % 2147483587 < 2 ^ 64
      omega
  · rintro σ H2 ⟨m, y, rfl, hm1, hm2, rfl⟩
    -- the dict
    intro d hd
    have s2 : Same H2 (upd H2 d (.dK [])) := fun b o h => upd_get hd h
    have h2 : (upd H2 d (.dK [])) d = some (.dK []) := upd_same
    generalize upd H2 d (.dK []) = H3 at s2 h2 ⊢
    refine ⟨.ref a, rfl, 63, rfl, a, _, rfl, s2.seq (s1.seq hS), fun p3 hp3 => ?_⟩
    rw [cut63 hn]
    have s3 : Same H3 (upd H3 p3 (.lst (ns.map V.int))) := fun b o h => upd_get hp3 h
    have h3 : (upd H3 p3 (.lst (ns.map V.int))) p3 = some (.lst (ns.map V.int)) := upd_same
    generalize upd H3 p3 (.lst (ns.map V.int)) = H4 at s3 h3 ⊢
    refine ⟨p3, _, rfl, .inl (.inl (.inl h3)), fun c hc => ?_⟩
    have s4 : Same H4 (upd H4 c (.lst (ns.map V.int))) := fun b o h => upd_get hc h
    have h4 : (upd H4 c (.lst (ns.map V.int))) c = some (.lst (ns.map V.int)) := upd_same
    generalize upd H4 c (.lst (ns.map V.int)) = H5 at s4 h4 ⊢
    have hd5 : H5 d = some (.dK []) := s4 _ _ (s3 _ _ h2)
    refine ⟨.int m, rfl, hd5, [(kC, .ref c), (kL, .int 0), (kM, .int m), (kT, .int 0)], rfl, (by show 4 ≤ 15; decide), ?_⟩
    have hdH : H d = none := s1.free hd
    have ndc : c ≠ d := fun z => by rw [z, hd5] at h4; cases h4
    refine q d c _ hdH (s1.free (s2.free (s3.free hc))) (fun b o h => ?_) ⟨ns, 0, m, 0, upd_same, ?_, by decide, by decide, by decide, hn⟩
    · rw [upd_ne (ne_of_none h hdH)]
      exact s4 _ _ (s3 _ _ (s2 _ _ (s1 _ _ h)))
    · rw [upd_ne ndc]
      exact h4
/-! ### _law_pick -/
def spPick (K : PySem.W.Frag) : Sp := fun vs H Q _ => ∃ (d c : Addr) (n : Nat) (x : V), vs = [.ref d, x] ∧ n < 2 ^ 60 ∧ Deck d c n H ∧
  ((∃ z : Str, x = .str z ∧ 0 < z.length ∧ z.length ≤ 1000 ∧ ∀ (ch : Nat) (H' : Hp), ch ∈ cp z → Deck d c (n + 1) H' → Ext d c H H' → Q (.str ⟨#[ch]⟩) H') ∨
   ∃ (a : Addr) (xs : List V), x = .ref a ∧ SqL K (off d c H) a xs ∧ 0 < xs.length ∧ xs.length ≤ 1000 ∧ ∀ (y : V) (H' : Hp), y ∈ xs → Deck d c (n + 1) H' → Ext d c H H' → Q y H')
theorem ok_pick (T : Txt w K mg) : ∃ fd, FnOk P w K mg base CX0 2 (He.ga K "_law_pick") fd ["_law_deck_here", "_law_some"] (spPick K) ∧ Binds K fd ["_law_deck_here", "_law_some"] [] := by
  obtain ⟨fd, F⟩ := T.d__law_pick
  have C__law_draw : Cal P w K mg base "_law_draw" 1 _ spDraw := ⟨ok_draw T, T.g _ (by decide), by obtain ⟨fd, F⟩ := T.d__law_draw; exact F.kp⟩
  refine ⟨fd, F.ok sc__law_pick (fun vs H Q E h => ?_) (fun cdv A outer s H vs Q E hr h => ?_), F.bindsN fun _ _ _ _ _ _ us hl => match us, hl with | [_, _], _ => rfl⟩
  · obtain ⟨d, c, n, x, rfl, _⟩ := h
    rfl
  obtain ⟨d, c, n, x, rfl, hn, D, h⟩ := h
  refine ⟨_, PSs.nox (pss_one (ps_ret (pe_ix ix_seq (pv 1) (pe_cal C__law_draw (hr.mono (by omega)) (by rfl) (pa_cons (pv 0) (pa_cons (pe_callB call_len (by rfl) T.n_len (by decide +kernel) (pa_cons (pv 1) pa_nil)) pa_nil))) (fun _ _ => rfl)))), ?_⟩
  rcases h with ⟨z, rfl, h0, h1, q⟩ | ⟨a, xs, rfl, hS, h0, h1, q⟩
  · have hz : z.length ≤ sizeLine := Nat.le_trans h1 (by decide)
    refine ⟨.str z, rfl, .ref d, rfl, .str z, rfl, .str z, z.length, rfl, ⟨hz, rfl⟩, d, c, n, z.length, rfl, by omega, ?_, hn, D, fun r H' r0 r1 D' X => ?_⟩
    · have : (1000 : Int) < 10 ^ 40 := by decide
      omega
    · obtain ⟨j, rfl⟩ := Int.eq_ofNat_of_zero_le r0
      have hj : j < (cp z).length := by rw [cp_len]; omega
      exact .inr (.inr ⟨z, j, (cp z)[j], rfl, rfl, hz, atI_nat (List.getElem?_eq_getElem hj), q _ _ (List.getElem_mem hj) D' X⟩)
  · refine ⟨.ref a, rfl, .ref d, rfl, .ref a, rfl, .ref a, xs.length, rfl, .inl ⟨xs, offL hS, rfl⟩, d, c, n, xs.length, rfl, by omega, ?_, hn, D, fun r H' r0 r1 D' X => ?_⟩
    · have : (1000 : Int) < 10 ^ 40 := by decide
      omega
    · obtain ⟨j, rfl⟩ := Int.eq_ofNat_of_zero_le r0
      have hj : j < xs.length := by omega
      exact .inl ⟨a, xs, j, xs[j], rfl, rfl, offL (X.sqL hS), atI_nat (List.getElem?_eq_getElem hj), q _ _ (List.getElem_mem hj) D' X⟩
end
end K01

set_option maxHeartbeats 4000000
set_option pp.maxSteps 600
namespace K01
open PySem PySem.Spec PyProof.Rows L2 HG
/-! ### how much a value shows -/
structure Sz (m : Nat) (D : PyData) : Prop where
  sh : D.showable = true
  dp : D.depth ≤ m
  ln : D.shown.length ≤ 3000 * 5 ^ m
  as : asc D.shown
theorem pow5 (m : Nat) : 1 ≤ 5 ^ m := Nat.one_le_pow _ _ (by decide)
theorem Sz.up {m n : Nat} {D : PyData} (h : Sz m D) (hn : m ≤ n) : Sz n D :=
  ⟨h.sh, Nat.le_trans h.dp hn, Nat.le_trans h.ln (Nat.mul_le_mul_left _ (Nat.pow_le_pow_right (by decide) hn)), h.as⟩
theorem Sz.non (m : Nat) : Sz m .none := ⟨by simp only [PyData.showable], by simp only [PyData.depth]; omega, by
  have e : (PyData.shown .none).length = 4 := rfl
  have := pow5 m
  omega, by simp only [PyData.shown]; unfold asc; decide +kernel⟩
theorem Sz.bl (m : Nat) (b : Bool) : Sz m (.bool b) := ⟨by simp only [PyData.showable], by simp only [PyData.depth]; omega, by
  have e : (PyData.shown (.bool b)).length ≤ 5 := by cases b <;> decide
  have := pow5 m
  omega, by cases b <;> (simp only [PyData.shown]; unfold asc; decide +kernel)⟩
theorem Sz.str (m : Nat) {z : Str} (h : OkS 25 z) : Sz m (.str z) := ⟨by simp only [PyData.showable], by simp only [PyData.depth]; omega, by
  have e : (PyData.shown (.str z)).length ≤ 252 := by
    simp only [PyData.shown]
    have := h.repr
    omega
  have := pow5 m
  omega, by simp only [PyData.shown]; exact asc_repr h.cps⟩
theorem log_small {i : Int} (h1 : -(10 ^ 40) < i) (h2 : i < 10 ^ 40) : i.natAbs.log2 < 1920 := by
  have h : i.natAbs < 2 ^ 200 := by
    have e : (10 : Int) ^ 40 < 2 ^ 200 := by decide
    omega
  exact Nat.lt_of_lt_of_le (PySem.Flt.log2_lt_of (by decide) h) (by decide)
theorem Sz.int (m : Nat) {i : Int} (h1 : -(10 ^ 40) < i) (h2 : i < 10 ^ 40) : Sz m (.int i) := by
  have hl := log_small h1 h2
  refine ⟨by simp only [PyData.showable]; exact decide_eq_true hl, by simp only [PyData.depth]; omega, ?_, by simp only [PyData.shown]; exact asc_int i⟩
  have e := int_text_len_1921 hl
  have := pow5 m
  simp only [PyData.shown]
  omega
theorem sz_all {m : Nat} : ∀ {ds : List PyData}, (∀ d ∈ ds, Sz m d) → PyData.showableAll ds = true ∧ PyData.depthAll ds ≤ m ∧ ((PyData.shownAll ds).map (·.length)).sum ≤ ds.length * (3000 * 5 ^ m) ∧ (PyData.shownAll ds).length = ds.length
  | [], _ => ⟨by simp only [PyData.showableAll], by simp only [PyData.depthAll]; omega, by simp only [PyData.shownAll, List.map_nil, List.sum_nil]; omega, by simp only [PyData.shownAll, List.length_nil]⟩
  | d :: ds, h => by
    obtain ⟨a, b, c, e⟩ := sz_all (ds := ds) fun x hx => h x (List.mem_cons_of_mem _ hx)
    have q := h d List.mem_cons_self
    have q1 := q.sh
    have q2 := q.dp
    have q3 := q.ln
    refine ⟨by simp only [PyData.showableAll, q1, a, Bool.and_self], by simp only [PyData.depthAll]; omega, ?_, by simp only [PyData.shownAll, List.length_cons, e]⟩
    simp only [PyData.shownAll, List.map_cons, List.sum_cons, List.length_cons]
    rw [Nat.add_mul, Nat.one_mul]
    omega
theorem sz_list {m : Nat} {ds : List PyData} (h : ∀ d ∈ ds, Sz m d) (hl : ds.length ≤ 3) : Sz (m + 1) (.list ds) := by
  obtain ⟨a, b, c, e⟩ := sz_all h
  have h3 := listText_len_le (PyData.shownAll ds)
  have p := pow5 m
  have hc : ds.length * (3000 * 5 ^ m) ≤ 3 * (3000 * 5 ^ m) := Nat.mul_le_mul_right _ hl
  refine ⟨by simp only [PyData.showable, a], by simp only [PyData.depth]; omega, ?_, by simp only [PyData.shown]; exact asc_list (asc_all fun d hd => (h d hd).as)⟩
  simp only [PyData.shown]
  rw [Nat.pow_succ]
  omega
theorem sz_tuple {m : Nat} {ds : List PyData} (h : ∀ d ∈ ds, Sz m d) (hl : ds.length ≤ 3) : Sz (m + 1) (.tuple ds) := by
  obtain ⟨a, b, c, e⟩ := sz_all h
  have h3 := tupleText_len_le (PyData.shownAll ds)
  have p := pow5 m
  have hc : ds.length * (3000 * 5 ^ m) ≤ 3 * (3000 * 5 ^ m) := Nat.mul_le_mul_right _ hl
  refine ⟨by simp only [PyData.showable, a], by simp only [PyData.depth]; omega, ?_, by simp only [PyData.shown]; exact asc_tuple (asc_all fun d hd => (h d hd).as)⟩
  simp only [PyData.shown]
  rw [Nat.pow_succ]
  omega
theorem ite_two {σ : L2.St} {H : Hp} {Q : VK} {b : Bool} {i j : Int} (h : ∀ m : Int, (b = true ∧ m = i ∨ b = false ∧ m = j) → Q (.int m) H) : if b = true then tC (.int i) σ H Q else tC (.int j) σ H Q := by
  cases b with
  | true => exact iteT (h i (.inl ⟨rfl, rfl⟩))
  | false => exact iteF (h j (.inr ⟨rfl, rfl⟩))
theorem pickV {a b : V} {i : Int} (h : i = 0 ∨ i = 1) : ∃ m : V, atI [a, b] i = some m ∧ (m = a ∨ m = b) := by
  rcases h with rfl | rfl
  · exact ⟨a, rfl, .inl rfl⟩
  · exact ⟨b, rfl, .inr rfl⟩
theorem grow {d c : Addr} {n : Nat} {H H' : Hp} (X : Ext d c H H') (D : Deck d c n H') {b : Addr} (h : H' b = none) : H b = none := by
  obtain ⟨ns, l, m, t, e1, e2, r⟩ := D.ex
  by_cases b1 : b = d
  · subst b1; rw [e1] at h; cases h
  by_cases b2 : b = c
  · subst b2; rw [e2] at h; cases h
  cases q : H b with
  | none => rfl
  | some o => rw [X.at b1 b2 q] at h; cases h
section
variable {P : Program} {w : World} {K : PySem.W.Frag} {mg : Str → Option Value} {base : Heap}
theorem c_draw (T : Txt w K mg) : Cal P w K mg base "_law_draw" 1 ["_law_deck_here", "_law_many"] spDraw := ⟨ok_draw T, T.g _ (by decide), by obtain ⟨fd, F⟩ := T.d__law_draw; exact F.kp⟩
def spValue (K : PySem.W.Frag) : Nat → Sp
  | 0 => fun _ _ _ _ => False
  | m + 1 => fun vs H Q _ => ∃ (d c : Addr) (n k : Nat), vs = [.ref d, .int k] ∧ k ≤ m ∧ n + 200 * 4 ^ m < 2 ^ 60 ∧ Deck d c n H ∧
    ∀ (v : V) (D : PyData) (H' : Hp), Dp K (news H H') v D → Sz m D → Deck d c (n + 200 * 4 ^ m) H' → Ext d c H H' → Q v H'
theorem ok_value (T : Txt w K mg) : ∀ m : Nat, ∃ fd, FnOk P w K mg base CX0 (2 + m) (He.ga K "_law_value") fd ["_law_deck_here", "_law_deep"] (spValue K m) ∧ Binds K fd ["_law_deck_here", "_law_deep"] []
  | 0 => by
    obtain ⟨fd, F⟩ := T.d__law_value
    exact ⟨fd, ⟨fun _ _ _ _ h => h.elim, fun _ _ _ _ _ _ _ _ _ _ _ _ _ h => h.elim⟩, F.bindsN fun _ _ _ _ _ _ us hl => match us, hl with | [_, _], _ => rfl⟩
  | m + 1 => by
    have C__law_value : Cal P w K mg base "_law_value" (2 + m) ["_law_deck_here", "_law_deep"] (spValue K m) := ⟨ok_value T m, T.g _ (by decide), by obtain ⟨fd, F⟩ := T.d__law_value; exact F.kp⟩
    have C__law_draw := c_draw (P := P) (w := w) (base := base) T
    obtain ⟨fd, F⟩ := T.d__law_value
    refine ⟨fd, F.ok (k := 2 + m) sc__law_value (fun vs H Q E h => ?_) (fun cdv A outer s H vs Q E hr h => ?_), F.bindsN fun _ _ _ _ _ _ us hl => match us, hl with | [_, _], _ => rfl⟩
    · obtain ⟨d, c, n, k, rfl, _⟩ := h
      rfl
    obtain ⟨d, c, n, k, rfl, hk, hn, dk, q⟩ := h
    have p4 : 1 ≤ 4 ^ m := Nat.one_le_pow _ _ (by decide)
    refine ⟨_, PSs.nox (pss_cons (ps_set (i := 2) sc__law_value.nd rfl (.inl rfl) (pe_cal C__law_draw (hr.mono (by omega)) (by rfl) (pa_cons (pv 0) (pa_cons (pe_ifExp (pt_cmpR op_gt (pv 1) pe_int (nomark _)) pe_int pe_int) pa_nil))))
      (pss_cons (ps_if (pt_cmpR op_lt (pv 2) pe_int (nomark _)) (pss_one (ps_ret (pe_ix ix_list (pe_lst (pa_cons pe_non (pa_cons pe_bl (pa_cons pe_bl (pa_cons pe_int (pa_cons (pe_cal C__law_draw (hr.mono (by omega)) (by rfl) (pa_cons (pv 0) (pa_cons (pe_op op_pow pe_int pe_int) pa_nil))) (pa_cons (pe_op op_sub pe_int (pe_op op_pow pe_int pe_int)) (pa_cons pe_str (pa_cons pe_str (pa_cons pe_str pa_nil)))))))))) (pv 2) (fun _ _ => rfl)))) pss_nil)
      (pss_cons (ps_setLc (i := 3) (own := [("_law_k", 4)]) (by rfl) sc__law_value.nd rfl rfl (sw_true rfl rfl rfl (by decide +kernel)) (pi_range1 (by rfl) T.n_range (pa_cons (pe_cal C__law_draw (hr.mono (by omega)) (by rfl) (pa_cons (pv 0) (pa_cons pe_int pa_nil))) pa_nil)) (blkOk_by (own := [("_law_k", 4)]) (N := N__law_value) (sc := defScope s__law_value) (by decide +kernel)) (fun _ _ _ _ _ => (pg_name (i := 4) sc__law_value.nd rfl (.inl rfl))) (fun _ _ _ _ _ => pts_nil) (fun _ _ _ _ _ => (pe_cal C__law_value (hr.mono (by omega)) (by rfl) (pa_cons (pv 0) (pa_cons (pe_op op_sub (pv 1) pe_int) pa_nil)))))
      (pss_one (ps_ret (pe_ix ix_list (pe_lst (pa_cons (pe_callTy call_tuple_of (by rfl) T.n_tuple (by decide +kernel) (pa_cons (pv 3) pa_nil)) (pa_cons (pv 3) pa_nil))) (pe_op op_sub (pv 2) pe_int) (fun _ _ => rfl))))))), ?_⟩
    refine ⟨.ref d, rfl, .int k, rfl, k, 0, rfl, rfl, _, rfl, ite_two fun many hmany => ?_⟩
    have hm1 : 9 ≤ many ∧ many ≤ 11 := by omega
    refine ⟨d, c, n, many, rfl, by omega, Int.lt_of_le_of_lt hm1.2 (by decide), by omega, dk, fun x H1 x0 x1 dk1 X1 => ?_⟩
    have hk0 : 9 ≤ x → 0 < k := fun z => by
      rcases hmany with ⟨e, _⟩ | ⟨_, e⟩
      · have := of_decide_eq_true e
        omega
      · omega
    refine ⟨.int x, rfl, x, 9, rfl, rfl, _, rfl, ite2 (fun e => ?_) (fun e9 => ?_)⟩
    · have hx9 : x < 9 := of_decide_eq_true e
      refine ⟨.ref d, rfl, 10, 9, rfl, rfl, ⟨by decide, by decide, by decide⟩, d, c, n + 1, _, rfl, by decide, by decide, by omega, dk1, fun r H2 r0 r1 dk2 X2 => ?_⟩
      have r1' : r < 10 ^ 9 := r1
      refine ⟨10, 39, rfl, rfl, ⟨by decide, by decide, by decide⟩, 0, _, rfl, rfl, (by show 9 ≤ sizeLine; decide), fun a ha => ?_⟩
      have X := (X1.trans X2).trans (Ext.new (o := .lst [.non, .bl true, .bl false, .int 0, .int r, .int (0 - 10 ^ 39), .str "", .str "f", .str "m.start"]) ha)
      have hd : Deck d c (n + 200 * 4 ^ m) (upd H2 a (.lst [.non, .bl true, .bl false, .int 0, .int r, .int (0 - 10 ^ 39), .str "", .str "f", .str "m.start"])) := (dk2.new ha).up (by omega)
      have hb : r < 10 ^ 40 := Int.lt_trans r1' (by decide)
      have hxs : x = 0 ∨ x = 1 ∨ x = 2 ∨ x = 3 ∨ x = 4 ∨ x = 5 ∨ x = 6 ∨ x = 7 ∨ x = 8 := by omega
      refine ⟨.int x, rfl, a, [.non, .bl true, .bl false, .int 0, .int r, .int (0 - 10 ^ 39), .str "", .str "f", .str "m.start"], x, ?_⟩
      rcases hxs with rfl | rfl | rfl | rfl | rfl | rfl | rfl | rfl | rfl
      · exact ⟨.non, rfl, rfl, .inl (.inl upd_same), rfl, q _ _ _ .non (Sz.non _) hd X⟩
      · exact ⟨.bl true, rfl, rfl, .inl (.inl upd_same), rfl, q _ _ _ (.bl _) (Sz.bl _ _) hd X⟩
      · exact ⟨.bl false, rfl, rfl, .inl (.inl upd_same), rfl, q _ _ _ (.bl _) (Sz.bl _ _) hd X⟩
      · exact ⟨.int 0, rfl, rfl, .inl (.inl upd_same), rfl, q _ _ _ (.int _) (Sz.int _ (by decide) (by decide)) hd X⟩
      · exact ⟨.int r, rfl, rfl, .inl (.inl upd_same), rfl, q _ _ _ (.int _) (Sz.int _ (by omega) hb) hd X⟩
      · exact ⟨.int (0 - 10 ^ 39), rfl, rfl, .inl (.inl upd_same), rfl, q _ _ _ (.int _) (Sz.int _ (by decide) (by decide)) hd X⟩
      · exact ⟨.str "", rfl, rfl, .inl (.inl upd_same), rfl, q _ _ _ (.str _) (Sz.str _ ⟨by decide +kernel, by decide +kernel⟩) hd X⟩
      · exact ⟨.str "f", rfl, rfl, .inl (.inl upd_same), rfl, q _ _ _ (.str _) (Sz.str _ ⟨by decide +kernel, by decide +kernel⟩) hd X⟩
      · exact ⟨.str "m.start", rfl, rfl, .inl (.inl upd_same), rfl, q _ _ _ (.str _) (Sz.str _ ⟨by decide +kernel, by decide +kernel⟩) hd X⟩
    have hx : x - 9 = 0 ∨ x - 9 = 1 := by
      have a1 : ¬ x < 9 := fun z => e9 (decide_eq_true z)
      omega
    have hkp := hk0 (by omega)
    obtain ⟨m', rfl⟩ : ∃ m', m = m' + 1 := ⟨m - 1, by omega⟩
    have p4' : 1 ≤ 4 ^ m' := Nat.one_le_pow _ _ (by decide)
    have e4 : 4 ^ (m' + 1) = 4 * 4 ^ m' := by rw [Nat.pow_succ, Nat.mul_comm]
    refine ⟨.ref d, rfl, d, c, n + 1, 4, rfl, by decide, by decide, by omega, dk1, fun r H2 r0 r1 dk2 X2 => ⟨r, rfl, by omega, by omega, fun D hD => ?_⟩⟩
    have X12 := X1.trans X2
    have nd := dk2.has hD
    have hDH : H D = none := grow X12 dk2 hD
    refine lc_range (lo := 0) (n := r.toNat) (fun i H3 => ∃ vs ds, vs.length = i ∧ H3 D = some (.lst vs) ∧ DpAll K (news (upd H D (.lst [])) H3) vs ds ∧ (∀ e ∈ ds, Sz m' e) ∧ Deck d c (n + 2 + i * (200 * 4 ^ m')) H3 ∧ Ext d c H H3) ?_ ?_ ?_
    · exact ⟨[], [], rfl, upd_same, .nil, (fun _ h => nomatch h), by rw [Nat.zero_mul]; exact dk2.new hD, X12.trans (Ext.new hD)⟩
    · rintro i H3 hi ⟨vs, ds, hl, hD3, hA, hsz, dk3, X3⟩
      have ek : ((k : Nat) : Int) - 1 = ((k - 1 : Nat) : Int) := by omega
      have hi2 : i < 3 := by omega
      have hib : i * (200 * 4 ^ m') ≤ 2 * (200 * 4 ^ m') := Nat.mul_le_mul_right _ (by omega)
      refine ⟨rfl, tyes ⟨.ref d, rfl, .int k, rfl, k, 1, rfl, rfl, d, c, n + 2 + i * (200 * 4 ^ m'), k - 1, ?_, by omega, by omega, dk3, fun v D2 H4 hv hz dk4 X4 => ?_⟩⟩
      · show [V.ref d, V.int ((k : Int) - 1)] = _
        rw [ek]
      have hD4 := X4.at nd.1 nd.2 hD3
      have s1 : Same (news H3 H4) (news (upd H D (.lst [])) (upd H4 D (.lst (vs ++ [v])))) := fun b o h => by
        obtain ⟨b1, b2⟩ := news_get.mp h
        have nb : b ≠ D := (ne_of_none hD3 b1).symm
        refine news_get.mpr ⟨?_, by rw [upd_ne nb]; exact b2⟩
        rw [upd_ne nb]
        exact grow X3 dk3 b1
      have s2 : Same (news (upd H D (.lst [])) H3) (news (upd H D (.lst [])) (upd H4 D (.lst (vs ++ [v])))) := fun b o h => by
        obtain ⟨b1, b2⟩ := news_get.mp h
        have nb : b ≠ D := fun z => by rw [z, upd_same] at b1; cases b1
        have bH : H b = none := by rw [upd_ne nb] at b1; exact b1
        have nb2 := dk.has bH
        exact news_get.mpr ⟨b1, by rw [upd_ne nb]; exact X4.at nb2.1 nb2.2 b2⟩
      refine ⟨vs, hD4, small1000 (by omega), vs ++ [v], ds ++ [D2], by rw [List.length_append, hl]; rfl, upd_same, dpAll_app (dpAll_mono s2 _ _ hA) (.cons (dp_mono s1 _ _ hv) .nil), fun e he => ?_, ?_, (X3.trans X4).mut hDH⟩
      · rcases List.mem_append.mp he with z | z
        · exact hsz e z
        · rw [List.mem_singleton.mp z]
          exact hz
      · rw [Nat.add_mul, Nat.one_mul, ← Nat.add_assoc]
        exact dk4.upd nd.1 nd.2
    · rintro H3 ⟨vs, ds, hl, hD3, hA, hsz, dk3, X3⟩
      have hr2 : r.toNat ≤ 3 := by omega
      have hib : r.toNat * (200 * 4 ^ m') ≤ 3 * (200 * 4 ^ m') := Nat.mul_le_mul_right _ hr2
      have hdl : ds.length ≤ 3 := by rw [← dpAll_len hA, hl]; exact hr2
      -- [tuple(some), some][way - 7]
      refine ⟨.ref D, rfl, D, vs, rfl, .inl ⟨.inl (.inl hD3), fun l hl1 => ?_⟩⟩
      refine ⟨.ref D, rfl, (by show 2 ≤ sizeLine; decide), fun p hp => ?_⟩
      obtain ⟨mv, hm, h8⟩ := pickV (a := .ref l) (b := .ref D) hx
      refine ⟨.int x, rfl, _, _, rfl, rfl, p, _, _, mv, rfl, rfl, .inl (.inl upd_same), hm, ?_⟩
      have dkl := dk3.new (o := .tup vs) hl1
      have dkp := dkl.new (o := .lst [.ref l, .ref D]) hp
      have Xl : Ext d c H (upd H3 l (.tup vs)) := X3.trans (Ext.new hl1)
      have Xp := Xl.trans (Ext.new (o := .lst [.ref l, .ref D]) hp)
      have hlH : H l = none := grow X3 dk3 hl1
      have lD : D ≠ l := ne_of_none hD3 hl1
      have lp : l ≠ p := fun z => by rw [← z, upd_same] at hp; cases hp
      have Dp' : D ≠ p := fun z => by rw [← z, upd_ne lD, hD3] at hp; cases hp
      have s3 : Same (news (upd H D (.lst [])) H3) (news H (upd (upd H3 l (.tup vs)) p (.lst [.ref l, .ref D]))) := fun b o h => by
        obtain ⟨b1, b2⟩ := news_get.mp h
        have nb : b ≠ D := fun z => by rw [z, upd_same] at b1; cases b1
        rw [upd_ne nb] at b1
        exact news_get.mpr ⟨b1, upd_get hp (upd_get hl1 b2)⟩
      have hA' := dpAll_mono s3 _ _ hA
      rcases h8 with rfl | rfl
      · refine q (.ref l) (.tuple ds) _ (.tup (.inl (.inl (news_get.mpr ⟨hlH, ?_⟩))) hA') (sz_tuple hsz hdl) (dkp.up (by omega)) Xp
        rw [upd_ne lp]
        exact upd_same
      · refine q (.ref D) (.list ds) _ (.lst (.inl (.inl (news_get.mpr ⟨hDH, ?_⟩))) hA') (sz_list hsz hdl) (dkp.up (by omega)) Xp
        exact upd_get hp (upd_get hl1 hD3)
end
end K01

set_option maxHeartbeats 4000000
set_option pp.maxSteps 600
namespace K01
open PySem PySem.Spec PyProof.Rows L2 HG
/-- at a: an error of the class x with the fields l -/
structure ErrV (K : PySem.W.Frag) (H : Hp) (a : Addr) (x : Str) (l : List (Str × V)) : Prop where
  ex : ∃ dxo : Option Addr, H a = some (exo a (He.ga K x) dxo) ∧ (∀ d, dxo = some d → H d = some (exd d l)) ∧ (dxo = none → l = [])
theorem ErrV.mono {K : PySem.W.Frag} {H H' : Hp} {a : Addr} {x : Str} {l : List (Str × V)} (h : ErrV K H a x l) (s : Same H H') : ErrV K H' a x l := by
  obtain ⟨d, h1, h2, h3⟩ := h.ex
  exact ⟨d, s _ _ h1, fun e he => s _ _ (h2 e he), h3⟩
theorem errV_of {K : PySem.W.Frag} {H : Hp} {a dx : Addr} {x : Str} {l : List (Str × V)} (h : dx ≠ a) : ErrV K (errH H a dx (He.ga K x) l) a x l := by
  cases l with
  | nil => exact ⟨none, upd_same, (fun _ z => nomatch z), fun _ => rfl⟩
  | cons p l =>
    refine ⟨some dx, upd_same, fun d hd => ?_, fun z => nomatch z⟩
    cases hd
    show upd (upd H dx (exd dx (p :: l))) a (exo a (He.ga K x) (some dx)) dx = _
    rw [upd_ne h]
    exact upd_same
theorem errH_same {H : Hp} {a dx C : Addr} {l : List (Str × V)} (ha : H a = none) (hd : H dx = none) : Same H (errH H a dx C l) := fun b o h => by
  cases l with
  | nil => exact upd_get ha h
  | cons p l =>
    show upd (upd H dx (exd dx (p :: l))) a (exo a C (some dx)) b = _
    rw [upd_ne (ne_of_none h ha)]
    exact upd_get hd h
section
variable {P : Program} {w : World} {K : PySem.W.Frag} {mg : Str → Option Value} {base : Heap}
theorem exx (T : Txt w K mg) : ∀ x ∈ es, ExcC K (He.ga K x) := by
  intro x hx
  unfold es at hx
  simp only [List.mem_cons, List.not_mem_nil, or_false] at hx
  rcases hx with rfl | rfl | rfl | rfl | rfl | rfl | rfl | rfl | rfl | rfl | rfl | rfl | rfl | rfl | rfl | rfl
  · exact T.x_InvalidText.ex
  · exact T.x_InvalidModule.ex
  · exact T.x_Undefined.ex
  · exact T.x_Incompatible.ex
  · exact T.x_Conflict.ex
  · exact T.x_NoEntry.ex
  · exact T.x_InvalidRewrite.ex
  · exact T.x_InvalidObject.ex
  · exact T.x_Outdated.ex
  · exact T.x_Stale.ex
  · exact T.x_Rejected.ex
  · exact T.x_Missing.ex
  · exact T.x_Disagreement.ex
  · exact T.x_UnknownModule.ex
  · exact T.x_InvalidCommand.ex
  · exact T.x_NoImage.ex
/-! ### _law_kinds -/
def kindsOf (x : Str) : List Bool := es.map fun y => decide (x = y)
def spKinds (K : PySem.W.Frag) : Sp := fun vs H Q _ => ∃ (a : Addr) (x : Str) (l : List (Str × V)), vs = [.ref a] ∧ x ∈ es ∧ ErrV K H a x l ∧ ∀ (r : Addr) (H' : Hp), H' r = some (.lst ((kindsOf x).map V.bl)) → Same H H' → Q (.ref r) H'
theorem ok_kinds (T : Txt w K mg) : ∃ fd, FnOk P w K mg base CX0 1 (He.ga K "_law_kinds") fd ["_law_e"] (spKinds K) ∧ Binds K fd ["_law_e"] [] := by
  obtain ⟨fd, F⟩ := T.d__law_kinds
  refine ⟨fd, F.ok sc__law_kinds (fun vs H Q E h => ?_) (fun cdv A outer s H vs Q E hr h => ?_), F.bindsN fun _ _ _ _ _ _ us hl => match us, hl with | [_], _ => rfl⟩
  · obtain ⟨a, x, l, rfl, _⟩ := h
    rfl
  obtain ⟨a, x, l, rfl, hx, hv, q⟩ := h
  obtain ⟨dxo, ha, hd0, _⟩ := hv.ex
  have hT := exx T x hx
  have hd : ∀ d, dxo = some d → ∃ fs, H d = some (exd d fs) := fun d e => ⟨l, hd0 d e⟩
  have kd := T.kinds x hx
  refine ⟨_, PSs.nox (pss_cons (ps_set (i := 1) sc__law_kinds.nd rfl (.inl rfl) (pe_lst (pa_cons (pe_callB call_isErr (by rfl) T.n_isinstance (by decide +kernel) (pa_cons (pv 0) (pa_cons (pe_glob (v := .ref _) (by rfl) (T.g "InvalidText" (by decide)) rfl) pa_nil))) (pa_cons (pe_callB call_isErr (by rfl) T.n_isinstance (by decide +kernel) (pa_cons (pv 0) (pa_cons (pe_glob (v := .ref _) (by rfl) (T.g "InvalidModule" (by decide)) rfl) pa_nil))) (pa_cons (pe_callB call_isErr (by rfl) T.n_isinstance (by decide +kernel) (pa_cons (pv 0) (pa_cons (pe_glob (v := .ref _) (by rfl) (T.g "Undefined" (by decide)) rfl) pa_nil))) pa_nil)))))
      (pss_cons (ps_set (i := 1) sc__law_kinds.nd rfl (.inl rfl) (pe_op op_cat (pv 1) (pe_lst (pa_cons (pe_callB call_isErr (by rfl) T.n_isinstance (by decide +kernel) (pa_cons (pv 0) (pa_cons (pe_glob (v := .ref _) (by rfl) (T.g "Incompatible" (by decide)) rfl) pa_nil))) (pa_cons (pe_callB call_isErr (by rfl) T.n_isinstance (by decide +kernel) (pa_cons (pv 0) (pa_cons (pe_glob (v := .ref _) (by rfl) (T.g "Conflict" (by decide)) rfl) pa_nil))) (pa_cons (pe_callB call_isErr (by rfl) T.n_isinstance (by decide +kernel) (pa_cons (pv 0) (pa_cons (pe_glob (v := .ref _) (by rfl) (T.g "NoEntry" (by decide)) rfl) pa_nil))) pa_nil))))))
      (pss_cons (ps_set (i := 1) sc__law_kinds.nd rfl (.inl rfl) (pe_op op_cat (pv 1) (pe_lst (pa_cons (pe_callB call_isErr (by rfl) T.n_isinstance (by decide +kernel) (pa_cons (pv 0) (pa_cons (pe_glob (v := .ref _) (by rfl) (T.g "InvalidRewrite" (by decide)) rfl) pa_nil))) (pa_cons (pe_callB call_isErr (by rfl) T.n_isinstance (by decide +kernel) (pa_cons (pv 0) (pa_cons (pe_glob (v := .ref _) (by rfl) (T.g "InvalidObject" (by decide)) rfl) pa_nil))) (pa_cons (pe_callB call_isErr (by rfl) T.n_isinstance (by decide +kernel) (pa_cons (pv 0) (pa_cons (pe_glob (v := .ref _) (by rfl) (T.g "Outdated" (by decide)) rfl) pa_nil))) pa_nil))))))
      (pss_cons (ps_set (i := 1) sc__law_kinds.nd rfl (.inl rfl) (pe_op op_cat (pv 1) (pe_lst (pa_cons (pe_callB call_isErr (by rfl) T.n_isinstance (by decide +kernel) (pa_cons (pv 0) (pa_cons (pe_glob (v := .ref _) (by rfl) (T.g "Stale" (by decide)) rfl) pa_nil))) (pa_cons (pe_callB call_isErr (by rfl) T.n_isinstance (by decide +kernel) (pa_cons (pv 0) (pa_cons (pe_glob (v := .ref _) (by rfl) (T.g "Rejected" (by decide)) rfl) pa_nil))) (pa_cons (pe_callB call_isErr (by rfl) T.n_isinstance (by decide +kernel) (pa_cons (pv 0) (pa_cons (pe_glob (v := .ref _) (by rfl) (T.g "Missing" (by decide)) rfl) pa_nil))) pa_nil))))))
      (pss_cons (ps_set (i := 1) sc__law_kinds.nd rfl (.inl rfl) (pe_op op_cat (pv 1) (pe_lst (pa_cons (pe_callB call_isErr (by rfl) T.n_isinstance (by decide +kernel) (pa_cons (pv 0) (pa_cons (pe_glob (v := .ref _) (by rfl) (T.g "Disagreement" (by decide)) rfl) pa_nil))) (pa_cons (pe_callB call_isErr (by rfl) T.n_isinstance (by decide +kernel) (pa_cons (pv 0) (pa_cons (pe_glob (v := .ref _) (by rfl) (T.g "UnknownModule" (by decide)) rfl) pa_nil))) (pa_cons (pe_callB call_isErr (by rfl) T.n_isinstance (by decide +kernel) (pa_cons (pv 0) (pa_cons (pe_glob (v := .ref _) (by rfl) (T.g "InvalidCommand" (by decide)) rfl) pa_nil))) pa_nil))))))
      (pss_one (ps_ret (pe_op op_cat (pv 1) (pe_lst (pa_cons (pe_callB call_isErr (by rfl) T.n_isinstance (by decide +kernel) (pa_cons (pv 0) (pa_cons (pe_glob (v := .ref _) (by rfl) (T.g "NoImage" (by decide)) rfl) pa_nil))) pa_nil)))))))))), ?_⟩
  have s0 : Same H H := Same.refl H
  refine ⟨.ref a, rfl, a, He.ga K x, dxo, .ref (He.ga K "InvalidText"), .ref (He.ga K "InvalidText"), decide (x = "InvalidText"), rfl, .own _, ha, hd, hT, kd "InvalidText" (by decide), .ref a, rfl, a, He.ga K x, dxo, .ref (He.ga K "InvalidModule"), .ref (He.ga K "InvalidModule"), decide (x = "InvalidModule"), rfl, .own _, ha, hd, hT, kd "InvalidModule" (by decide), .ref a, rfl, a, He.ga K x, dxo, .ref (He.ga K "Undefined"), .ref (He.ga K "Undefined"), decide (x = "Undefined"), rfl, .own _, ha, hd, hT, kd "Undefined" (by decide), (by show 3 ≤ sizeLine; decide), fun p1 hp1 => ?_⟩
  have g1 : (upd H p1 (.lst [.bl (decide (x = "InvalidText")), .bl (decide (x = "InvalidModule")), .bl (decide (x = "Undefined"))])) p1 = some (.lst [.bl (decide (x = "InvalidText")), .bl (decide (x = "InvalidModule")), .bl (decide (x = "Undefined"))]) := upd_same
  have s1 : Same H (upd H p1 (.lst [.bl (decide (x = "InvalidText")), .bl (decide (x = "InvalidModule")), .bl (decide (x = "Undefined"))])) := fun b o h => upd_get hp1 h
  have ha := s1 _ _ ha
  have hd : ∀ d, dxo = some d → ∃ fs, (upd H p1 (.lst [.bl (decide (x = "InvalidText")), .bl (decide (x = "InvalidModule")), .bl (decide (x = "Undefined"))])) d = some (exd d fs) := fun d e => (hd d e).imp fun _ z => s1 _ _ z
  have s0 := s0.trans s1
  generalize upd H p1 (.lst [.bl (decide (x = "InvalidText")), .bl (decide (x = "InvalidModule")), .bl (decide (x = "Undefined"))]) = H1 at g1 s1 ha hd s0 ⊢
  refine ⟨.ref p1, rfl, .ref a, rfl, a, He.ga K x, dxo, .ref (He.ga K "Incompatible"), .ref (He.ga K "Incompatible"), decide (x = "Incompatible"), rfl, .own _, ha, hd, hT, kd "Incompatible" (by decide), .ref a, rfl, a, He.ga K x, dxo, .ref (He.ga K "Conflict"), .ref (He.ga K "Conflict"), decide (x = "Conflict"), rfl, .own _, ha, hd, hT, kd "Conflict" (by decide), .ref a, rfl, a, He.ga K x, dxo, .ref (He.ga K "NoEntry"), .ref (He.ga K "NoEntry"), decide (x = "NoEntry"), rfl, .own _, ha, hd, hT, kd "NoEntry" (by decide), (by show 3 ≤ sizeLine; decide), fun p2 hp2 => ?_⟩
  have g2 : (upd H1 p2 (.lst [.bl (decide (x = "Incompatible")), .bl (decide (x = "Conflict")), .bl (decide (x = "NoEntry"))])) p2 = some (.lst [.bl (decide (x = "Incompatible")), .bl (decide (x = "Conflict")), .bl (decide (x = "NoEntry"))]) := upd_same
  have s2 : Same H1 (upd H1 p2 (.lst [.bl (decide (x = "Incompatible")), .bl (decide (x = "Conflict")), .bl (decide (x = "NoEntry"))])) := fun b o h => upd_get hp2 h
  have ha := s2 _ _ ha
  have hd : ∀ d, dxo = some d → ∃ fs, (upd H1 p2 (.lst [.bl (decide (x = "Incompatible")), .bl (decide (x = "Conflict")), .bl (decide (x = "NoEntry"))])) d = some (exd d fs) := fun d e => (hd d e).imp fun _ z => s2 _ _ z
  have s0 := s0.trans s2
  have g1 := s2 _ _ g1
  generalize upd H1 p2 (.lst [.bl (decide (x = "Incompatible")), .bl (decide (x = "Conflict")), .bl (decide (x = "NoEntry"))]) = H2 at g2 s2 ha hd s0 g1 ⊢
  refine ⟨p1, p2, _, _, rfl, rfl, g1, g2, (by show 6 ≤ sizeLine; decide), fun p3 hp3 => ?_⟩
  have g3 : (upd H2 p3 (.lst [.bl (decide (x = "InvalidText")), .bl (decide (x = "InvalidModule")), .bl (decide (x = "Undefined")), .bl (decide (x = "Incompatible")), .bl (decide (x = "Conflict")), .bl (decide (x = "NoEntry"))])) p3 = some (.lst [.bl (decide (x = "InvalidText")), .bl (decide (x = "InvalidModule")), .bl (decide (x = "Undefined")), .bl (decide (x = "Incompatible")), .bl (decide (x = "Conflict")), .bl (decide (x = "NoEntry"))]) := upd_same
  have s3 : Same H2 (upd H2 p3 (.lst [.bl (decide (x = "InvalidText")), .bl (decide (x = "InvalidModule")), .bl (decide (x = "Undefined")), .bl (decide (x = "Incompatible")), .bl (decide (x = "Conflict")), .bl (decide (x = "NoEntry"))])) := fun b o h => upd_get hp3 h
  have ha := s3 _ _ ha
  have hd : ∀ d, dxo = some d → ∃ fs, (upd H2 p3 (.lst [.bl (decide (x = "InvalidText")), .bl (decide (x = "InvalidModule")), .bl (decide (x = "Undefined")), .bl (decide (x = "Incompatible")), .bl (decide (x = "Conflict")), .bl (decide (x = "NoEntry"))])) d = some (exd d fs) := fun d e => (hd d e).imp fun _ z => s3 _ _ z
  have s0 := s0.trans s3
  show _
  generalize eH3 : upd H2 p3 (.lst [.bl (decide (x = "InvalidText")), .bl (decide (x = "InvalidModule")), .bl (decide (x = "Undefined")), .bl (decide (x = "Incompatible")), .bl (decide (x = "Conflict")), .bl (decide (x = "NoEntry"))]) = H3 at g3 s3 ha hd s0
  rw [show upd H2 p3 (.lst ([V.bl (decide (x = "InvalidText")), V.bl (decide (x = "InvalidModule")), V.bl (decide (x = "Undefined"))] ++ [V.bl (decide (x = "Incompatible")), V.bl (decide (x = "Conflict")), V.bl (decide (x = "NoEntry"))])) = H3 from eH3]
  refine ⟨.ref p3, rfl, .ref a, rfl, a, He.ga K x, dxo, .ref (He.ga K "InvalidRewrite"), .ref (He.ga K "InvalidRewrite"), decide (x = "InvalidRewrite"), rfl, .own _, ha, hd, hT, kd "InvalidRewrite" (by decide), .ref a, rfl, a, He.ga K x, dxo, .ref (He.ga K "InvalidObject"), .ref (He.ga K "InvalidObject"), decide (x = "InvalidObject"), rfl, .own _, ha, hd, hT, kd "InvalidObject" (by decide), .ref a, rfl, a, He.ga K x, dxo, .ref (He.ga K "Outdated"), .ref (He.ga K "Outdated"), decide (x = "Outdated"), rfl, .own _, ha, hd, hT, kd "Outdated" (by decide), (by show 3 ≤ sizeLine; decide), fun p4 hp4 => ?_⟩
  have g4 : (upd H3 p4 (.lst [.bl (decide (x = "InvalidRewrite")), .bl (decide (x = "InvalidObject")), .bl (decide (x = "Outdated"))])) p4 = some (.lst [.bl (decide (x = "InvalidRewrite")), .bl (decide (x = "InvalidObject")), .bl (decide (x = "Outdated"))]) := upd_same
  have s4 : Same H3 (upd H3 p4 (.lst [.bl (decide (x = "InvalidRewrite")), .bl (decide (x = "InvalidObject")), .bl (decide (x = "Outdated"))])) := fun b o h => upd_get hp4 h
  have ha := s4 _ _ ha
  have hd : ∀ d, dxo = some d → ∃ fs, (upd H3 p4 (.lst [.bl (decide (x = "InvalidRewrite")), .bl (decide (x = "InvalidObject")), .bl (decide (x = "Outdated"))])) d = some (exd d fs) := fun d e => (hd d e).imp fun _ z => s4 _ _ z
  have s0 := s0.trans s4
  have g3 := s4 _ _ g3
  generalize upd H3 p4 (.lst [.bl (decide (x = "InvalidRewrite")), .bl (decide (x = "InvalidObject")), .bl (decide (x = "Outdated"))]) = H4 at g4 s4 ha hd s0 g3 ⊢
  refine ⟨p3, p4, _, _, rfl, rfl, g3, g4, (by show 9 ≤ sizeLine; decide), fun p5 hp5 => ?_⟩
  have g5 : (upd H4 p5 (.lst [.bl (decide (x = "InvalidText")), .bl (decide (x = "InvalidModule")), .bl (decide (x = "Undefined")), .bl (decide (x = "Incompatible")), .bl (decide (x = "Conflict")), .bl (decide (x = "NoEntry")), .bl (decide (x = "InvalidRewrite")), .bl (decide (x = "InvalidObject")), .bl (decide (x = "Outdated"))])) p5 = some (.lst [.bl (decide (x = "InvalidText")), .bl (decide (x = "InvalidModule")), .bl (decide (x = "Undefined")), .bl (decide (x = "Incompatible")), .bl (decide (x = "Conflict")), .bl (decide (x = "NoEntry")), .bl (decide (x = "InvalidRewrite")), .bl (decide (x = "InvalidObject")), .bl (decide (x = "Outdated"))]) := upd_same
  have s5 : Same H4 (upd H4 p5 (.lst [.bl (decide (x = "InvalidText")), .bl (decide (x = "InvalidModule")), .bl (decide (x = "Undefined")), .bl (decide (x = "Incompatible")), .bl (decide (x = "Conflict")), .bl (decide (x = "NoEntry")), .bl (decide (x = "InvalidRewrite")), .bl (decide (x = "InvalidObject")), .bl (decide (x = "Outdated"))])) := fun b o h => upd_get hp5 h
  have ha := s5 _ _ ha
  have hd : ∀ d, dxo = some d → ∃ fs, (upd H4 p5 (.lst [.bl (decide (x = "InvalidText")), .bl (decide (x = "InvalidModule")), .bl (decide (x = "Undefined")), .bl (decide (x = "Incompatible")), .bl (decide (x = "Conflict")), .bl (decide (x = "NoEntry")), .bl (decide (x = "InvalidRewrite")), .bl (decide (x = "InvalidObject")), .bl (decide (x = "Outdated"))])) d = some (exd d fs) := fun d e => (hd d e).imp fun _ z => s5 _ _ z
  have s0 := s0.trans s5
  show _
  generalize eH5 : upd H4 p5 (.lst [.bl (decide (x = "InvalidText")), .bl (decide (x = "InvalidModule")), .bl (decide (x = "Undefined")), .bl (decide (x = "Incompatible")), .bl (decide (x = "Conflict")), .bl (decide (x = "NoEntry")), .bl (decide (x = "InvalidRewrite")), .bl (decide (x = "InvalidObject")), .bl (decide (x = "Outdated"))]) = H5 at g5 s5 ha hd s0
  rw [show upd H4 p5 (.lst ([V.bl (decide (x = "InvalidText")), V.bl (decide (x = "InvalidModule")), V.bl (decide (x = "Undefined")), V.bl (decide (x = "Incompatible")), V.bl (decide (x = "Conflict")), V.bl (decide (x = "NoEntry"))] ++ [V.bl (decide (x = "InvalidRewrite")), V.bl (decide (x = "InvalidObject")), V.bl (decide (x = "Outdated"))])) = H5 from eH5]
  refine ⟨.ref p5, rfl, .ref a, rfl, a, He.ga K x, dxo, .ref (He.ga K "Stale"), .ref (He.ga K "Stale"), decide (x = "Stale"), rfl, .own _, ha, hd, hT, kd "Stale" (by decide), .ref a, rfl, a, He.ga K x, dxo, .ref (He.ga K "Rejected"), .ref (He.ga K "Rejected"), decide (x = "Rejected"), rfl, .own _, ha, hd, hT, kd "Rejected" (by decide), .ref a, rfl, a, He.ga K x, dxo, .ref (He.ga K "Missing"), .ref (He.ga K "Missing"), decide (x = "Missing"), rfl, .own _, ha, hd, hT, kd "Missing" (by decide), (by show 3 ≤ sizeLine; decide), fun p6 hp6 => ?_⟩
  have g6 : (upd H5 p6 (.lst [.bl (decide (x = "Stale")), .bl (decide (x = "Rejected")), .bl (decide (x = "Missing"))])) p6 = some (.lst [.bl (decide (x = "Stale")), .bl (decide (x = "Rejected")), .bl (decide (x = "Missing"))]) := upd_same
  have s6 : Same H5 (upd H5 p6 (.lst [.bl (decide (x = "Stale")), .bl (decide (x = "Rejected")), .bl (decide (x = "Missing"))])) := fun b o h => upd_get hp6 h
  have ha := s6 _ _ ha
  have hd : ∀ d, dxo = some d → ∃ fs, (upd H5 p6 (.lst [.bl (decide (x = "Stale")), .bl (decide (x = "Rejected")), .bl (decide (x = "Missing"))])) d = some (exd d fs) := fun d e => (hd d e).imp fun _ z => s6 _ _ z
  have s0 := s0.trans s6
  have g5 := s6 _ _ g5
  generalize upd H5 p6 (.lst [.bl (decide (x = "Stale")), .bl (decide (x = "Rejected")), .bl (decide (x = "Missing"))]) = H6 at g6 s6 ha hd s0 g5 ⊢
  refine ⟨p5, p6, _, _, rfl, rfl, g5, g6, (by show 12 ≤ sizeLine; decide), fun p7 hp7 => ?_⟩
  have g7 : (upd H6 p7 (.lst [.bl (decide (x = "InvalidText")), .bl (decide (x = "InvalidModule")), .bl (decide (x = "Undefined")), .bl (decide (x = "Incompatible")), .bl (decide (x = "Conflict")), .bl (decide (x = "NoEntry")), .bl (decide (x = "InvalidRewrite")), .bl (decide (x = "InvalidObject")), .bl (decide (x = "Outdated")), .bl (decide (x = "Stale")), .bl (decide (x = "Rejected")), .bl (decide (x = "Missing"))])) p7 = some (.lst [.bl (decide (x = "InvalidText")), .bl (decide (x = "InvalidModule")), .bl (decide (x = "Undefined")), .bl (decide (x = "Incompatible")), .bl (decide (x = "Conflict")), .bl (decide (x = "NoEntry")), .bl (decide (x = "InvalidRewrite")), .bl (decide (x = "InvalidObject")), .bl (decide (x = "Outdated")), .bl (decide (x = "Stale")), .bl (decide (x = "Rejected")), .bl (decide (x = "Missing"))]) := upd_same
  have s7 : Same H6 (upd H6 p7 (.lst [.bl (decide (x = "InvalidText")), .bl (decide (x = "InvalidModule")), .bl (decide (x = "Undefined")), .bl (decide (x = "Incompatible")), .bl (decide (x = "Conflict")), .bl (decide (x = "NoEntry")), .bl (decide (x = "InvalidRewrite")), .bl (decide (x = "InvalidObject")), .bl (decide (x = "Outdated")), .bl (decide (x = "Stale")), .bl (decide (x = "Rejected")), .bl (decide (x = "Missing"))])) := fun b o h => upd_get hp7 h
  have ha := s7 _ _ ha
  have hd : ∀ d, dxo = some d → ∃ fs, (upd H6 p7 (.lst [.bl (decide (x = "InvalidText")), .bl (decide (x = "InvalidModule")), .bl (decide (x = "Undefined")), .bl (decide (x = "Incompatible")), .bl (decide (x = "Conflict")), .bl (decide (x = "NoEntry")), .bl (decide (x = "InvalidRewrite")), .bl (decide (x = "InvalidObject")), .bl (decide (x = "Outdated")), .bl (decide (x = "Stale")), .bl (decide (x = "Rejected")), .bl (decide (x = "Missing"))])) d = some (exd d fs) := fun d e => (hd d e).imp fun _ z => s7 _ _ z
  have s0 := s0.trans s7
  show _
  generalize eH7 : upd H6 p7 (.lst [.bl (decide (x = "InvalidText")), .bl (decide (x = "InvalidModule")), .bl (decide (x = "Undefined")), .bl (decide (x = "Incompatible")), .bl (decide (x = "Conflict")), .bl (decide (x = "NoEntry")), .bl (decide (x = "InvalidRewrite")), .bl (decide (x = "InvalidObject")), .bl (decide (x = "Outdated")), .bl (decide (x = "Stale")), .bl (decide (x = "Rejected")), .bl (decide (x = "Missing"))]) = H7 at g7 s7 ha hd s0
  rw [show upd H6 p7 (.lst ([V.bl (decide (x = "InvalidText")), V.bl (decide (x = "InvalidModule")), V.bl (decide (x = "Undefined")), V.bl (decide (x = "Incompatible")), V.bl (decide (x = "Conflict")), V.bl (decide (x = "NoEntry")), V.bl (decide (x = "InvalidRewrite")), V.bl (decide (x = "InvalidObject")), V.bl (decide (x = "Outdated"))] ++ [V.bl (decide (x = "Stale")), V.bl (decide (x = "Rejected")), V.bl (decide (x = "Missing"))])) = H7 from eH7]
  refine ⟨.ref p7, rfl, .ref a, rfl, a, He.ga K x, dxo, .ref (He.ga K "Disagreement"), .ref (He.ga K "Disagreement"), decide (x = "Disagreement"), rfl, .own _, ha, hd, hT, kd "Disagreement" (by decide), .ref a, rfl, a, He.ga K x, dxo, .ref (He.ga K "UnknownModule"), .ref (He.ga K "UnknownModule"), decide (x = "UnknownModule"), rfl, .own _, ha, hd, hT, kd "UnknownModule" (by decide), .ref a, rfl, a, He.ga K x, dxo, .ref (He.ga K "InvalidCommand"), .ref (He.ga K "InvalidCommand"), decide (x = "InvalidCommand"), rfl, .own _, ha, hd, hT, kd "InvalidCommand" (by decide), (by show 3 ≤ sizeLine; decide), fun p8 hp8 => ?_⟩
  have g8 : (upd H7 p8 (.lst [.bl (decide (x = "Disagreement")), .bl (decide (x = "UnknownModule")), .bl (decide (x = "InvalidCommand"))])) p8 = some (.lst [.bl (decide (x = "Disagreement")), .bl (decide (x = "UnknownModule")), .bl (decide (x = "InvalidCommand"))]) := upd_same
  have s8 : Same H7 (upd H7 p8 (.lst [.bl (decide (x = "Disagreement")), .bl (decide (x = "UnknownModule")), .bl (decide (x = "InvalidCommand"))])) := fun b o h => upd_get hp8 h
  have ha := s8 _ _ ha
  have hd : ∀ d, dxo = some d → ∃ fs, (upd H7 p8 (.lst [.bl (decide (x = "Disagreement")), .bl (decide (x = "UnknownModule")), .bl (decide (x = "InvalidCommand"))])) d = some (exd d fs) := fun d e => (hd d e).imp fun _ z => s8 _ _ z
  have s0 := s0.trans s8
  have g7 := s8 _ _ g7
  generalize upd H7 p8 (.lst [.bl (decide (x = "Disagreement")), .bl (decide (x = "UnknownModule")), .bl (decide (x = "InvalidCommand"))]) = H8 at g8 s8 ha hd s0 g7 ⊢
  refine ⟨p7, p8, _, _, rfl, rfl, g7, g8, (by show 15 ≤ sizeLine; decide), fun p9 hp9 => ?_⟩
  have g9 : (upd H8 p9 (.lst [.bl (decide (x = "InvalidText")), .bl (decide (x = "InvalidModule")), .bl (decide (x = "Undefined")), .bl (decide (x = "Incompatible")), .bl (decide (x = "Conflict")), .bl (decide (x = "NoEntry")), .bl (decide (x = "InvalidRewrite")), .bl (decide (x = "InvalidObject")), .bl (decide (x = "Outdated")), .bl (decide (x = "Stale")), .bl (decide (x = "Rejected")), .bl (decide (x = "Missing")), .bl (decide (x = "Disagreement")), .bl (decide (x = "UnknownModule")), .bl (decide (x = "InvalidCommand"))])) p9 = some (.lst [.bl (decide (x = "InvalidText")), .bl (decide (x = "InvalidModule")), .bl (decide (x = "Undefined")), .bl (decide (x = "Incompatible")), .bl (decide (x = "Conflict")), .bl (decide (x = "NoEntry")), .bl (decide (x = "InvalidRewrite")), .bl (decide (x = "InvalidObject")), .bl (decide (x = "Outdated")), .bl (decide (x = "Stale")), .bl (decide (x = "Rejected")), .bl (decide (x = "Missing")), .bl (decide (x = "Disagreement")), .bl (decide (x = "UnknownModule")), .bl (decide (x = "InvalidCommand"))]) := upd_same
  have s9 : Same H8 (upd H8 p9 (.lst [.bl (decide (x = "InvalidText")), .bl (decide (x = "InvalidModule")), .bl (decide (x = "Undefined")), .bl (decide (x = "Incompatible")), .bl (decide (x = "Conflict")), .bl (decide (x = "NoEntry")), .bl (decide (x = "InvalidRewrite")), .bl (decide (x = "InvalidObject")), .bl (decide (x = "Outdated")), .bl (decide (x = "Stale")), .bl (decide (x = "Rejected")), .bl (decide (x = "Missing")), .bl (decide (x = "Disagreement")), .bl (decide (x = "UnknownModule")), .bl (decide (x = "InvalidCommand"))])) := fun b o h => upd_get hp9 h
  have ha := s9 _ _ ha
  have hd : ∀ d, dxo = some d → ∃ fs, (upd H8 p9 (.lst [.bl (decide (x = "InvalidText")), .bl (decide (x = "InvalidModule")), .bl (decide (x = "Undefined")), .bl (decide (x = "Incompatible")), .bl (decide (x = "Conflict")), .bl (decide (x = "NoEntry")), .bl (decide (x = "InvalidRewrite")), .bl (decide (x = "InvalidObject")), .bl (decide (x = "Outdated")), .bl (decide (x = "Stale")), .bl (decide (x = "Rejected")), .bl (decide (x = "Missing")), .bl (decide (x = "Disagreement")), .bl (decide (x = "UnknownModule")), .bl (decide (x = "InvalidCommand"))])) d = some (exd d fs) := fun d e => (hd d e).imp fun _ z => s9 _ _ z
  have s0 := s0.trans s9
  show _
  generalize eH9 : upd H8 p9 (.lst [.bl (decide (x = "InvalidText")), .bl (decide (x = "InvalidModule")), .bl (decide (x = "Undefined")), .bl (decide (x = "Incompatible")), .bl (decide (x = "Conflict")), .bl (decide (x = "NoEntry")), .bl (decide (x = "InvalidRewrite")), .bl (decide (x = "InvalidObject")), .bl (decide (x = "Outdated")), .bl (decide (x = "Stale")), .bl (decide (x = "Rejected")), .bl (decide (x = "Missing")), .bl (decide (x = "Disagreement")), .bl (decide (x = "UnknownModule")), .bl (decide (x = "InvalidCommand"))]) = H9 at g9 s9 ha hd s0
  rw [show upd H8 p9 (.lst ([V.bl (decide (x = "InvalidText")), V.bl (decide (x = "InvalidModule")), V.bl (decide (x = "Undefined")), V.bl (decide (x = "Incompatible")), V.bl (decide (x = "Conflict")), V.bl (decide (x = "NoEntry")), V.bl (decide (x = "InvalidRewrite")), V.bl (decide (x = "InvalidObject")), V.bl (decide (x = "Outdated")), V.bl (decide (x = "Stale")), V.bl (decide (x = "Rejected")), V.bl (decide (x = "Missing"))] ++ [V.bl (decide (x = "Disagreement")), V.bl (decide (x = "UnknownModule")), V.bl (decide (x = "InvalidCommand"))])) = H9 from eH9]
  refine ⟨.ref p9, rfl, .ref a, rfl, a, He.ga K x, dxo, .ref (He.ga K "NoImage"), .ref (He.ga K "NoImage"), decide (x = "NoImage"), rfl, .own _, ha, hd, hT, kd "NoImage" (by decide), (by show 1 ≤ sizeLine; decide), fun p10 hp10 => ?_⟩
  have g10 : (upd H9 p10 (.lst [.bl (decide (x = "NoImage"))])) p10 = some (.lst [.bl (decide (x = "NoImage"))]) := upd_same
  have s10 : Same H9 (upd H9 p10 (.lst [.bl (decide (x = "NoImage"))])) := fun b o h => upd_get hp10 h
  have ha := s10 _ _ ha
  have hd : ∀ d, dxo = some d → ∃ fs, (upd H9 p10 (.lst [.bl (decide (x = "NoImage"))])) d = some (exd d fs) := fun d e => (hd d e).imp fun _ z => s10 _ _ z
  have s0 := s0.trans s10
  have g9 := s10 _ _ g9
  generalize upd H9 p10 (.lst [.bl (decide (x = "NoImage"))]) = H10 at g10 s10 ha hd s0 g9 ⊢
  refine ⟨p9, p10, _, _, rfl, rfl, g9, g10, (by show 16 ≤ sizeLine; decide), fun p11 hp11 => ?_⟩
  exact q p11 _ upd_same (s0.trans fun b o h => upd_get hp11 h)
/-! ### _law_right -/
theorem kinds_at : ∀ i : Nat, i < 16 → ∀ x, es[i]? = some x → kindsOf x = (List.range 16).map fun k => decide (k = i) := by
  have h : ∀ i : Nat, i < 16 → (es[i]?.map kindsOf) = some ((List.range 16).map fun k => decide (k = i)) := by decide +kernel
  intro i hi x hx
  have := h i hi
  rw [hx] at this
  exact Option.some.inj this
end
end K01

set_option maxHeartbeats 4000000
set_option pp.maxSteps 600
namespace K01
open PySem PySem.Spec PyProof.Rows L2 HG
theorem canLay_bools : ∀ bs : List Bool, PyData.canLayAll0 (bs.map PyData.bool) = true
  | [] => by simp only [List.map_nil, PyData.canLayAll0]
  | n :: ns => by simp only [List.map_cons, PyData.canLayAll0, PyData.canLay0, canLay_bools ns, Bool.and_self]
theorem depth_bools : ∀ bs : List Bool, PyData.depthAll (bs.map PyData.bool) ≤ 1
  | [] => by simp only [List.map_nil, PyData.depthAll]; omega
  | n :: ns => by
    have := depth_bools ns
    simp only [List.map_cons, PyData.depthAll, PyData.depth]
    omega
theorem shaped_bools (bs : List Bool) : SeqAt.shaped (.list (bs.map PyData.bool)) = true := by
  have h := depth_bools bs
  have h2 : (PyData.list (bs.map PyData.bool)).depth ≤ 64 := by
    simp only [PyData.depth]
    omega
  unfold SeqAt.shaped
  simp only [PyData.canLay0, canLay_bools bs, Bool.true_and]
  exact decide_eq_true h2
theorem dpBools {K : PySem.W.Frag} {H : Hp} : ∀ bs : List Bool, DpAll K H (bs.map V.bl) (bs.map PyData.bool)
  | [] => .nil
  | b :: bs => .cons (.bl b) (dpBools bs)
theorem errDx {H : Hp} {a dx C : Addr} {p : Str × V} {l : List (Str × V)} (ne : dx ≠ a) : errH H a dx C (p :: l) dx = some (exd dx (p :: l)) := by
  show upd (upd H dx (exd dx (p :: l))) a (exo a C (some dx)) dx = _
  rw [upd_ne ne]
  exact upd_same
/-- what is made: (e, [..]) at t -/
def Got (K : PySem.W.Frag) (H H' : Hp) (t : Addr) (x : Str) (ws : List V) : Prop := ∃ (e l : Addr) (fl : List (Str × V)), ErrV K H' e x fl ∧ H' t = some (.tup [.ref e, .ref l]) ∧ H' l = some (.lst ws) ∧ Same H H'
theorem got_of {K : PySem.W.Frag} {H H1 : Hp} {e l t : Addr} {x : Str} {fl : List (Str × V)} {ws : List V} (hv : ErrV K H1 e x fl) (s1 : Same H H1) (hl : H1 l = none) (ht : (upd H1 l (.lst ws)) t = none) :
    Got K H (upd (upd H1 l (.lst ws)) t (.tup [.ref e, .ref l])) t x ws := by
  have s2 : Same H1 (upd H1 l (.lst ws)) := fun b o h => upd_get hl h
  have s3 : Same (upd H1 l (.lst ws)) (upd (upd H1 l (.lst ws)) t (.tup [.ref e, .ref l])) := fun b o h => upd_get ht h
  exact ⟨e, l, fl, hv.mono (s2.trans s3), upd_same, s3 _ _ upd_same, s1.trans (s2.trans s3)⟩
section
variable {P : Program} {w : World} {K : PySem.W.Frag} {mg : Str → Option Value} {base : Heap}
/-! ### _law_right -/
def spRight (K : PySem.W.Frag) : Sp := fun vs H Q _ => ∃ (a : Addr) (i : Nat) (x : Str) (l : List (Str × V)), vs = [.ref a, .int i] ∧ i < 16 ∧ es[i]? = some x ∧ ErrV K H a x l ∧ ∀ H', Same H H' → Q (.bl true) H'
theorem ok_right (T : Txt w K mg) : ∃ fd, FnOk P w K mg base CX0 2 (He.ga K "_law_right") fd ["_law_e", "_law_at"] (spRight K) ∧ Binds K fd ["_law_e", "_law_at"] [] := by
  obtain ⟨fd, F⟩ := T.d__law_right
  have C__law_kinds : Cal P w K mg base "_law_kinds" 1 ["_law_e"] (spKinds K) := ⟨ok_kinds T, T.g _ (by decide), by obtain ⟨fd, F⟩ := T.d__law_kinds; exact F.kp⟩
  refine ⟨fd, F.ok sc__law_right (fun vs H Q E h => ?_) (fun cdv A outer s H vs Q E hr h => ?_), F.bindsN fun _ _ _ _ _ _ us hl => match us, hl with | [_, _], _ => rfl⟩
  · obtain ⟨a, i, x, l, rfl, _⟩ := h
    rfl
  obtain ⟨a, i, x, l, rfl, hi, hxi, hv, q⟩ := h
  have hx : x ∈ es := List.mem_of_getElem? hxi
  obtain ⟨dxo, ha, hd0, _⟩ := hv.ex
  have hT := exx T x hx
  have hd : ∀ d, dxo = some d → ∃ fs, H d = some (exd d fs) := fun d e => ⟨l, hd0 d e⟩
  refine ⟨_, PSs.nox (pss_cons (ps_if (PW.pt (pw_or (pt_not (pt_val (pe_callB call_isErr (by rfl) T.n_isinstance (by decide +kernel) (pa_cons (pv 0) (pa_cons (pe_glob (v := .ref _) (by rfl) (T.g "WholeError" (by decide)) rfl) pa_nil))))) (pw_or1 (pt_not (pt_val (pe_callB call_isErr (by rfl) T.n_isinstance (by decide +kernel) (pa_cons (pv 0) (pa_cons (pe_bltn (v := .ty "ValueError") (u := .type "ValueError") (by rfl) T.n_ValueError (by decide +kernel) rfl) pa_nil)))))))) (pss_one (ps_ret pe_bl)) pss_nil)
      (pss_one (ps_ret (pe_cmpR (op_eqD hr.units) (pe_cal C__law_kinds (hr.mono (by omega)) (by rfl) (pa_cons (pv 0) pa_nil)) (pe_lc (own := [("_law_k", 2)]) (by rfl) sc__law_right.nd (pi_range1 (by rfl) T.n_range (pa_cons pe_int pa_nil)) (blkOk_by (own := [("_law_k", 2)]) (N := N__law_right) (sc := defScope s__law_right) (by decide +kernel)) (fun _ _ _ _ _ => (pg_name (i := 2) sc__law_right.nd rfl (.inl rfl))) (fun _ _ _ _ _ => pts_nil) (fun _ _ _ _ _ => (pe_cmpR op_eq (pv 2) (pv 1) (nomark _)))) (nomark _))))), ?_⟩
  refine ⟨.ref a, rfl, a, He.ga K x, dxo, .ref (He.ga K "WholeError"), .ref (He.ga K "WholeError"), true, rfl, .own _, ha, hd, hT, T.whole x hx, _, rfl, iteF ?_⟩
  refine ⟨.ref a, rfl, a, He.ga K x, dxo, .ty "ValueError", .type "ValueError", true, rfl, .ty _, ha, hd, hT, T.value x hx, _, rfl, iteF ?_⟩
  refine ⟨.ref a, rfl, a, x, l, rfl, hx, hv, fun r H1 hr1 s1 => ?_⟩
  refine ⟨16, rfl, by decide, by decide, fun D hD => ?_⟩
  refine lc_range (lo := 0) (n := (16 : Int).toNat) (fun j H2 => H2 D = some (.lst (((List.range j).map fun k => decide (k = i)).map V.bl)) ∧ Same H1 H2) ⟨upd_same, fun b o h => upd_get hD h⟩ ?_ ?_
  · rintro j H2 hj ⟨hD2, s2⟩
    have hj2 : j < 16 := hj
    refine ⟨rfl, tyes ⟨.int (0 + j), rfl, .int i, rfl, rfl, _, hD2, ?_, ?_, ?_⟩⟩
    · rw [List.length_map, List.length_map, List.length_range]
      exact small1000 (by omega)
    · rw [upd_same, List.range_succ, List.map_append, List.map_append]
      have e : decide (V.int (0 + (j : Int)) = V.int (i : Int)) = decide (j = i) := by
        by_cases h : j = i
        · rw [decide_eq_true h, h]
          exact decide_eq_true (by rw [Int.zero_add])
        · rw [decide_eq_false h]
          exact decide_eq_false fun z => h (by
            have := V.int.inj z
            omega)
      show some (HO.lst (_ ++ [V.bl (decide (V.int (0 + (j : Int)) = V.int (i : Int)))])) = _
      rw [e]
      rfl
    · intro b o h
      rw [upd_ne (ne_of_none h hD)]
      exact s2 _ _ h
  · rintro H2 ⟨hD2, s2⟩
    have hr2 := s2 _ _ hr1
    have hD3 : H2 D = some (.lst ((kindsOf x).map V.bl)) := by
      rw [kinds_at i hi x hxi]
      exact hD2
    refine ⟨.list ((kindsOf x).map PyData.bool), .list ((kindsOf x).map PyData.bool), .lst (.inl (.inl hr2)) (dpBools _), .lst (.inl (.inl hD3)) (dpBools _), shaped_bools _, shaped_bools _, ?_⟩
    have e : PyData.eqv (.list ((kindsOf x).map PyData.bool)) (.list ((kindsOf x).map PyData.bool)) = true := SeqAt.eqv_refl _ (SeqAt.canLay_of_shaped (shaped_bools _))
    rw [e]
    exact q H2 (s1.trans s2)
/-! ### _law_plain -/
def plainL : List Nat := [0, 1, 6, 14, 15]
def spPlain (K : PySem.W.Frag) : Sp := fun vs H Q _ => ∃ i : Nat, vs = [.int i] ∧ i < 16 ∧ (i ∈ plainL → ∀ (x : Str) (a : Addr) (H' : Hp), es[i]? = some x → ErrV K H' a x [] → Same H H' → Q (.ref a) H') ∧ (i ∉ plainL → Q .non H)
theorem ok_plain (T : Txt w K mg) (hP : PrgOk file P) : ∃ fd, FnOk P w K mg base CX0 2 (He.ga K "_law_plain") fd ["_law_at"] (spPlain K) ∧ Binds K fd ["_law_at"] [] := by
  obtain ⟨fd, F⟩ := T.d__law_plain
  refine ⟨fd, F.ok sc__law_plain (fun vs H Q E h => ?_) (fun cdv A outer s H vs Q E hr h => ?_), F.bindsN fun _ _ _ _ _ _ us hl => match us, hl with | [_], _ => rfl⟩
  · obtain ⟨i, rfl, _⟩ := h
    rfl
  obtain ⟨i, rfl, hi, q1, q2⟩ := h
  refine ⟨_, PSs.nox (pss_cons (ps_if (pt_cmpR op_eq (pv 0) pe_int (nomark _)) (pss_one (ps_ret (pe_err0 (T.e_InvalidText hP) (hr.mono (by omega)) (by rfl) (fun _ _ _ _ _ _ _ => rfl)))) pss_nil)
      (pss_cons (ps_if (pt_cmpR op_eq (pv 0) pe_int (nomark _)) (pss_one (ps_ret (pe_err0 (T.e_InvalidModule hP) (hr.mono (by omega)) (by rfl) (fun _ _ _ _ _ _ _ => rfl)))) pss_nil)
      (pss_cons (ps_if (pt_cmpR op_eq (pv 0) pe_int (nomark _)) (pss_one (ps_ret (pe_err0 (T.e_InvalidRewrite hP) (hr.mono (by omega)) (by rfl) (fun _ _ _ _ _ _ _ => rfl)))) pss_nil)
      (pss_cons (ps_if (pt_cmpR op_eq (pv 0) pe_int (nomark _)) (pss_one (ps_ret (pe_err0 (T.e_InvalidCommand hP) (hr.mono (by omega)) (by rfl) (fun _ _ _ _ _ _ _ => rfl)))) pss_nil)
      (pss_cons (ps_if (pt_cmpR op_eq (pv 0) pe_int (nomark _)) (pss_one (ps_ret (pe_err0 (T.e_NoImage hP) (hr.mono (by omega)) (by rfl) (fun _ _ _ _ _ _ _ => rfl)))) pss_nil)
      (pss_one (ps_ret pe_non))))))), ?_⟩
  have ne : ∀ {k : Nat}, i ≠ k → ∀ {A B : Prop}, B → if decide (V.int (i : Int) = V.int (k : Int)) = true then A else B := fun {k} h {A B} b => by
    rw [decide_eq_false (fun z => h (by have := V.int.inj z; omega))]
    exact iteF b
  have yes : ∀ {k : Nat}, i = k → ∀ {A B : Prop}, A → if decide (V.int (i : Int) = V.int (k : Int)) = true then A else B := fun {k} h {A B} a => by
    rw [decide_eq_true (by rw [h])]
    exact iteT a
  refine ⟨.int i, rfl, rfl, _, rfl, ?_⟩
  by_cases h0 : i = 0
  · refine yes (k := 0) h0 ⟨rfl, Nat.zero_le _, fun a dx ha hdx nd => q1 (by rw [h0]; decide) "InvalidText" a _ (by rw [h0]; rfl) (errV_of (l := []) nd) (errH_same (l := []) ha hdx)⟩
  refine ne (k := 0) h0 ?_
  refine ⟨.int i, rfl, rfl, _, rfl, ?_⟩
  by_cases h1 : i = 1
  · refine yes (k := 1) h1 ⟨rfl, Nat.zero_le _, fun a dx ha hdx nd => q1 (by rw [h1]; decide) "InvalidModule" a _ (by rw [h1]; rfl) (errV_of (l := []) nd) (errH_same (l := []) ha hdx)⟩
  refine ne (k := 1) h1 ?_
  refine ⟨.int i, rfl, rfl, _, rfl, ?_⟩
  by_cases h6 : i = 6
  · refine yes (k := 6) h6 ⟨rfl, Nat.zero_le _, fun a dx ha hdx nd => q1 (by rw [h6]; decide) "InvalidRewrite" a _ (by rw [h6]; rfl) (errV_of (l := []) nd) (errH_same (l := []) ha hdx)⟩
  refine ne (k := 6) h6 ?_
  refine ⟨.int i, rfl, rfl, _, rfl, ?_⟩
  by_cases h14 : i = 14
  · refine yes (k := 14) h14 ⟨rfl, Nat.zero_le _, fun a dx ha hdx nd => q1 (by rw [h14]; decide) "InvalidCommand" a _ (by rw [h14]; rfl) (errV_of (l := []) nd) (errH_same (l := []) ha hdx)⟩
  refine ne (k := 14) h14 ?_
  refine ⟨.int i, rfl, rfl, _, rfl, ?_⟩
  by_cases h15 : i = 15
  · refine yes (k := 15) h15 ⟨rfl, Nat.zero_le _, fun a dx ha hdx nd => q1 (by rw [h15]; decide) "NoImage" a _ (by rw [h15]; rfl) (errV_of (l := []) nd) (errH_same (l := []) ha hdx)⟩
  refine ne (k := 15) h15 ?_
  exact q2 (by unfold plainL; simp only [List.mem_cons, List.not_mem_nil, or_false]; omega)
/-! ### _law_named -/
def namedL : List Nat := [2, 3, 4, 5, 13]
def spNamed (K : PySem.W.Frag) : Sp := fun vs H Q _ => ∃ (i : Nat) (v : V) (b : Bool), vs = [.int i, v, .bl b] ∧ i ∈ namedL ∧ ∀ (x : Str) (t : Addr) (H' : Hp), es[i]? = some x → Got K H H' t x [v] → Q (.ref t) H'
theorem ok_named (T : Txt w K mg) (hP : PrgOk file P) : ∃ fd, FnOk P w K mg base CX0 2 (He.ga K "_law_named") fd ["_law_at", "_law_one", "_law_by_name"] (spNamed K) ∧ Binds K fd ["_law_at", "_law_one", "_law_by_name"] [] := by
  obtain ⟨fd, F⟩ := T.d__law_named
  refine ⟨fd, F.ok sc__law_named (fun vs H Q E h => ?_) (fun cdv A outer s H vs Q E hr h => ?_), F.bindsN fun _ _ _ _ _ _ us hl => match us, hl with | [_, _, _], _ => rfl⟩
  · obtain ⟨i, v, b, rfl, _⟩ := h
    rfl
  obtain ⟨i, v, b, rfl, hi, q⟩ := h
  refine ⟨_, PSs.nox (pss_cons (ps_if (pt_cmpR op_eq (pv 0) pe_int (nomark _)) (pss_one (ps_set (i := 3) sc__law_named.nd rfl (.inl rfl) (pe_ifExp (pt_val (pv 2)) (pe_errK (ks := ["name"]) (g := List.reverse) (gV := List.reverse) (T.e_Undefined hP) (hr.mono (by omega)) (by rfl) (pk_cons (pv 1) pk_nil) (fun r => r.reverse) (fun _ _ _ _ _ _ _ us hl => match us, hl with | [_], _ => rfl) (fun _ h => by simpa using h)) (pe_err (T.e_Undefined hP) (hr.mono (by omega)) (by rfl) (pa_cons (pv 1) pa_nil) (fun _ _ _ _ _ _ _ us hl => match us, hl with | [_], _ => rfl))))) (pss_one (ps_if (pt_cmpR op_eq (pv 0) pe_int (nomark _)) (pss_one (ps_set (i := 3) sc__law_named.nd rfl (.inl rfl) (pe_ifExp (pt_val (pv 2)) (pe_errK (ks := ["name"]) (g := List.reverse) (gV := List.reverse) (T.e_Incompatible hP) (hr.mono (by omega)) (by rfl) (pk_cons (pv 1) pk_nil) (fun r => r.reverse) (fun _ _ _ _ _ _ _ us hl => match us, hl with | [_], _ => rfl) (fun _ h => by simpa using h)) (pe_err (T.e_Incompatible hP) (hr.mono (by omega)) (by rfl) (pa_cons (pv 1) pa_nil) (fun _ _ _ _ _ _ _ us hl => match us, hl with | [_], _ => rfl))))) (pss_one (ps_if (pt_cmpR op_eq (pv 0) pe_int (nomark _)) (pss_one (ps_set (i := 3) sc__law_named.nd rfl (.inl rfl) (pe_ifExp (pt_val (pv 2)) (pe_errK (ks := ["name"]) (g := List.reverse) (gV := List.reverse) (T.e_Conflict hP) (hr.mono (by omega)) (by rfl) (pk_cons (pv 1) pk_nil) (fun r => r.reverse) (fun _ _ _ _ _ _ _ us hl => match us, hl with | [_], _ => rfl) (fun _ h => by simpa using h)) (pe_err (T.e_Conflict hP) (hr.mono (by omega)) (by rfl) (pa_cons (pv 1) pa_nil) (fun _ _ _ _ _ _ _ us hl => match us, hl with | [_], _ => rfl))))) (pss_one (ps_if (pt_cmpR op_eq (pv 0) pe_int (nomark _)) (pss_one (ps_set (i := 3) sc__law_named.nd rfl (.inl rfl) (pe_ifExp (pt_val (pv 2)) (pe_errK (ks := ["name"]) (g := List.reverse) (gV := List.reverse) (T.e_NoEntry hP) (hr.mono (by omega)) (by rfl) (pk_cons (pv 1) pk_nil) (fun r => r.reverse) (fun _ _ _ _ _ _ _ us hl => match us, hl with | [_], _ => rfl) (fun _ h => by simpa using h)) (pe_err (T.e_NoEntry hP) (hr.mono (by omega)) (by rfl) (pa_cons (pv 1) pa_nil) (fun _ _ _ _ _ _ _ us hl => match us, hl with | [_], _ => rfl))))) (pss_one (ps_set (i := 3) sc__law_named.nd rfl (.inl rfl) (pe_ifExp (pt_val (pv 2)) (pe_errK (ks := ["name"]) (g := List.reverse) (gV := List.reverse) (T.e_UnknownModule hP) (hr.mono (by omega)) (by rfl) (pk_cons (pv 1) pk_nil) (fun r => r.reverse) (fun _ _ _ _ _ _ _ us hl => match us, hl with | [_], _ => rfl) (fun _ h => by simpa using h)) (pe_err (T.e_UnknownModule hP) (hr.mono (by omega)) (by rfl) (pa_cons (pv 1) pa_nil) (fun _ _ _ _ _ _ _ us hl => match us, hl with | [_], _ => rfl))))))))))))
      (pss_one (ps_ret (pe_tup (pa_cons (pv 3) (pa_cons (pe_lst (pa_cons (pe_errF (pv 3)) pa_nil)) pa_nil)))))), ?_⟩
  unfold namedL at hi
  simp only [List.mem_cons, List.not_mem_nil, or_false] at hi
  rcases hi with rfl | rfl | rfl | rfl | rfl
  · cases b with
    | true =>
      refine ⟨.int 2, rfl, rfl, _, rfl, iteT ⟨.bl true, rfl, _, rfl, iteT ?_⟩⟩
      refine ⟨v, rfl, rfl, (by show 1 ≤ 1000; decide), fun e dx he hdx nd => ?_⟩
      refine ⟨.ref e, rfl, .ref e, rfl, e, _, dx, [("name", v)], v, rfl, upd_same, errDx nd, T.x_Undefined.xf, T.x_Undefined.no _ (by decide), rfl, (by show 1 ≤ sizeLine; decide), fun l hl => ⟨(by show 2 ≤ sizeLine; decide), fun t ht => q "Undefined" t _ rfl (got_of (fl := [("name", v)]) (errV_of nd) (errH_same he hdx) hl ht)⟩⟩
    | false =>
      refine ⟨.int 2, rfl, rfl, _, rfl, iteT ⟨.bl false, rfl, _, rfl, iteF ?_⟩⟩
      refine ⟨v, rfl, rfl, (by show 1 ≤ 1000; decide), fun e dx he hdx nd => ?_⟩
      refine ⟨.ref e, rfl, .ref e, rfl, e, _, dx, [("name", v)], v, rfl, upd_same, errDx nd, T.x_Undefined.xf, T.x_Undefined.no _ (by decide), rfl, (by show 1 ≤ sizeLine; decide), fun l hl => ⟨(by show 2 ≤ sizeLine; decide), fun t ht => q "Undefined" t _ rfl (got_of (fl := [("name", v)]) (errV_of nd) (errH_same he hdx) hl ht)⟩⟩
  · cases b with
    | true =>
      refine ⟨.int 3, rfl, rfl, _, rfl, iteF ⟨.int 3, rfl, rfl, _, rfl, iteT ⟨.bl true, rfl, _, rfl, iteT ?_⟩⟩⟩
      refine ⟨v, rfl, rfl, (by show 1 ≤ 1000; decide), fun e dx he hdx nd => ?_⟩
      refine ⟨.ref e, rfl, .ref e, rfl, e, _, dx, [("name", v)], v, rfl, upd_same, errDx nd, T.x_Incompatible.xf, T.x_Incompatible.no _ (by decide), rfl, (by show 1 ≤ sizeLine; decide), fun l hl => ⟨(by show 2 ≤ sizeLine; decide), fun t ht => q "Incompatible" t _ rfl (got_of (fl := [("name", v)]) (errV_of nd) (errH_same he hdx) hl ht)⟩⟩
    | false =>
      refine ⟨.int 3, rfl, rfl, _, rfl, iteF ⟨.int 3, rfl, rfl, _, rfl, iteT ⟨.bl false, rfl, _, rfl, iteF ?_⟩⟩⟩
      refine ⟨v, rfl, rfl, (by show 1 ≤ 1000; decide), fun e dx he hdx nd => ?_⟩
      refine ⟨.ref e, rfl, .ref e, rfl, e, _, dx, [("name", v)], v, rfl, upd_same, errDx nd, T.x_Incompatible.xf, T.x_Incompatible.no _ (by decide), rfl, (by show 1 ≤ sizeLine; decide), fun l hl => ⟨(by show 2 ≤ sizeLine; decide), fun t ht => q "Incompatible" t _ rfl (got_of (fl := [("name", v)]) (errV_of nd) (errH_same he hdx) hl ht)⟩⟩
  · cases b with
    | true =>
      refine ⟨.int 4, rfl, rfl, _, rfl, iteF ⟨.int 4, rfl, rfl, _, rfl, iteF ⟨.int 4, rfl, rfl, _, rfl, iteT ⟨.bl true, rfl, _, rfl, iteT ?_⟩⟩⟩⟩
      refine ⟨v, rfl, rfl, (by show 1 ≤ 1000; decide), fun e dx he hdx nd => ?_⟩
      refine ⟨.ref e, rfl, .ref e, rfl, e, _, dx, [("name", v)], v, rfl, upd_same, errDx nd, T.x_Conflict.xf, T.x_Conflict.no _ (by decide), rfl, (by show 1 ≤ sizeLine; decide), fun l hl => ⟨(by show 2 ≤ sizeLine; decide), fun t ht => q "Conflict" t _ rfl (got_of (fl := [("name", v)]) (errV_of nd) (errH_same he hdx) hl ht)⟩⟩
    | false =>
      refine ⟨.int 4, rfl, rfl, _, rfl, iteF ⟨.int 4, rfl, rfl, _, rfl, iteF ⟨.int 4, rfl, rfl, _, rfl, iteT ⟨.bl false, rfl, _, rfl, iteF ?_⟩⟩⟩⟩
      refine ⟨v, rfl, rfl, (by show 1 ≤ 1000; decide), fun e dx he hdx nd => ?_⟩
      refine ⟨.ref e, rfl, .ref e, rfl, e, _, dx, [("name", v)], v, rfl, upd_same, errDx nd, T.x_Conflict.xf, T.x_Conflict.no _ (by decide), rfl, (by show 1 ≤ sizeLine; decide), fun l hl => ⟨(by show 2 ≤ sizeLine; decide), fun t ht => q "Conflict" t _ rfl (got_of (fl := [("name", v)]) (errV_of nd) (errH_same he hdx) hl ht)⟩⟩
  · cases b with
    | true =>
      refine ⟨.int 5, rfl, rfl, _, rfl, iteF ⟨.int 5, rfl, rfl, _, rfl, iteF ⟨.int 5, rfl, rfl, _, rfl, iteF ⟨.int 5, rfl, rfl, _, rfl, iteT ⟨.bl true, rfl, _, rfl, iteT ?_⟩⟩⟩⟩⟩
      refine ⟨v, rfl, rfl, (by show 1 ≤ 1000; decide), fun e dx he hdx nd => ?_⟩
      refine ⟨.ref e, rfl, .ref e, rfl, e, _, dx, [("name", v)], v, rfl, upd_same, errDx nd, T.x_NoEntry.xf, T.x_NoEntry.no _ (by decide), rfl, (by show 1 ≤ sizeLine; decide), fun l hl => ⟨(by show 2 ≤ sizeLine; decide), fun t ht => q "NoEntry" t _ rfl (got_of (fl := [("name", v)]) (errV_of nd) (errH_same he hdx) hl ht)⟩⟩
    | false =>
      refine ⟨.int 5, rfl, rfl, _, rfl, iteF ⟨.int 5, rfl, rfl, _, rfl, iteF ⟨.int 5, rfl, rfl, _, rfl, iteF ⟨.int 5, rfl, rfl, _, rfl, iteT ⟨.bl false, rfl, _, rfl, iteF ?_⟩⟩⟩⟩⟩
      refine ⟨v, rfl, rfl, (by show 1 ≤ 1000; decide), fun e dx he hdx nd => ?_⟩
      refine ⟨.ref e, rfl, .ref e, rfl, e, _, dx, [("name", v)], v, rfl, upd_same, errDx nd, T.x_NoEntry.xf, T.x_NoEntry.no _ (by decide), rfl, (by show 1 ≤ sizeLine; decide), fun l hl => ⟨(by show 2 ≤ sizeLine; decide), fun t ht => q "NoEntry" t _ rfl (got_of (fl := [("name", v)]) (errV_of nd) (errH_same he hdx) hl ht)⟩⟩
  · cases b with
    | true =>
      refine ⟨.int 13, rfl, rfl, _, rfl, iteF ⟨.int 13, rfl, rfl, _, rfl, iteF ⟨.int 13, rfl, rfl, _, rfl, iteF ⟨.int 13, rfl, rfl, _, rfl, iteF ⟨.bl true, rfl, _, rfl, iteT ?_⟩⟩⟩⟩⟩
      refine ⟨v, rfl, rfl, (by show 1 ≤ 1000; decide), fun e dx he hdx nd => ?_⟩
      refine ⟨.ref e, rfl, .ref e, rfl, e, _, dx, [("name", v)], v, rfl, upd_same, errDx nd, T.x_UnknownModule.xf, T.x_UnknownModule.no _ (by decide), rfl, (by show 1 ≤ sizeLine; decide), fun l hl => ⟨(by show 2 ≤ sizeLine; decide), fun t ht => q "UnknownModule" t _ rfl (got_of (fl := [("name", v)]) (errV_of nd) (errH_same he hdx) hl ht)⟩⟩
    | false =>
      refine ⟨.int 13, rfl, rfl, _, rfl, iteF ⟨.int 13, rfl, rfl, _, rfl, iteF ⟨.int 13, rfl, rfl, _, rfl, iteF ⟨.int 13, rfl, rfl, _, rfl, iteF ⟨.bl false, rfl, _, rfl, iteF ?_⟩⟩⟩⟩⟩
      refine ⟨v, rfl, rfl, (by show 1 ≤ 1000; decide), fun e dx he hdx nd => ?_⟩
      refine ⟨.ref e, rfl, .ref e, rfl, e, _, dx, [("name", v)], v, rfl, upd_same, errDx nd, T.x_UnknownModule.xf, T.x_UnknownModule.no _ (by decide), rfl, (by show 1 ≤ sizeLine; decide), fun l hl => ⟨(by show 2 ≤ sizeLine; decide), fun t ht => q "UnknownModule" t _ rfl (got_of (fl := [("name", v)]) (errV_of nd) (errH_same he hdx) hl ht)⟩⟩
end
end K01

set_option maxHeartbeats 4000000
set_option pp.maxSteps 600
namespace K01
open PySem PySem.Spec PyProof.Rows L2 HG
theorem Got.back {K : PySem.W.Frag} {H H1 H' : Hp} {t : Addr} {x : Str} {ws : List V} (s : Same H H1) (g : Got K H1 H' t x ws) : Got K H H' t x ws := by
  obtain ⟨e, l, fl, a, b, c, d⟩ := g
  exact ⟨e, l, fl, a, b, c, s.trans d⟩
def cntOf (i : Nat) : Nat := if i = 9 then 4 else if i = 11 then 2 else if i = 12 then 3 else 1
section
variable {P : Program} {w : World} {K : PySem.W.Frag} {mg : Str → Option Value} {base : Heap}
def spMade (K : PySem.W.Frag) : Sp := fun vs H Q _ => ∃ (i : Nat) (s : Addr) (v1 v2 v3 v4 : V) (b : Bool), vs = [.int i, .ref s, .bl b] ∧ i < 16 ∧ i ∉ plainL ∧ SqL K H s [v1, v2, v3, v4] ∧ ∀ (x : Str) (t : Addr) (H' : Hp), es[i]? = some x → Got K H H' t x ([v1, v2, v3, v4].take (cntOf i)) → Q (.ref t) H'
theorem ok_made (T : Txt w K mg) (hP : PrgOk file P) : ∃ fd, FnOk P w K mg base CX0 3 (He.ga K "_law_made") fd ["_law_at", "_law_some", "_law_by_name"] (spMade K) ∧ Binds K fd ["_law_at", "_law_some", "_law_by_name"] [] := by
  obtain ⟨fd, F⟩ := T.d__law_made
  have C__law_named : Cal P w K mg base "_law_named" 2 ["_law_at", "_law_one", "_law_by_name"] (spNamed K) := ⟨ok_named T hP, T.g _ (by decide), by obtain ⟨fd, F⟩ := T.d__law_named; exact F.kp⟩
  refine ⟨fd, F.ok sc__law_made (fun vs H Q E h => ?_) (fun cdv A outer s H vs Q E hr h => ?_), F.bindsN fun _ _ _ _ _ _ us hl => match us, hl with | [_, _, _], _ => rfl⟩
  · obtain ⟨i, s, v1, v2, v3, v4, b, rfl, _⟩ := h
    rfl
  obtain ⟨i, s, v1, v2, v3, v4, b, rfl, hi, hnp, hS, q⟩ := h
  refine ⟨_, PSs.nox (pss_cons (ps_asg (pv 1) (pg_unl rfl (pgs_cons (pg_name (i := 3) sc__law_made.nd rfl (.inl rfl)) (pgs_cons (pg_name (i := 4) sc__law_made.nd rfl (.inl rfl)) (pgs_cons (pg_name (i := 5) sc__law_made.nd rfl (.inl rfl)) (pgs_cons (pg_name (i := 6) sc__law_made.nd rfl (.inl rfl)) pgs_nil))))))
      (pss_cons (ps_if (pt_cmpR op_in_seq (pv 0) (pe_tup (pa_cons pe_int (pa_cons pe_int (pa_cons pe_int (pa_cons pe_int (pa_cons pe_int pa_nil)))))) (by rfl)) (pss_one (ps_ret (pe_cal C__law_named (hr.mono (by omega)) (by rfl) (pa_cons (pv 0) (pa_cons (pv 3) (pa_cons (pv 2) pa_nil)))))) pss_nil)
      (pss_cons (ps_if (pt_cmpR op_eq (pv 0) pe_int (nomark _)) (pss_cons (ps_set (i := 7) sc__law_made.nd rfl (.inl rfl) (pe_ifExp (pt_val (pv 2)) (pe_errK (ks := ["module"]) (g := List.reverse) (gV := List.reverse) (T.e_InvalidObject hP) (hr.mono (by omega)) (by rfl) (pk_cons (pv 3) pk_nil) (fun r => r.reverse) (fun _ _ _ _ _ _ _ us hl => match us, hl with | [_], _ => rfl) (fun _ h => by simpa using h)) (pe_err (T.e_InvalidObject hP) (hr.mono (by omega)) (by rfl) (pa_cons (pv 3) pa_nil) (fun _ _ _ _ _ _ _ us hl => match us, hl with | [_], _ => rfl))))
      (pss_one (ps_ret (pe_tup (pa_cons (pv 7) (pa_cons (pe_lst (pa_cons (pe_errF (pv 7)) pa_nil)) pa_nil)))))) pss_nil)
      (pss_cons (ps_if (pt_cmpR op_eq (pv 0) pe_int (nomark _)) (pss_cons (ps_set (i := 7) sc__law_made.nd rfl (.inl rfl) (pe_ifExp (pt_val (pv 2)) (pe_errK (ks := ["module"]) (g := List.reverse) (gV := List.reverse) (T.e_Outdated hP) (hr.mono (by omega)) (by rfl) (pk_cons (pv 3) pk_nil) (fun r => r.reverse) (fun _ _ _ _ _ _ _ us hl => match us, hl with | [_], _ => rfl) (fun _ h => by simpa using h)) (pe_err (T.e_Outdated hP) (hr.mono (by omega)) (by rfl) (pa_cons (pv 3) pa_nil) (fun _ _ _ _ _ _ _ us hl => match us, hl with | [_], _ => rfl))))
      (pss_one (ps_ret (pe_tup (pa_cons (pv 7) (pa_cons (pe_lst (pa_cons (pe_errF (pv 7)) pa_nil)) pa_nil)))))) pss_nil)
      (pss_cons (ps_if (pt_cmpR op_eq (pv 0) pe_int (nomark _)) (pss_cons (ps_set (i := 7) sc__law_made.nd rfl (.inl rfl) (pe_err (T.e_Stale hP) (hr.mono (by omega)) (by rfl) (pa_cons (pv 3) (pa_cons (pv 4) (pa_cons (pv 5) (pa_cons (pv 6) pa_nil)))) (fun _ _ _ _ _ _ _ us hl => match us, hl with | [_, _, _, _], _ => rfl)))
      (pss_cons (ps_if (pt_val (pv 2)) (pss_one (ps_set (i := 7) sc__law_made.nd rfl (.inl rfl) (pe_errK (ks := ["actual", "expected", "question", "module"]) (g := List.reverse) (gV := List.reverse) (T.e_Stale hP) (hr.mono (by omega)) (by rfl) (pk_cons (pv 6) (pk_cons (pv 5) (pk_cons (pv 4) (pk_cons (pv 3) pk_nil)))) (fun r => r.reverse) (fun _ _ _ _ _ _ _ us hl => match us, hl with | [_, _, _, _], _ => rfl) (fun _ h => by simpa using h)))) pss_nil)
      (pss_one (ps_ret (pe_tup (pa_cons (pv 7) (pa_cons (pe_lst (pa_cons (pe_errF (pv 7)) (pa_cons (pe_errF (pv 7)) (pa_cons (pe_errF (pv 7)) (pa_cons (pe_errF (pv 7)) pa_nil))))) pa_nil))))))) pss_nil)
      (pss_cons (ps_if (pt_cmpR op_eq (pv 0) pe_int (nomark _)) (pss_cons (ps_set (i := 7) sc__law_made.nd rfl (.inl rfl) (pe_ifExp (pt_val (pv 2)) (pe_errK (ks := ["module"]) (g := List.reverse) (gV := List.reverse) (T.e_Rejected hP) (hr.mono (by omega)) (by rfl) (pk_cons (pv 3) pk_nil) (fun r => r.reverse) (fun _ _ _ _ _ _ _ us hl => match us, hl with | [_], _ => rfl) (fun _ h => by simpa using h)) (pe_err (T.e_Rejected hP) (hr.mono (by omega)) (by rfl) (pa_cons (pv 3) pa_nil) (fun _ _ _ _ _ _ _ us hl => match us, hl with | [_], _ => rfl))))
      (pss_one (ps_ret (pe_tup (pa_cons (pv 7) (pa_cons (pe_lst (pa_cons (pe_errF (pv 7)) pa_nil)) pa_nil)))))) pss_nil)
      (pss_cons (ps_if (pt_cmpR op_eq (pv 0) pe_int (nomark _)) (pss_cons (ps_set (i := 7) sc__law_made.nd rfl (.inl rfl) (pe_ifExp (pt_val (pv 2)) (pe_errK (ks := ["name", "user"]) (g := List.reverse) (gV := List.reverse) (T.e_Missing hP) (hr.mono (by omega)) (by rfl) (pk_cons (pv 4) (pk_cons (pv 3) pk_nil)) (fun r => r.reverse) (fun _ _ _ _ _ _ _ us hl => match us, hl with | [_, _], _ => rfl) (fun _ h => by simpa using h)) (pe_err (T.e_Missing hP) (hr.mono (by omega)) (by rfl) (pa_cons (pv 3) (pa_cons (pv 4) pa_nil)) (fun _ _ _ _ _ _ _ us hl => match us, hl with | [_, _], _ => rfl))))
      (pss_one (ps_ret (pe_tup (pa_cons (pv 7) (pa_cons (pe_lst (pa_cons (pe_errF (pv 7)) (pa_cons (pe_errF (pv 7)) pa_nil))) pa_nil)))))) pss_nil)
      (pss_cons (ps_set (i := 7) sc__law_made.nd rfl (.inl rfl) (pe_ifExp (pt_val (pv 2)) (pe_errK (ks := ["name", "definer", "user"]) (g := List.reverse) (gV := List.reverse) (T.e_Disagreement hP) (hr.mono (by omega)) (by rfl) (pk_cons (pv 5) (pk_cons (pv 4) (pk_cons (pv 3) pk_nil))) (fun r => r.reverse) (fun _ _ _ _ _ _ _ us hl => match us, hl with | [_, _, _], _ => rfl) (fun _ h => by simpa using h)) (pe_err (T.e_Disagreement hP) (hr.mono (by omega)) (by rfl) (pa_cons (pv 3) (pa_cons (pv 4) (pa_cons (pv 5) pa_nil))) (fun _ _ _ _ _ _ _ us hl => match us, hl with | [_, _, _], _ => rfl))))
      (pss_one (ps_ret (pe_tup (pa_cons (pv 7) (pa_cons (pe_lst (pa_cons (pe_errF (pv 7)) (pa_cons (pe_errF (pv 7)) (pa_cons (pe_errF (pv 7)) pa_nil)))) pa_nil))))))))))))), ?_⟩
  refine ⟨.ref s, rfl, s, _, rfl, hS, rfl, _, _, rfl, _, _, rfl, _, _, rfl, _, _, rfl, rfl, ?_⟩
  refine ⟨.int i, rfl, (by show 5 ≤ sizeLine; decide), fun tp htp => ⟨tp, _, rfl, .inr (.inl (.inl upd_same)), rfl, rfl, _, rfl, ?_⟩⟩
  have s1 : Same H (upd H tp (.tup [.int 2, .int 3, .int 4, .int 5, .int 13])) := fun b o h => upd_get htp h
  generalize upd H tp (.tup [.int 2, .int 3, .int 4, .int 5, .int 13]) = H1 at s1 ⊢
  have q1 : ∀ (x : Str) (t : Addr) (H' : Hp), es[i]? = some x → Got K H1 H' t x ([v1, v2, v3, v4].take (cntOf i)) → Q (.ref t) H' := fun x t H' hx g => q x t H' hx (g.back s1)
  have hcase : i = 2 ∨ i = 3 ∨ i = 4 ∨ i = 5 ∨ i = 13 ∨ i = 7 ∨ i = 8 ∨ i = 9 ∨ i = 10 ∨ i = 11 ∨ i = 12 := by
    unfold plainL at hnp
    simp only [List.mem_cons, List.not_mem_nil, or_false] at hnp
    omega
  rcases hcase with rfl | rfl | rfl | rfl | rfl | rfl | rfl | rfl | rfl | rfl | rfl
  · exact iteT ⟨.int 2, rfl, v1, rfl, .bl b, rfl, 2, v1, b, rfl, by decide, fun x t H' hx g => q1 x t H' hx g⟩
  · exact iteT ⟨.int 3, rfl, v1, rfl, .bl b, rfl, 3, v1, b, rfl, by decide, fun x t H' hx g => q1 x t H' hx g⟩
  · exact iteT ⟨.int 4, rfl, v1, rfl, .bl b, rfl, 4, v1, b, rfl, by decide, fun x t H' hx g => q1 x t H' hx g⟩
  · exact iteT ⟨.int 5, rfl, v1, rfl, .bl b, rfl, 5, v1, b, rfl, by decide, fun x t H' hx g => q1 x t H' hx g⟩
  · exact iteT ⟨.int 13, rfl, v1, rfl, .bl b, rfl, 13, v1, b, rfl, by decide, fun x t H' hx g => q1 x t H' hx g⟩
  · cases b with
    | true =>
      refine iteF ⟨.int 7, rfl, rfl, _, rfl, iteT ⟨.bl true, rfl, _, rfl, iteT ?_⟩⟩
      refine ⟨v1, rfl, rfl, (by show 1 ≤ 1000; decide), fun e dx he hdx nd => ?_⟩
      refine ⟨.ref e, rfl, .ref e, rfl, e, _, dx, [("module", v1)], v1, rfl, upd_same, errDx nd, T.x_InvalidObject.xf, T.x_InvalidObject.no _ (by decide), rfl, (by show 1 ≤ sizeLine; decide), fun l hl => ⟨(by show 2 ≤ sizeLine; decide), fun t ht => q1 "InvalidObject" t _ rfl (got_of (fl := [("module", v1)]) (errV_of nd) (errH_same he hdx) hl ht)⟩⟩
    | false =>
      refine iteF ⟨.int 7, rfl, rfl, _, rfl, iteT ⟨.bl false, rfl, _, rfl, iteF ?_⟩⟩
      refine ⟨v1, rfl, rfl, (by show 1 ≤ 1000; decide), fun e dx he hdx nd => ?_⟩
      refine ⟨.ref e, rfl, .ref e, rfl, e, _, dx, [("module", v1)], v1, rfl, upd_same, errDx nd, T.x_InvalidObject.xf, T.x_InvalidObject.no _ (by decide), rfl, (by show 1 ≤ sizeLine; decide), fun l hl => ⟨(by show 2 ≤ sizeLine; decide), fun t ht => q1 "InvalidObject" t _ rfl (got_of (fl := [("module", v1)]) (errV_of nd) (errH_same he hdx) hl ht)⟩⟩
  · cases b with
    | true =>
      refine iteF ⟨.int 8, rfl, rfl, _, rfl, iteF ⟨.int 8, rfl, rfl, _, rfl, iteT ⟨.bl true, rfl, _, rfl, iteT ?_⟩⟩⟩
      refine ⟨v1, rfl, rfl, (by show 1 ≤ 1000; decide), fun e dx he hdx nd => ?_⟩
      refine ⟨.ref e, rfl, .ref e, rfl, e, _, dx, [("module", v1)], v1, rfl, upd_same, errDx nd, T.x_Outdated.xf, T.x_Outdated.no _ (by decide), rfl, (by show 1 ≤ sizeLine; decide), fun l hl => ⟨(by show 2 ≤ sizeLine; decide), fun t ht => q1 "Outdated" t _ rfl (got_of (fl := [("module", v1)]) (errV_of nd) (errH_same he hdx) hl ht)⟩⟩
    | false =>
      refine iteF ⟨.int 8, rfl, rfl, _, rfl, iteF ⟨.int 8, rfl, rfl, _, rfl, iteT ⟨.bl false, rfl, _, rfl, iteF ?_⟩⟩⟩
      refine ⟨v1, rfl, rfl, (by show 1 ≤ 1000; decide), fun e dx he hdx nd => ?_⟩
      refine ⟨.ref e, rfl, .ref e, rfl, e, _, dx, [("module", v1)], v1, rfl, upd_same, errDx nd, T.x_Outdated.xf, T.x_Outdated.no _ (by decide), rfl, (by show 1 ≤ sizeLine; decide), fun l hl => ⟨(by show 2 ≤ sizeLine; decide), fun t ht => q1 "Outdated" t _ rfl (got_of (fl := [("module", v1)]) (errV_of nd) (errH_same he hdx) hl ht)⟩⟩
  · cases b with
    | true =>
      refine iteF ⟨.int 9, rfl, rfl, _, rfl, iteF ⟨.int 9, rfl, rfl, _, rfl, iteF ⟨.int 9, rfl, rfl, _, rfl, iteT ⟨v1, rfl, v2, rfl, v3, rfl, v4, rfl, rfl, (by show 4 ≤ 1000; decide), fun e dx he hdx nd => ?_⟩⟩⟩⟩
      refine ⟨.bl true, rfl, _, rfl, iteT ?_⟩
      refine ⟨v4, rfl, v3, rfl, v2, rfl, v1, rfl, rfl, (by show 4 ≤ 1000; decide), fun e2 dx2 he2 hdx2 nd2 => ?_⟩
      refine ⟨.ref e2, rfl, .ref e2, rfl, e2, _, dx2, [("actual", v4), ("expected", v3), ("question", v2), ("module", v1)], v1, rfl, upd_same, errDx nd2, T.x_Stale.xf, T.x_Stale.no _ (by decide), rfl, .ref e2, rfl, e2, _, dx2, [("actual", v4), ("expected", v3), ("question", v2), ("module", v1)], v2, rfl, upd_same, errDx nd2, T.x_Stale.xf, T.x_Stale.no _ (by decide), rfl, .ref e2, rfl, e2, _, dx2, [("actual", v4), ("expected", v3), ("question", v2), ("module", v1)], v3, rfl, upd_same, errDx nd2, T.x_Stale.xf, T.x_Stale.no _ (by decide), rfl, .ref e2, rfl, e2, _, dx2, [("actual", v4), ("expected", v3), ("question", v2), ("module", v1)], v4, rfl, upd_same, errDx nd2, T.x_Stale.xf, T.x_Stale.no _ (by decide), rfl, (by show 4 ≤ sizeLine; decide), fun l hl => ⟨(by show 2 ≤ sizeLine; decide), fun t ht => q1 "Stale" t _ rfl ((got_of (fl := [("actual", v4), ("expected", v3), ("question", v2), ("module", v1)]) (errV_of nd2) (errH_same he2 hdx2) hl ht).back (errH_same he hdx))⟩⟩
    | false =>
      refine iteF ⟨.int 9, rfl, rfl, _, rfl, iteF ⟨.int 9, rfl, rfl, _, rfl, iteF ⟨.int 9, rfl, rfl, _, rfl, iteT ⟨v1, rfl, v2, rfl, v3, rfl, v4, rfl, rfl, (by show 4 ≤ 1000; decide), fun e dx he hdx nd => ?_⟩⟩⟩⟩
      refine ⟨.bl false, rfl, _, rfl, iteF ?_⟩
      refine ⟨.ref e, rfl, .ref e, rfl, e, _, dx, [("actual", v4), ("expected", v3), ("question", v2), ("module", v1)], v1, rfl, upd_same, errDx nd, T.x_Stale.xf, T.x_Stale.no _ (by decide), rfl, .ref e, rfl, e, _, dx, [("actual", v4), ("expected", v3), ("question", v2), ("module", v1)], v2, rfl, upd_same, errDx nd, T.x_Stale.xf, T.x_Stale.no _ (by decide), rfl, .ref e, rfl, e, _, dx, [("actual", v4), ("expected", v3), ("question", v2), ("module", v1)], v3, rfl, upd_same, errDx nd, T.x_Stale.xf, T.x_Stale.no _ (by decide), rfl, .ref e, rfl, e, _, dx, [("actual", v4), ("expected", v3), ("question", v2), ("module", v1)], v4, rfl, upd_same, errDx nd, T.x_Stale.xf, T.x_Stale.no _ (by decide), rfl, (by show 4 ≤ sizeLine; decide), fun l hl => ⟨(by show 2 ≤ sizeLine; decide), fun t ht => q1 "Stale" t _ rfl (got_of (fl := [("actual", v4), ("expected", v3), ("question", v2), ("module", v1)]) (errV_of nd) (errH_same he hdx) hl ht)⟩⟩
  · cases b with
    | true =>
      refine iteF ⟨.int 10, rfl, rfl, _, rfl, iteF ⟨.int 10, rfl, rfl, _, rfl, iteF ⟨.int 10, rfl, rfl, _, rfl, iteF ⟨.int 10, rfl, rfl, _, rfl, iteT ⟨.bl true, rfl, _, rfl, iteT ?_⟩⟩⟩⟩⟩
      refine ⟨v1, rfl, rfl, (by show 1 ≤ 1000; decide), fun e dx he hdx nd => ?_⟩
      refine ⟨.ref e, rfl, .ref e, rfl, e, _, dx, [("module", v1)], v1, rfl, upd_same, errDx nd, T.x_Rejected.xf, T.x_Rejected.no _ (by decide), rfl, (by show 1 ≤ sizeLine; decide), fun l hl => ⟨(by show 2 ≤ sizeLine; decide), fun t ht => q1 "Rejected" t _ rfl (got_of (fl := [("module", v1)]) (errV_of nd) (errH_same he hdx) hl ht)⟩⟩
    | false =>
      refine iteF ⟨.int 10, rfl, rfl, _, rfl, iteF ⟨.int 10, rfl, rfl, _, rfl, iteF ⟨.int 10, rfl, rfl, _, rfl, iteF ⟨.int 10, rfl, rfl, _, rfl, iteT ⟨.bl false, rfl, _, rfl, iteF ?_⟩⟩⟩⟩⟩
      refine ⟨v1, rfl, rfl, (by show 1 ≤ 1000; decide), fun e dx he hdx nd => ?_⟩
      refine ⟨.ref e, rfl, .ref e, rfl, e, _, dx, [("module", v1)], v1, rfl, upd_same, errDx nd, T.x_Rejected.xf, T.x_Rejected.no _ (by decide), rfl, (by show 1 ≤ sizeLine; decide), fun l hl => ⟨(by show 2 ≤ sizeLine; decide), fun t ht => q1 "Rejected" t _ rfl (got_of (fl := [("module", v1)]) (errV_of nd) (errH_same he hdx) hl ht)⟩⟩
  · cases b with
    | true =>
      refine iteF ⟨.int 11, rfl, rfl, _, rfl, iteF ⟨.int 11, rfl, rfl, _, rfl, iteF ⟨.int 11, rfl, rfl, _, rfl, iteF ⟨.int 11, rfl, rfl, _, rfl, iteF ⟨.int 11, rfl, rfl, _, rfl, iteT ⟨.bl true, rfl, _, rfl, iteT ?_⟩⟩⟩⟩⟩⟩
      refine ⟨v2, rfl, v1, rfl, rfl, (by show 2 ≤ 1000; decide), fun e dx he hdx nd => ?_⟩
      refine ⟨.ref e, rfl, .ref e, rfl, e, _, dx, [("name", v2), ("user", v1)], v1, rfl, upd_same, errDx nd, T.x_Missing.xf, T.x_Missing.no _ (by decide), rfl, .ref e, rfl, e, _, dx, [("name", v2), ("user", v1)], v2, rfl, upd_same, errDx nd, T.x_Missing.xf, T.x_Missing.no _ (by decide), rfl, (by show 2 ≤ sizeLine; decide), fun l hl => ⟨(by show 2 ≤ sizeLine; decide), fun t ht => q1 "Missing" t _ rfl (got_of (fl := [("name", v2), ("user", v1)]) (errV_of nd) (errH_same he hdx) hl ht)⟩⟩
    | false =>
      refine iteF ⟨.int 11, rfl, rfl, _, rfl, iteF ⟨.int 11, rfl, rfl, _, rfl, iteF ⟨.int 11, rfl, rfl, _, rfl, iteF ⟨.int 11, rfl, rfl, _, rfl, iteF ⟨.int 11, rfl, rfl, _, rfl, iteT ⟨.bl false, rfl, _, rfl, iteF ?_⟩⟩⟩⟩⟩⟩
      refine ⟨v1, rfl, v2, rfl, rfl, (by show 2 ≤ 1000; decide), fun e dx he hdx nd => ?_⟩
      refine ⟨.ref e, rfl, .ref e, rfl, e, _, dx, [("name", v2), ("user", v1)], v1, rfl, upd_same, errDx nd, T.x_Missing.xf, T.x_Missing.no _ (by decide), rfl, .ref e, rfl, e, _, dx, [("name", v2), ("user", v1)], v2, rfl, upd_same, errDx nd, T.x_Missing.xf, T.x_Missing.no _ (by decide), rfl, (by show 2 ≤ sizeLine; decide), fun l hl => ⟨(by show 2 ≤ sizeLine; decide), fun t ht => q1 "Missing" t _ rfl (got_of (fl := [("name", v2), ("user", v1)]) (errV_of nd) (errH_same he hdx) hl ht)⟩⟩
  · cases b with
    | true =>
      refine iteF ⟨.int 12, rfl, rfl, _, rfl, iteF ⟨.int 12, rfl, rfl, _, rfl, iteF ⟨.int 12, rfl, rfl, _, rfl, iteF ⟨.int 12, rfl, rfl, _, rfl, iteF ⟨.int 12, rfl, rfl, _, rfl, iteF ⟨.bl true, rfl, _, rfl, iteT ?_⟩⟩⟩⟩⟩⟩
      refine ⟨v3, rfl, v2, rfl, v1, rfl, rfl, (by show 3 ≤ 1000; decide), fun e dx he hdx nd => ?_⟩
      refine ⟨.ref e, rfl, .ref e, rfl, e, _, dx, [("name", v3), ("definer", v2), ("user", v1)], v1, rfl, upd_same, errDx nd, T.x_Disagreement.xf, T.x_Disagreement.no _ (by decide), rfl, .ref e, rfl, e, _, dx, [("name", v3), ("definer", v2), ("user", v1)], v2, rfl, upd_same, errDx nd, T.x_Disagreement.xf, T.x_Disagreement.no _ (by decide), rfl, .ref e, rfl, e, _, dx, [("name", v3), ("definer", v2), ("user", v1)], v3, rfl, upd_same, errDx nd, T.x_Disagreement.xf, T.x_Disagreement.no _ (by decide), rfl, (by show 3 ≤ sizeLine; decide), fun l hl => ⟨(by show 2 ≤ sizeLine; decide), fun t ht => q1 "Disagreement" t _ rfl (got_of (fl := [("name", v3), ("definer", v2), ("user", v1)]) (errV_of nd) (errH_same he hdx) hl ht)⟩⟩
    | false =>
      refine iteF ⟨.int 12, rfl, rfl, _, rfl, iteF ⟨.int 12, rfl, rfl, _, rfl, iteF ⟨.int 12, rfl, rfl, _, rfl, iteF ⟨.int 12, rfl, rfl, _, rfl, iteF ⟨.int 12, rfl, rfl, _, rfl, iteF ⟨.bl false, rfl, _, rfl, iteF ?_⟩⟩⟩⟩⟩⟩
      refine ⟨v1, rfl, v2, rfl, v3, rfl, rfl, (by show 3 ≤ 1000; decide), fun e dx he hdx nd => ?_⟩
      refine ⟨.ref e, rfl, .ref e, rfl, e, _, dx, [("name", v3), ("definer", v2), ("user", v1)], v1, rfl, upd_same, errDx nd, T.x_Disagreement.xf, T.x_Disagreement.no _ (by decide), rfl, .ref e, rfl, e, _, dx, [("name", v3), ("definer", v2), ("user", v1)], v2, rfl, upd_same, errDx nd, T.x_Disagreement.xf, T.x_Disagreement.no _ (by decide), rfl, .ref e, rfl, e, _, dx, [("name", v3), ("definer", v2), ("user", v1)], v3, rfl, upd_same, errDx nd, T.x_Disagreement.xf, T.x_Disagreement.no _ (by decide), rfl, (by show 3 ≤ sizeLine; decide), fun l hl => ⟨(by show 2 ≤ sizeLine; decide), fun t ht => q1 "Disagreement" t _ rfl (got_of (fl := [("name", v3), ("definer", v2), ("user", v1)]) (errV_of nd) (errH_same he hdx) hl ht)⟩⟩
end
end K01

set_option maxHeartbeats 4000000
set_option pp.maxSteps 600
namespace K01
open PySem PySem.Spec PyProof.Rows L2 HG
theorem canLay_strs : ∀ zs : List Str, (∀ z ∈ zs, asc z) → PyData.canLayAll0 (zs.map PyData.str) = true
  | [], _ => by simp only [List.map_nil, PyData.canLayAll0]
  | n :: ns, h => by simp only [List.map_cons, PyData.canLayAll0, PyData.canLay0, canLay_strs ns (fun z hz => h z (List.mem_cons_of_mem _ hz)), asc_ok (h n List.mem_cons_self), Bool.and_self]
theorem depth_strs : ∀ zs : List Str, PyData.depthAll (zs.map PyData.str) ≤ 1
  | [] => by simp only [List.map_nil, PyData.depthAll]; omega
  | n :: ns => by
    have := depth_strs ns
    simp only [List.map_cons, PyData.depthAll, PyData.depth]
    omega
theorem shaped_strs (zs : List Str) (ha : ∀ z ∈ zs, asc z) : SeqAt.shaped (.list (zs.map PyData.str)) = true := by
  have h := depth_strs zs
  have h2 : (PyData.list (zs.map PyData.str)).depth ≤ 64 := by
    simp only [PyData.depth]
    omega
  unfold SeqAt.shaped
  simp only [PyData.canLay0, canLay_strs zs ha, Bool.true_and]
  exact decide_eq_true h2
theorem dpStrs {K : PySem.W.Frag} {H : Hp} : ∀ zs : List Str, DpAll K H (zs.map V.str) (zs.map PyData.str)
  | [] => .nil
  | b :: bs => .cons (.str b) (dpStrs bs)
theorem eqv_strs (zs : List Str) (ha : ∀ z ∈ zs, asc z) : PyData.eqv (.list (zs.map PyData.str)) (.list (zs.map PyData.str)) = true := SeqAt.eqv_refl _ (SeqAt.canLay_of_shaped (shaped_strs zs ha))
theorem Sz.sh3 {D : PyData} (h : Sz 3 D) : D.depth ≤ 150 ∧ D.shown.length ≤ sizeLine := ⟨Nat.le_trans h.dp (by decide), Nat.le_trans h.ln (by decide)⟩
theorem dpAll_take {K : PySem.W.Frag} {H : Hp} : ∀ {vs : List V} {ds : List PyData} (n : Nat), DpAll K H vs ds → DpAll K H (vs.take n) (ds.take n)
  | _, _, 0, _ => .nil
  | _, _, n + 1, .nil => .nil
  | _, _, n + 1, .cons a b => .cons a (dpAll_take n b)
section
variable {P : Program} {w : World} {K : PySem.W.Frag} {mg : Str → Option Value} {base : Heap}
def spLaw (K : PySem.W.Frag) : Sp := fun vs H Q _ => ∃ (a : Addr) (ns : List Int), vs = [.ref a] ∧ SqL K H a (ns.map V.int) ∧ ns.length ≤ 63 ∧ ∀ H', Q (.bl true) H'
theorem ok_law (T : Txt w K mg) (hP : PrgOk file P) {fd : FuncData} (F : FunD K "law" "law" (defArgs s_law) (defBody s_law) (defScope s_law) [] [] (He.ga K "law") fd) : FnG P w K mg base CX0 10 (He.ga K "law") fd ["_law_script"] (spLaw K) := by
  have C__law_deck : Cal P w K mg base "_law_deck" 1 ["_law_script"] (spDeck K) := ⟨ok_deck T, T.g _ (by decide), by obtain ⟨fd, F⟩ := T.d__law_deck; exact F.kp⟩
  have C__law_value : Cal P w K mg base "_law_value" 6 ["_law_deck_here", "_law_deep"] (spValue K 4) := ⟨ok_value T 4, T.g _ (by decide), by obtain ⟨fd, F⟩ := T.d__law_value; exact F.kp⟩
  have C__law_right : Cal P w K mg base "_law_right" 2 ["_law_e", "_law_at"] (spRight K) := ⟨ok_right T, T.g _ (by decide), by obtain ⟨fd, F⟩ := T.d__law_right; exact F.kp⟩
  have C__law_plain : Cal P w K mg base "_law_plain" 2 ["_law_at"] (spPlain K) := ⟨ok_plain T hP, T.g _ (by decide), by obtain ⟨fd, F⟩ := T.d__law_plain; exact F.kp⟩
  have C__law_made : Cal P w K mg base "_law_made" 3 ["_law_at", "_law_some", "_law_by_name"] (spMade K) := ⟨ok_made T hP, T.g _ (by decide), by obtain ⟨fd, F⟩ := T.d__law_made; exact F.kp⟩
  refine fng_of (k := 9) F sc_law (fun vs H Q E h => ?_) (fun cdv A outer s H vs Q E hr hgd h => ?_)
  · obtain ⟨a, ns, rfl, _⟩ := h
    rfl
  obtain ⟨a, ns, rfl, hS, hn, q⟩ := h
  refine ⟨_, PSs.nox (pss_cons (ps_set (i := 1) sc_law.nd rfl (.inr rfl) (pe_cal C__law_deck (hr.mono (by omega)) (by rfl) (pa_cons (pv 0) pa_nil)))
      (pss_cons (ps_for PassesOwn.never rfl (pi_range1 (by rfl) T.n_range (pa_cons pe_int pa_nil)) (pg_name (i := 2) sc_law.nd rfl (.inl rfl)) (pss_one (ps_for PassesOwn.never rfl (pi_range1 (by rfl) T.n_range (pa_cons pe_int pa_nil)) (pg_name (i := 3) sc_law.nd rfl (.inl rfl)) (pss_cons (ps_setLc (i := 4) (own := [("_law_k", 9)]) (by rfl) sc_law.nd rfl rfl (sw_true rfl rfl rfl (by decide +kernel)) (pi_range1 (by rfl) T.n_range (pa_cons pe_int pa_nil)) (blkOk_by (own := [("_law_k", 9)]) (N := N_law) (sc := defScope s_law) (by decide +kernel)) (fun _ _ _ _ _ => (pg_name (i := 9) sc_law.nd rfl (.inl rfl))) (fun _ _ _ _ _ => pts_nil) (fun _ _ _ _ _ => (pe_cal C__law_value (hr.mono (by omega)) (by rfl) (pa_cons (pv 1) (pa_cons pe_int pa_nil)))))
      (pss_cons (ps_setLc (i := 5) (own := [("_law_one", 10)]) (by rfl) sc_law.nd rfl rfl (sw_true rfl rfl rfl (by decide +kernel)) (pi_list (pv 4)) (blkOk_by (own := [("_law_one", 10)]) (N := N_law) (sc := defScope s_law) (by decide +kernel)) (fun _ _ _ _ _ => (pg_name (i := 10) sc_law.nd rfl (.inl rfl))) (fun _ _ _ _ _ => pts_nil) (fun _ _ _ _ _ => (pe_callB (id := "repr") (call_reprK (K := K) rfl hgd (hr.mono (Nat.zero_le _))) (by rfl) T.n_repr (by decide +kernel) (pa_cons (pv 10) pa_nil))))
      (pss_cons (ps_if (pt_cmpR op_notN (pe_cal C__law_plain (hr.mono (by omega)) (by rfl) (pa_cons (pv 3) pa_nil)) pe_non (nomark _)) (pss_one (ps_if (pt_not (pt_val (pe_cal C__law_right (hr.mono (by omega)) (by rfl) (pa_cons (pe_cal C__law_plain (hr.mono (by omega)) (by rfl) (pa_cons (pv 3) pa_nil)) (pa_cons (pv 3) pa_nil))))) (pss_one (ps_ret pe_bl)) pss_nil)) (pss_one (ps_for PassesOwn.never rfl (pi_tup (pe_tup (pa_cons pe_bl (pa_cons pe_bl pa_nil)))) (pg_name (i := 6) sc_law.nd rfl (.inl rfl)) (pss_cons (ps_asg (pe_cal C__law_made (hr.mono (by omega)) (by rfl) (pa_cons (pv 3) (pa_cons (pv 4) (pa_cons (pv 6) pa_nil)))) (pg_tup rfl (pgs_cons (pg_name (i := 7) sc_law.nd rfl (.inl rfl)) (pgs_cons (pg_name (i := 8) sc_law.nd rfl (.inl rfl)) pgs_nil))))
      (pss_one (ps_if (PW.pt (pw_or (pt_cmpR (op_neD hr.units) (pe_lc (own := [("_law_one", 10)]) (by rfl) sc_law.nd (pi_list (pv 8)) (blkOk_by (own := [("_law_one", 10)]) (N := N_law) (sc := defScope s_law) (by decide +kernel)) (fun _ _ _ _ _ => (pg_name (i := 10) sc_law.nd rfl (.inl rfl))) (fun _ _ _ _ _ => pts_nil) (fun _ _ _ _ _ => (pe_callB (id := "repr") (call_reprK (K := K) rfl hgd (hr.mono (Nat.zero_le _))) (by rfl) T.n_repr (by decide +kernel) (pa_cons (pv 10) pa_nil)))) (pe_slice sl_list (pv 5) po_none (po_some (pe_callB call_len (by rfl) T.n_len (by decide +kernel) (pa_cons (pv 8) pa_nil)))) (nomark _)) (pw_or1 (pt_not (pt_val (pe_cal C__law_right (hr.mono (by omega)) (by rfl) (pa_cons (pv 7) (pa_cons (pv 3) pa_nil)))))))) (pss_one (ps_ret pe_bl)) pss_nil))))))
      (pss_one (ps_if (pt_cmpR (op_neD hr.units) (pe_lc (own := [("_law_one", 10)]) (by rfl) sc_law.nd (pi_list (pv 4)) (blkOk_by (own := [("_law_one", 10)]) (N := N_law) (sc := defScope s_law) (by decide +kernel)) (fun _ _ _ _ _ => (pg_name (i := 10) sc_law.nd rfl (.inl rfl))) (fun _ _ _ _ _ => pts_nil) (fun _ _ _ _ _ => (pe_callB (id := "repr") (call_reprK (K := K) rfl hgd (hr.mono (Nat.zero_le _))) (by rfl) T.n_repr (by decide +kernel) (pa_cons (pv 10) pa_nil)))) (pv 5) (nomark _)) (pss_one (ps_ret pe_bl)) pss_nil))))))))
      (pss_one (ps_ret pe_bl)))), ?_⟩
  refine ⟨.ref a, rfl, a, ns, rfl, hS, hn, fun d c H1 hd hc s1 dk => ?_⟩
  refine ⟨2, rfl, by decide, by decide, for_range (lo := 0) (n := (2 : Int).toNat) (fun j σ H2 => ∃ x2 x3 x4 x5 x6 x7 x8 x9 x10, σ = [some (.ref a), some (.ref d), x2, x3, x4, x5, x6, x7, x8, x9, x10] ∧ ∃ n, n ≤ 2000000 * j ∧ Deck d c n H2) ⟨_, _, _, _, _, _, _, _, _, rfl, 0, by omega, dk⟩ ?_ ?_⟩
  · rintro j σ H2 hj ⟨x2, x3, x4, x5, x6, x7, x8, x9, x10, rfl, n2, hn2, dk2⟩
    have hj2 : j < 2 := hj
    refine ⟨16, rfl, by decide, by decide, for_range (lo := 0) (n := (16 : Int).toNat) (fun i σ H3 => ∃ x2 x3 x4 x5 x6 x7 x8 x9 x10, σ = [some (.ref a), some (.ref d), x2, x3, x4, x5, x6, x7, x8, x9, x10] ∧ ∃ n, n ≤ 2000000 * j + 100000 * i ∧ Deck d c n H3) ⟨_, _, _, _, _, _, _, _, _, rfl, n2, by omega, dk2⟩ ?_ ?_⟩
    · rintro i σ H3 hi0 ⟨x2, x3, x4, x5, x6, x7, x8, x9, x10, rfl, n, hn3, dk3⟩
      have hi : i < 16 := hi0
      have hn0 : n < 10000000 := by omega
      -- some
      refine ⟨4, rfl, by decide, by decide, fun D hD => ?_⟩
      have nd := dk3.has hD
      refine lc_range (lo := 0) (n := (4 : Int).toNat) (fun k H4 => ∃ vs ds, vs.length = k ∧ H4 D = some (.lst vs) ∧ DpAll K (news (upd H3 D (.lst [])) H4) vs ds ∧ (∀ e ∈ ds, Sz 3 e) ∧ Deck d c (n + k * (200 * 4 ^ 3)) H4 ∧ Ext d c H3 H4) ?_ ?_ ?_
      · exact ⟨[], [], rfl, upd_same, .nil, (fun _ h => nomatch h), by rw [Nat.zero_mul]; exact dk3.new hD, Ext.new hD⟩
      · rintro k H4 hk ⟨vs, ds, hl, hD4, hA, hsz, dk4, X4⟩
        have hk4 : k < 4 := hk
        have e43 : (4 : Nat) ^ 3 = 64 := by decide
        refine ⟨rfl, tyes ⟨.ref d, rfl, d, c, n + k * (200 * 4 ^ 3), 3, rfl, by decide, (by show n + k * (200 * 4 ^ 3) + 200 * 64 < 2 ^ 60; omega), dk4, fun v D2 H5 hv hz dk5 X5 => ?_⟩⟩
        have hD5 := X5.at nd.1 nd.2 hD4
        have t1 : Same (news H4 H5) (news (upd H3 D (.lst [])) (upd H5 D (.lst (vs ++ [v])))) := fun b o h => by
          obtain ⟨b1, b2⟩ := news_get.mp h
          have nb : b ≠ D := (ne_of_none hD4 b1).symm
          refine news_get.mpr ⟨?_, by rw [upd_ne nb]; exact b2⟩
          rw [upd_ne nb]
          exact grow X4 dk4 b1
        have t2 : Same (news (upd H3 D (.lst [])) H4) (news (upd H3 D (.lst [])) (upd H5 D (.lst (vs ++ [v])))) := fun b o h => by
          obtain ⟨b1, b2⟩ := news_get.mp h
          have nb : b ≠ D := fun z => by rw [z, upd_same] at b1; cases b1
          have bH : H3 b = none := by rw [upd_ne nb] at b1; exact b1
          have nb2 := dk3.has bH
          exact news_get.mpr ⟨b1, by rw [upd_ne nb]; exact X5.at nb2.1 nb2.2 b2⟩
        refine ⟨vs, hD5, small1000 (by omega), vs ++ [v], ds ++ [D2], by rw [List.length_append, hl]; rfl, upd_same, dpAll_app (dpAll_mono t2 _ _ hA) (.cons (dp_mono t1 _ _ hv) .nil), fun e he => ?_, ?_, (X4.trans X5).mut hD⟩
        · rcases List.mem_append.mp he with z | z
          · exact hsz e z
          · rw [List.mem_singleton.mp z]
            exact hz
        · rw [Nat.add_mul, Nat.one_mul, ← Nat.add_assoc]
          exact dk5.upd nd.1 nd.2
      rintro H4 ⟨vs, ds, hl, hD4, hA0, hsz, dk4, _⟩
      have hl4 : vs.length = 4 := hl
      have hA := dpAll_mono news_same _ _ hA0
      have dk4' : Deck d c (n + 100000) H4 := dk4.up (by show n + 4 * (200 * 4 ^ 3) ≤ n + 100000; omega)
      have hlen := dpAll_len hA
      obtain ⟨v1, v2, v3, v4, rfl⟩ : ∃ v1 v2 v3 v4, vs = [v1, v2, v3, v4] := match vs, hl4 with | [a, b, c, d], _ => ⟨a, b, c, d, rfl⟩
      -- kept
      refine ⟨.ref D, rfl, D, rfl, ⟨_, .inl (.inl hD4)⟩, fun D2 hD2 => ?_⟩
      refine lc_list (xs := [v1, v2, v3, v4]) (fun k H5 => H5 D2 = some (.lst (((ds.take k).map PyData.shown).map V.str)) ∧ Same H4 H5) ⟨upd_same, fun b o h => upd_get hD2 h⟩ ?_ ?_ ?_
      · rintro k H5 _ ⟨_, s5⟩
        exact .inl (.inl (s5 _ _ hD4))
      · rintro k x H5 hx ⟨h5, s5⟩
        obtain ⟨e, he, hxe⟩ := dpAll_get hA hx
        have g := hsz e (List.mem_of_getElem? he)
        refine ⟨rfl, tyes ⟨x, rfl, x, e, rfl, dp_mono s5 _ _ hxe, g.sh, g.sh3.1, g.sh3.2, _, h5, ?_, ?_, ?_⟩⟩
        · rw [List.length_map, List.length_map]
          exact small1000 (Nat.le_trans (List.length_take_le' _ _) (by rw [← hlen]; show 4 ≤ 1000; decide))
        · rw [upd_same, List.take_add_one, he, List.map_append, List.map_append]
          rfl
        · intro b o h
          rw [upd_ne (ne_of_none h hD2)]
          exact s5 _ _ h
      rintro H5 ⟨h5, s5⟩
      have h5' : H5 D2 = some (.lst ((ds.map PyData.shown).map V.str)) := by
        rw [h5, hlen, List.take_length]
      have dk5 : Deck d c (n + 100000) H5 := by
        obtain ⟨ns, l, m, t, e1, e2, r⟩ := dk4'.ex
        exact ⟨ns, l, m, t, s5 _ _ e1, s5 _ _ e2, r⟩
      have hD5 := s5 _ _ hD4
      have hA5 := dpAll_mono s5 _ _ hA
      -- the end of a turn
      have fin : ∀ H6, Same H5 H6 → Deck d c (n + 100000) H6 ∧ H6 D = some (.lst [v1, v2, v3, v4]) ∧ H6 D2 = some (.lst ((ds.map PyData.shown).map V.str)) ∧ DpAll K H6 [v1, v2, v3, v4] ds := fun H6 s6 => by
        obtain ⟨ns, l, m, t, e1, e2, r⟩ := dk5.ex
        exact ⟨⟨ns, l, m, t, s6 _ _ e1, s6 _ _ e2, r⟩, s6 _ _ hD5, s6 _ _ h5', dpAll_mono s6 _ _ hA5⟩
      have asz : ∀ z ∈ ds.map PyData.shown, asc z := fun z hz => by
        obtain ⟨e, he, rfl⟩ := List.mem_map.mp hz
        exact (hsz e he).as
      have hdl : ds.length = 4 := by rw [← hlen]; rfl
      by_cases hp : i ∈ plainL
      · -- a plain one
        refine ⟨.int (0 + i), rfl, i, (by simp), hi, fun _ x e H6 hx hv s6 => ⟨rfl, _, rfl, iteT ?_⟩, fun hn => absurd hp hn⟩
        refine ⟨.int (0 + i), rfl, i, (by simp), hi, fun _ x2 e2 H7 hx2 hv2 s7 => ?_, fun hn => absurd hp hn⟩
        refine ⟨.int (0 + i), rfl, e2, i, x2, [], (by simp), hi, hx2, hv2, fun H8 s8 => ⟨_, rfl, iteF ?_⟩⟩
        obtain ⟨dk8, hD8, h28, hA8⟩ := fin H8 (s6.trans (s7.trans s8))
        refine ⟨.ref D, rfl, D, rfl, ⟨_, .inl (.inl hD8)⟩, fun D3 hD3 => ?_⟩
        refine lc_list (xs := [v1, v2, v3, v4]) (fun k H9 => H9 D3 = some (.lst (((ds.take k).map PyData.shown).map V.str)) ∧ Same H8 H9) ⟨upd_same, fun b o h => upd_get hD3 h⟩ ?_ ?_ ?_
        · rintro k H9 _ ⟨_, s9⟩
          exact .inl (.inl (s9 _ _ hD8))
        · rintro k x H9 hx ⟨h9, s9⟩
          obtain ⟨e, he, hxe⟩ := dpAll_get hA8 hx
          have g := hsz e (List.mem_of_getElem? he)
          refine ⟨rfl, tyes ⟨x, rfl, x, e, rfl, dp_mono s9 _ _ hxe, g.sh, g.sh3.1, g.sh3.2, _, h9, ?_, ?_, ?_⟩⟩
          · rw [List.length_map, List.length_map]
            exact small1000 (Nat.le_trans (List.length_take_le' _ _) (by omega))
          · rw [upd_same, List.take_add_one, he, List.map_append, List.map_append]
            rfl
          · intro b o h
            rw [upd_ne (ne_of_none h hD3)]
            exact s9 _ _ h
        rintro H9 ⟨h9, s9⟩
        have h9' : H9 D3 = some (.lst ((ds.map PyData.shown).map V.str)) := by rw [h9, hlen, List.take_length]
        refine ⟨.ref D2, rfl, .list ((ds.map PyData.shown).map PyData.str), .list ((ds.map PyData.shown).map PyData.str), .lst (.inl (.inl h9')) (dpStrs _), .lst (.inl (.inl (s9 _ _ h28))) (dpStrs _), shaped_strs _ asz, shaped_strs _ asz, _, rfl, ?_⟩
        rw [eqv_strs _ asz]
        refine iteF ⟨_, _, _, _, _, _, _, _, _, rfl, n + 100000, by omega, ?_⟩
        obtain ⟨ns, l, m, t, e1, e2, r⟩ := dk8.ex
        exact ⟨ns, l, m, t, s9 _ _ e1, s9 _ _ e2, r⟩
      · refine ⟨.int (0 + i), rfl, i, (by simp), hi, (fun h => absurd h hp), fun _ => ⟨rfl, _, rfl, iteF ?_⟩⟩
        refine ⟨(by show 2 ≤ sizeLine; decide), fun tp htp => ⟨tp, rfl, ⟨_, .inl (.inl upd_same)⟩, ?_⟩⟩
        have s6 : Same H5 (upd H5 tp (.tup [.bl false, .bl true])) := fun b o h => upd_get htp h
        have gtp : (upd H5 tp (.tup [.bl false, .bl true])) tp = some (.tup [.bl false, .bl true]) := upd_same
        generalize upd H5 tp (.tup [.bl false, .bl true]) = H6 at s6 gtp ⊢
        refine for_tup (xs := [.bl false, .bl true]) (fun _ σ H7 => ∃ x2 x6 x7 x8 x9 x10, σ = [some (.ref a), some (.ref d), x2, some (.int (0 + i)), some (.ref D), some (.ref D2), x6, x7, x8, x9, x10] ∧ Same H6 H7) ⟨_, _, _, _, _, _, rfl, Same.refl _⟩ ?_ ?_ ?_
        · rintro _ σ H7 _ ⟨_, _, _, _, _, _, _, s7⟩
          exact .inl (.inl (s7 _ _ gtp))
        · rintro k by_ σ H7 hk ⟨x2, x6, x7, x8, x9, x10, rfl, s7⟩
          obtain ⟨bn, rfl⟩ : ∃ bn : Bool, by_ = .bl bn := by
            have hm := List.mem_of_getElem? hk
            simp only [List.mem_cons, List.not_mem_nil, or_false] at hm
            rcases hm with rfl | rfl
            · exact ⟨false, rfl⟩
            · exact ⟨true, rfl⟩
          obtain ⟨_, hD7, h27, hA7⟩ := fin H7 (s6.trans s7)
          refine ⟨.int (0 + i), rfl, .ref D, rfl, .bl bn, rfl, i, D, v1, v2, v3, v4, bn, (by simp), hi, hp, .inl (.inl hD7), fun x t H8 hx got => ?_⟩
          obtain ⟨e, l, fl, hv, ht, hl8, s8⟩ := got
          refine ⟨t, _, rfl, .inl (.inl ht), rfl, _, _, rfl, _, _, rfl, rfl, ?_⟩
          obtain ⟨_, hD8, h28, hA8⟩ := fin H8 (s6.trans (s7.trans s8))
          have hAt := dpAll_take (cntOf i) hA8
          have hlt := dpAll_len hAt
          have hct : (ds.take (cntOf i)).length ≤ 4 := by rw [List.length_take]; omega
          refine ⟨.ref l, rfl, l, rfl, ⟨_, .inl (.inl hl8)⟩, fun D4 hD4' => ?_⟩
          refine lc_list (xs := [v1, v2, v3, v4].take (cntOf i)) (fun k H9 => H9 D4 = some (.lst ((((ds.take (cntOf i)).take k).map PyData.shown).map V.str)) ∧ Same H8 H9) ⟨upd_same, fun b o h => upd_get hD4' h⟩ ?_ ?_ ?_
          · rintro k H9 _ ⟨_, s9⟩
            exact .inl (.inl (s9 _ _ hl8))
          · rintro k x H9 hx ⟨h9, s9⟩
            obtain ⟨e, he, hxe⟩ := dpAll_get hAt hx
            have g := hsz e (List.mem_of_mem_take (List.mem_of_getElem? he))
            refine ⟨rfl, tyes ⟨x, rfl, x, e, rfl, dp_mono s9 _ _ hxe, g.sh, g.sh3.1, g.sh3.2, _, h9, ?_, ?_, ?_⟩⟩
            · rw [List.length_map, List.length_map]
              exact small1000 (Nat.le_trans (List.length_take_le' _ _) (by omega))
            · rw [upd_same, List.take_add_one, he, List.map_append, List.map_append]
              rfl
            · intro b o h
              rw [upd_ne (ne_of_none h hD4')]
              exact s9 _ _ h
          rintro H9 ⟨h9, s9⟩
          have h9' : H9 D4 = some (.lst (((ds.take (cntOf i)).map PyData.shown).map V.str)) := by rw [h9, hlt, List.take_length]
          refine ⟨.ref D2, rfl, .ref l, rfl, .ref l, ([v1, v2, v3, v4].take (cntOf i)).length, rfl, .inl ⟨_, .inl (.inl (s9 _ _ hl8)), rfl⟩, _, rfl, D2, _, rfl, .inl (.inl (s9 _ _ h28)), fun D5 hD5' => ?_⟩
          rw [cut_to]
          have ek : ((ds.map PyData.shown).map V.str).take ([v1, v2, v3, v4].take (cntOf i)).length = (((ds.take (cntOf i)).map PyData.shown).map V.str) := by
            rw [hlt, ← List.map_take, ← List.map_take, List.length_take, ← List.take_take, List.take_length]
          rw [ek]
          have s10 : Same H9 (upd H9 D5 (.lst (((ds.take (cntOf i)).map PyData.shown).map V.str))) := fun b o h => upd_get hD5' h
          have h10 : (upd H9 D5 (.lst (((ds.take (cntOf i)).map PyData.shown).map V.str))) D5 = some (.lst (((ds.take (cntOf i)).map PyData.shown).map V.str)) := upd_same
          generalize upd H9 D5 (.lst (((ds.take (cntOf i)).map PyData.shown).map V.str)) = H10 at s10 h10 ⊢
          have asz2 : ∀ z ∈ (ds.take (cntOf i)).map PyData.shown, asc z := fun z hz => by
            obtain ⟨e, he, rfl⟩ := List.mem_map.mp hz
            exact (hsz e (List.mem_of_mem_take he)).as
          refine ⟨.list (((ds.take (cntOf i)).map PyData.shown).map PyData.str), .list (((ds.take (cntOf i)).map PyData.shown).map PyData.str), .lst (.inl (.inl (s10 _ _ h9'))) (dpStrs _), .lst (.inl (.inl h10)) (dpStrs _), shaped_strs _ asz2, shaped_strs _ asz2, _, rfl, ?_⟩
          rw [eqv_strs _ asz2]
          refine iteF ⟨.ref e, rfl, .int (0 + i), rfl, e, i, x, fl, (by simp), hi, hx, hv.mono (s9.trans s10), fun H11 s11 => ⟨_, rfl, iteF ?_⟩⟩
          exact ⟨_, _, _, _, _, _, rfl, s7.trans (s8.trans (s9.trans (s10.trans s11)))⟩
        · rintro σ H7 ⟨x2, x6, x7, x8, x9, x10, rfl, s7⟩
          obtain ⟨dk8, hD8, h28, hA8⟩ := fin H7 (s6.trans s7)
          refine ⟨.ref D, rfl, D, rfl, ⟨_, .inl (.inl hD8)⟩, fun D3 hD3 => ?_⟩
          refine lc_list (xs := [v1, v2, v3, v4]) (fun k H9 => H9 D3 = some (.lst (((ds.take k).map PyData.shown).map V.str)) ∧ Same H7 H9) ⟨upd_same, fun b o h => upd_get hD3 h⟩ ?_ ?_ ?_
          · rintro k H9 _ ⟨_, s9⟩
            exact .inl (.inl (s9 _ _ hD8))
          · rintro k x H9 hx ⟨h9, s9⟩
            obtain ⟨e, he, hxe⟩ := dpAll_get hA8 hx
            have g := hsz e (List.mem_of_getElem? he)
            refine ⟨rfl, tyes ⟨x, rfl, x, e, rfl, dp_mono s9 _ _ hxe, g.sh, g.sh3.1, g.sh3.2, _, h9, ?_, ?_, ?_⟩⟩
            · rw [List.length_map, List.length_map]
              exact small1000 (Nat.le_trans (List.length_take_le' _ _) (by omega))
            · rw [upd_same, List.take_add_one, he, List.map_append, List.map_append]
              rfl
            · intro b o h
              rw [upd_ne (ne_of_none h hD3)]
              exact s9 _ _ h
          rintro H9 ⟨h9, s9⟩
          have h9' : H9 D3 = some (.lst ((ds.map PyData.shown).map V.str)) := by rw [h9, hlen, List.take_length]
          refine ⟨.ref D2, rfl, .list ((ds.map PyData.shown).map PyData.str), .list ((ds.map PyData.shown).map PyData.str), .lst (.inl (.inl h9')) (dpStrs _), .lst (.inl (.inl (s9 _ _ h28))) (dpStrs _), shaped_strs _ asz, shaped_strs _ asz, _, rfl, ?_⟩
          rw [eqv_strs _ asz]
          refine iteF ⟨_, _, _, _, _, _, _, _, _, rfl, n + 100000, by omega, ?_⟩
          obtain ⟨ns, l, m, t, e1, e2, r⟩ := dk8.ex
          exact ⟨ns, l, m, t, s9 _ _ e1, s9 _ _ e2, r⟩
    · rintro σ H3 ⟨x2, x3, x4, x5, x6, x7, x8, x9, x10, rfl, n3, hn3, dk3⟩
      have hn4 : n3 ≤ 2000000 * j + 100000 * 16 := hn3
      exact ⟨_, _, _, _, _, _, _, _, _, rfl, n3, by omega, dk3⟩
  · rintro σ H2 ⟨x2, x3, x4, x5, x6, x7, x8, x9, x10, rfl, n2, hn2, dk2⟩
    exact q H2
end
end K01

set_option maxHeartbeats 0
open PySem PySem.W PySem.Calls PyProof.Rows
theorem PySem.Challenge.cw_wholeapart_k01_errors_holds : PySem.Challenge.rw_wholeapart_k01_errors.Holds := by
  w_on; o_law
  refine HandSHeadRun.head_any (r := OpenLaw.row PySem.Challenge.rw_wholeapart_k01_errors) (q := view (OpenLaw.row PySem.Challenge.rw_wholeapart_k01_errors).prog [28]) (H := K01.hk) (ob := K01.ob) (M := 6000) (loose := K01.loose) (d := HandSHeadRun.topDef (OpenLaw.row PySem.Challenge.rw_wholeapart_k01_errors).prog 28) (kwd := []) K01.ob_eq
    (by kernel_rfl) (fun s => by kernel_rfl) K01.run (by kernel_rfl) (by kernel_rfl) (by kernel_rfl) (by rfl) (by first | assumption | decide +kernel) (by decide +kernel) ⟨rfl, rfl, rfl, rfl, rfl, by decide +kernel⟩ ?hw ?hc
  case hw => w_witness2
  case hc =>
    refine HG.walkG (l := PySem.Challenge.rw_wholeapart_k01_errors) (n := 63) (k := 10) (x := "_law_script") (CX := L2.CX0) rfl (by decide) (by kernel_rfl) ⟨rfl, by decide, by decide⟩ ?F (fun _ _ _ _ z => z)
    intro w mg fa h Y G hmg0
    obtain ⟨K, KX, c⟩ := Y
    have hmg : mg ("law" : PySem.Str) = some (.ref fa) := by
      have e : (HandSHeadRun.topDef (OpenLaw.row PySem.Challenge.rw_wholeapart_k01_errors).prog 28).name = ("law" : PySem.Str) := by kernel_rfl
      rw [← e]
      exact hmg0
    have T := K01.txt KX G c
    have efa : fa = He.ga K "law" := by
      have e := hmg.symm.trans (T.g "law" (by decide))
      cases e
      rfl
    subst efa
    obtain ⟨fd, F⟩ := T.d_law
    refine ⟨K, fd, K01.spLaw K, KX, fun s u => (L2.FunD.bindsA (ps := ["_law_script"]) F fun _ _ _ _ _ _ us hl => match us, hl with | [_], _ => rfl) s [u] rfl, fun H a ns hl _ _ hS => ⟨a, ns, rfl, hS, hl, fun _ => rfl⟩, fun base _ _ => ?_⟩
    exact K01.ok_law T ⟨by kernel_rfl, by kernel_rfl⟩ F
