import PyProof.Rows.All
import Wide.All
import OpenK.AllK
import Wide.FinOn
import HandS.ForMost
import HandS.WordsExc
import HandS.Defaults
import HandS.HeadEnd
import HandS.EndBits
import HandS.IsInst
import HandS.Wide
import HandS.HeadHook1
import HandS.HeadHook2
import HandS.Nested
import HandS.EndTab
import HandS.TupLe
import HandS.DictTup
import HandS.Keys
import KE.KSortTupAny
import KE.KDictCopyH
import HandS.TupAny
import HandS.Style
import HandS.More
import HandS.HeadHook3
import HandS.Walk
import HandS.NoneIn
import HandS.Strs
import HandS.SetBool
import PyProof.StrBlock2
import HandS.ExcInit
import HandS.ExcIs
import HandS.ExcField
import KE.KExcSuper
import HandS.ExcOwn
import HandS.ExcValue
import KE.KStateDown
import Lean
import HandS.Head0
import HandS.Head1
import HandS.Head2
import HandS.Text
import HandS.Words
import KE.GoesMore
import HandS.Zip
import HandS.Conv
import KE.KDictDisplayH
import KE.KDictPairs
import PyProof.Rows.IntBool
import HandS.RaiseMore
import HandS.Codes
import HandS.Flow
import HandS.CallSlots
import PyProof.SumWalk
import PyProof.ListOps
import HandS.SetFor
import PyProof.ReprLen
import PySem.Challenge.RW_wholeapart_k48_stores_that_nobody_reads
set_option Elab.async false
set_option linter.all false
set_option maxRecDepth 100000
set_option maxHeartbeats 4000000
/-! HG: defs that are called where no repr is under way (the guards are known to be none), and repr of data. -/
namespace HG
open PySem PySem.Spec PyProof.Rows L2

structure FnG (P : Program) (w : World) (K : PySem.W.Frag) (mg : Str → Option Value) (base : Heap)
    (CX : CXT) (k : Nat) (f : Addr) (fd : FuncData) (ps : List Str) (sp : Sp) : Prop where
  sized : ∀ vs H Q E, sp vs H Q E → vs.length = ps.length
  goes : ∀ (A : Around) (outer : List Env) (s : Shared) (H : Hp) (args : Args) (us : List Value) (vs : List V) (Q : VK) (E : XK),
    Room k A → A.guards = some [] → Env0 P w K mg base A outer s H → BindsTo s fd args (ps.zip us) → Vals vs us →
    sp vs H Q E → codeAny (model P w) A (.call (.ref f) args) (CR CX outer P w H s Q E) s

section
variable {P : Program} {w : World} {K : PySem.W.Frag} {mg : Str → Option Value} {base : Heap} {CX : CXT} {k : Nat} {f : Addr} {fd : FuncData} {ps : List Str} {sp : Sp}

theorem FnG.of (F : FnOk P w K mg base CX k f fd ps sp) : FnG P w K mg base CX k f fd ps sp :=
  ⟨F.len, fun A outer s H args us vs Q E r _ => F.run A outer s H args us vs Q E r⟩

theorem FnG.up {j : Nat} (F : FnG P w K mg base CX j f fd ps sp) (h : j ≤ k) : FnG P w K mg base CX k f fd ps sp :=
  ⟨F.sized, fun A outer s H args us vs Q E r => F.goes A outer s H args us vs Q E (r.mono h)⟩

/-- a def of the text, by its body -/
theorem fng_of {x qual : Str} {params : Arguments} {body : List Stmt} {scope : Scope} {dvs : List V} {kws : List (Str × V)} {N : List Str}
    (F : FunD K x qual params body scope dvs kws f fd) (S : FnScope N ps scope) (len : ∀ vs H Q E, sp vs H Q E → vs.length = ps.length)
    (hbody : ∀ (cdv : Value) (A : Around) (outer : List Env) (s : Shared) (H : Hp) (vs : List V) (Q : VK) (E : XK),
      Room k (A.deeper (envOfC qual scope s.heap.objs.size f cdv)) → A.guards = some [] → sp vs H Q E →
      ∃ t, PSs (cxOf CX P w K mg base N qual scope f cdv A outer s H E) body t ∧
        t { nx := fun _ H' => Q .non H', rt := Q } (start N vs) H) : FnG P w K mg base CX (k + 1) f fd ps sp := by
  obtain ⟨oc, od, dV, kV, doc, pm, an, cdv, ct, osl, rfl, lk, hcd, _, _⟩ := F.ex
  constructor
  · exact len
  intro A outer s H args us vs Q E hr hg e0 hb r hsp
  have X1 : K.In s.heap := e0.mod.kin.keeps fun b o e => (e0.bs b o e).1
  have X2 : s.heap.NoLimit := e0.mod.nolimit.keeps fun b o e => (e0.bs b o e).1
  obtain ⟨t, ht, hq⟩ := hbody cdv A outer s H vs Q E (hr.deeper _) hg hsp
  refine codeAny_call_function hr.depth (X1 _ _ lk) rfl S.co S.gen rfl (PySem.W.codeRec_of X1 hcd) (hb _ _ _ _ ?_)
  have kinds : ∀ y ∈ ps.zip us, scope.names.lookup y.1 = some .local ∨
      (scope.names.lookup y.1 = some .cell ∧ ((cellsFrom (s.heap.objs.size + 1) scope.names []).lookup y.1).isSome = true) := by
    rintro ⟨n, v⟩ hy
    have hn := (List.of_mem_zip hy).1
    rcases S.par n hn with q | q
    · left; exact q
    · right; exact ⟨q, PySem.W.cellsFrom_some _ _ _ (.inl q)⟩
  refine wpAny_newFunctionEnv_cells S.kind kinds ?_
  intro env he s1 x
  subst he
  refine ⟨X2.keeps x.toInCall.keep, codeAny_func ?_⟩
  have I := inv_start (CX := CX) (E := E) S hr.hd e0 (len _ _ _ _ hsp) r x
  refine wpAny_mono (ht.run [] s1 (start N vs) H _ I hq) ?_ (fun e s' hs => hs)
  intro fl s' hs
  cases fl with
  | next =>
    obtain ⟨σ', H', J, q⟩ := hs
    exact ⟨V.non, H', J.os, J.bare, J.base, J.hok, rfl, q⟩
  | ret u =>
    obtain ⟨v, σ', H', J, rv, q⟩ := hs
    exact ⟨v, H', J.os, J.bare, J.base, J.hok, rv, q⟩
  | brk => exact hs.elim fun _ z => z.elim fun _ z => z.2.elim
  | cont => exact hs.elim fun _ z => z.elim fun _ z => z.2.elim
end

/-! ### calls of such defs -/
section
variable {X : Cx} {CX : CXT} {k : Nat} {f : Addr} {fd : FuncData} {ps ks : List Str} {sp : Sp} {dvs : List V} {ds : List Value}
  {E : XK} {x : Str} {p pos : Pos} {e : Expr} {es : List Expr} {t tk : TA} {kws : List Keyword}
  {g : List Value → List Value → List Value} {gV : List V → List V → List V}

theorem fin_call {pins : List (Addr × Obj)} {σ : L2.St} {H : Hp} {s s' : Shared} {Q : VK} {r : Result} (hx : Passes CX X E)
    (I : Inv X pins σ H s) (h : CR CX X.stack X.prog X.w H s Q E r s') : callEnd (EP X pins σ Q) X.xe r s' := by
  cases r with
  | error e => exact hx pins σ H s e s' I h
  | ok fl =>
    cases fl with
    | ret u => exact I.after h
    | next => exact h.elim
    | brk => exact h.elim
    | cont => exact h.elim

theorem pe_callG (F : FnG X.prog X.w X.K X.mg X.base CX k f fd ps sp) (hr : Room k X.A) (hgd : X.A.guards = some []) (hg : Gl X x) (hm : X.mg x = some (.ref f))
    (hk : PySem.W.keepIn X.K (.ref f) = true) (hb : Binds X.K fd ps ds) (hd : Vals dvs ds) (hx : Passes CX X E) (ha : PA X (e :: es) t)
    (hdb : (x == ("__debug__" : Str)) = false := by decide)
    (he : starEach (e :: es) X.env = (false, eval e X.env) :: starEach es X.env := by rfl)
    (hpl : (backTo pos (starEach es X.env)).any (·.1) = false := by rfl) : PE X (.Call (.Name x p) (e :: es) [] pos) (tCall sp dvs E t) := by
  constructor
  intro pins s σ H Q I h
  refine wpAny_Call_Name_kw (ld_glob I hg hm ?_ hdb)
  refine PySem.W.callWith_K (h₀ := X.base) I.ok.mod.kin hk (thn (ha.run pos pins s σ H _ I h) ?_) he hpl
  rintro us s1 ⟨vs, H1, I1, r, q⟩
  have rr : Vals (vs ++ dvs) (us ++ ds) := r.append hd
  have hl : (us ++ ds).length = ps.length := rr.length.symm.trans (F.sized _ _ _ _ q)
  refine ⟨I1.kIn, wpAny_call (codeAny_mono (F.goes X.A X.stack s1 H1 ⟨us, []⟩ _ _ Q E hr hgd I1.env0 (hb s1 us I1.kIn hl) rr q) fun r s' hq => ?_)⟩
  exact fin_call hx I1 hq

end

/-! ### repr of data -/
mutual
theorem dp_nodict {K : PySem.W.Frag} {H : Hp} : ∀ (d : PyData) (v : V), Dp K H v d → d.hasDict = false
  | .none, _, _ => by simp only [PyData.hasDict]
  | .bool _, _, _ => by simp only [PyData.hasDict]
  | .int _, _, _ => by simp only [PyData.hasDict]
  | .str _, _, _ => by simp only [PyData.hasDict]
  | .list ds, _, h => by
    cases h with
    | lst _ ha =>
      simp only [PyData.hasDict]
      exact dpAll_nodict ds _ ha
  | .tuple ds, _, h => by
    cases h with
    | tup _ ha =>
      simp only [PyData.hasDict]
      exact dpAll_nodict ds _ ha
  | .dict _, _, h => by cases h
theorem dpAll_nodict {K : PySem.W.Frag} {H : Hp} : ∀ (ds : List PyData) (vs : List V), DpAll K H vs ds → PyData.hasDictAll ds = false
  | [], _, _ => by simp only [PyData.hasDictAll]
  | d :: ds, _, h => by
    cases h with
    | cons h1 h2 => simp only [PyData.hasDictAll, dp_nodict d _ h1, dpAll_nodict ds _ h2, Bool.or_self]
end

def rRepr (K : PySem.W.Frag) : List V → Hp → VK → Prop := fun xs H Q =>
  ∃ x d, xs = [x] ∧ Dp K H x d ∧ d.showable = true ∧ d.depth ≤ 150 ∧ d.shown.length ≤ sizeLine ∧ Q (.str d.shown) H

theorem call_repr {X : Cx} {k : Nat} (hgd : X.A.guards = some []) (hr : Room k X.A) : CallR X (.builtin "repr") (rRepr X.K) := by
  intro pins s σ H xs us Q I r h
  obtain ⟨x, d, rfl, hd, hs, hdep, hsz, q⟩ := h
  obtain ⟨u, rfl, ru⟩ := vals1 r
  obtain ⟨as, rd⟩ := Dp.reads I d x u hd ru
  have hu := hr.un
  cases rd with
  | none => 
    simp only [PyData.shown] at q
    exact PySem.P.repr_of_none ⟨.str _, H, I.tok _, ⟨_, rfl⟩, q⟩
  | bool b =>
    simp only [PyData.shown] at q
    exact PySem.P.repr_of_bool ⟨.str _, H, I.tok _, ⟨_, rfl⟩, q⟩
  | int i t =>
    simp only [PyData.shown] at q
    exact PySem.P.repr_of_int (by simpa [PyData.showable] using hs) ⟨.str _, H, I.tok _, ⟨_, rfl⟩, q⟩
  | str y t =>
    simp only [PyData.shown] at q hsz
    exact PySem.P.repr_of_str ⟨.str _, H, I.tok _, ⟨_, rfl⟩, q⟩ hsz
  | list h1 h2 h3 h4 =>
    have nd := dp_nodict _ _ hd
    refine repr_of_reads' (.list h1 h2 h3 h4) hs (fun z => ?_) hgd (by omega) (fun _ _ e => e) (fun h' u tk hk => ⟨.str _, H, I.kept hk, ⟨_, rfl⟩, q⟩) hsz
    rw [nd] at z; cases z
  | tuple h1 h2 h3 h4 =>
    have nd := dp_nodict _ _ hd
    refine repr_of_reads' (.tuple h1 h2 h3 h4) hs (fun z => ?_) hgd (by omega) (fun _ _ e => e) (fun h' u tk hk => ⟨.str _, H, I.kept hk, ⟨_, rfl⟩, q⟩) hsz
    rw [nd] at z; cases z
  | dict h1 h2 h3 h4 h5 => cases hd

/-! ### the law's own call -/
section
variable {P : Program} {w : World} {K : PySem.W.Frag} {mg mb : Str → Option Value} {CX : CXT} {k : Nat} {fa a : Addr} {fd : FuncData} {x : Str} {sp : Sp} {s1 : Shared} {vs : List Value} {ns : List Int}

/-- from an abstract heap H that tracks the script at most -/
theorem law_core (KX : K.In s1.heap) (hns : s1.heap.Ns mainGlobals mg) (hb : s1.heap.Ns builtinsNs mb)
    (hbb : ∀ x : Str, x ≠ "__name__" → mb x = bootBuiltins x) (hlim : s1.heap.NoLimit) (hg : s1.gens = #[])
    (ha : s1.heap.get? a = some { cls := .type "list", data := .seq vs.toArray }) (hr : Room k callerA)
    (F : ∀ base : Heap, K.In base → base.Ns mainGlobals mg → FnG P w K mg base CX k fa fd [x] sp)
    (hbind : ∀ (s : Shared) (u : Value), BindsTo s fd ⟨[u], []⟩ [(x, u)])
    {H : Hp} (only : Only H) (hok : HOk P w H s1.heap) (hA : ∀ b, H b ≠ none → b = a) (hK : H a ≠ none → K.lookup a = none)
    (hsp : sp [.ref a] H (fun v _ => v = .bl true) fun _ _ _ => False)
    (hCX : ∀ e s', CX [] H s1 (fun _ _ _ => False) e s' → False) :
    codeAny (model P w) callerA (.call (.ref fa) ⟨[.ref a], []⟩)
      (fun r s' => r = .ok (.ret (.bool true)) ∧ OldK s1.heap s'.heap ∧ s'.os = s1.os ∧ AllBare s'.gens) s1 := by
  have tracked : ∀ {b : Addr} {u : HO}, H b = some u → b = a := fun {b u} q => hA b (by simp [q])
  have dictFree : ∀ {b : Addr} {o : Obj} {es : Array DictEntry} {ep : Nat}, s1.heap.get? b = some o → o.data = .dict es ep → H b = none := by
    intro b o es ep e d
    cases q : H b with
    | none => rfl
    | some u =>
      rw [tracked q, ha] at e
      cases e
      cases d
  have nsK : ∀ {b : Addr} {m : Str → Option Value}, s1.heap.Ns b m → (hidT s1.heap H).Ns b m := by
    rintro b m ⟨o, es, ep, e, d, r⟩
    exact ⟨o, es, ep, hidT_get e (dictFree e d), d, r⟩
  have kin : K.In (hidT s1.heap H) := by
    intro b o e
    refine hidT_get (KX b o e) ?_
    cases q : H b with
    | none => rfl
    | some u =>
      have eb := tracked q
      subst eb
      rw [hK (by simp [q])] at e
      cases e
  have md : Mod K mg (hidT s1.heap H) := by
    obtain ⟨mc, l1, l2⟩ := hlim
    exact ⟨kin, nsK hns, ⟨mb, nsK hb, hbb⟩, ⟨mc, nsK l1, l2⟩⟩
  have e0 : Env0 P w K mg (hidT s1.heap H) callerA [] s1 H :=
    { frames := rfl, mod := md, bs := fun b o e => of_hidT e, bsz := Nat.le_of_eq (hidT_size _ _), funs := trivial,
      frf := fun b z => absurd (show b ∈ ([] : List Addr) from z) List.not_mem_nil, hok := hok, bare := .of_eq hg }
  have go := (F _ kin (nsK hns)).goes callerA [] s1 H ⟨[.ref a], []⟩ [.ref a] [.ref a] _ _ hr rfl e0 (hbind s1 (.ref a)) (.cons rfl .nil) hsp
  refine codeAny_mono go fun r s' h => ?_
  cases r with
  | error e => exact (hCX e s' h).elim
  | ok fl =>
    cases fl with
    | next => exact h.elim
    | brk => exact h.elim
    | cont => exact h.elim
    | ret u =>
      obtain ⟨v, H', os, bare, un, hok', r', q⟩ := h
      have ev : v = .bl true := q
      subst ev
      have eu : u = Value.bool true := r'
      subst eu
      refine ⟨rfl, OldK.of_keep fun b o e => ?_, os, bare⟩
      rcases only b with z | ⟨ob, xs, z⟩
      · exact un.keep b o e z (fun y => absurd (show b ∈ ([] : List Addr) from y) List.not_mem_nil) List.not_mem_nil
      · obtain ⟨e1, _⟩ := hok b _ z
        obtain ⟨e2, _⟩ := hok' b _ (un.frzs b ob _ z)
        rw [e1] at e
        cases e
        exact e2

theorem law_callG (KX : K.In s1.heap) (hns : s1.heap.Ns mainGlobals mg) (hb : s1.heap.Ns builtinsNs mb)
    (hbb : ∀ x : Str, x ≠ "__name__" → mb x = bootBuiltins x) (hlim : s1.heap.NoLimit) (hg : s1.gens = #[])
    (ha : s1.heap.get? a = some { cls := .type "list", data := .seq vs.toArray }) (hi : IntsAre vs ns) (hl : ns.length ≤ sizeLine) (hr : Room k callerA)
    (F : ∀ base : Heap, K.In base → base.Ns mainGlobals mg → FnG P w K mg base CX k fa fd [x] sp)
    (hbind : ∀ (s : Shared) (u : Value), BindsTo s fd ⟨[u], []⟩ [(x, u)])
    (hsp : ∀ H : Hp, Only H → SqL K H a (ns.map V.int) → sp [.ref a] H (fun v _ => v = .bl true) fun _ _ _ => False)
    (hCX : ∀ H e s', CX [] H s1 (fun _ _ _ => False) e s' → False) :
    codeAny (model P w) callerA (.call (.ref fa) ⟨[.ref a], []⟩)
      (fun r s' => r = .ok (.ret (.bool true)) ∧ OldK s1.heap s'.heap ∧ s'.os = s1.os ∧ AllBare s'.gens) s1 := by
  have rv := vals_ints hi
  cases hk : K.lookup a with
  | some o =>
    have e := KX a o hk
    rw [ha] at e
    cases e
    have on : Only (fun _ => none) := fun _ => .inl rfl
    refine law_core KX hns hb hbb hlim hg ha hr F hbind on (fun b u z => by cases z) (fun b z => absurd rfl z) (fun z => absurd rfl z) (hsp _ on (.inr ?_)) (hCX _)
    exact ⟨_, vs.toArray, _, hk, rfl, rfl, rfl, by rw [List.size_toArray, hi.length]; exact hl, by simpa using rv⟩
  | none =>
    let o : Obj := { cls := .type "list", data := .seq vs.toArray }
    let H : Hp := upd (fun _ => none) a (.frz o (.lst (ns.map V.int)))
    have hH : H a = some (.frz o (.lst (ns.map V.int))) := upd_same
    have hN : ∀ b, b ≠ a → H b = none := fun b z => upd_ne z
    have on : Only H := by
      intro b
      by_cases e : b = a
      · subst e; exact .inr ⟨_, _, hH⟩
      · exact .inl (hN b e)
    refine law_core KX hns hb hbb hlim hg ha hr F hbind on (fun b u z => ?_) (fun b z => ?_) (fun _ => hk) (hsp H on (.inl (.inr ⟨o, hH⟩))) (hCX _)
    · by_cases e : b = a
      · subst e
        rw [hH] at z
        cases z
        exact ⟨ha, by rw [List.length_map]; exact hl, vs, _, rv, ha⟩
      · rw [hN b e] at z; cases z
    · by_cases e : b = a
      · exact e
      · exact absurd (hN b e) z
end

/-- the walk that a head by facts asks for, with the script's bits -/
theorem walkG {l : PySem.W.OpenLaw} {n k : Nat} {q : Program} {loose : List Str} {XP : (Str → Option Value) → Heap → Prop} {YP : World → Heap → Prop} {d : DefRec} {CX : CXT} {x : Str}
    (hn : l.most = some n) (hn2 : n ≤ sizeLine) (hdf : d.params.defaults = []) (hr : Room k callerA)
    (F : ∀ (w : World) (mg : Str → Option Value) (fa : Addr) (h : Heap), YP w h → h.Ns mainGlobals mg → mg d.name = some (.ref fa) →
      ∃ (K : PySem.W.Frag) (fd : FuncData) (sp : Sp), K.In h ∧ (∀ (s : Shared) (u : Value), BindsTo s fd ⟨[u], []⟩ [(x, u)]) ∧
        (∀ (H : Hp) (a : Addr) (ns : List Int), ns.length ≤ n → (∀ z ∈ ns, Builtin.Int.intBits z ≤ 1048576) → Only H → SqL K H a (ns.map V.int) →
          sp [.ref a] H (fun v _ => v = .bl true) fun _ _ _ => False) ∧
        ∀ base : Heap, K.In base → base.Ns mainGlobals mg → FnG l.prog w K mg base CX k fa fd [x] sp)
    (hCX : ∀ (H : Hp) (s : Shared) (e : Value) (s' : Shared), CX [] H s (fun _ _ _ => False) e s' → False) :
    PySem.W.WalkO q loose XP YP l.row.toRowW d [] (fun f vs => PySem.call f vs) := by
  refine Att.attach_callB hn hdf ?_
  intro w s₀ s₁ mg mb fa o pm cd doc a vs ns G Y ho hd hcd hmg hobj hints hlen hbits hg
  obtain ⟨K, fd, sp, KX, hb, hsp, hF⟩ := F w mg fa _ Y G.T.g hmg
  exact law_callG KX G.T.g G.T.b G.T.builtins G.T.nolimit hg hobj hints (Nat.le_trans hlen hn2) hr hF hb (fun H hO hS => hsp H a ns hlen hbits hO hS) (fun H e s' => hCX H s₁ e s')
end HG

set_option maxHeartbeats 4000000
/-! HW: short words over HG: defs called by name (Cal), data, frames. -/
namespace HG
open PySem PySem.Spec PyProof.Rows L2

/-! ### a def of the top, ready to be called -/
structure Cal (P : Program) (w : World) (K : PySem.W.Frag) (mg : Str → Option Value) (base : Heap) (x : Str) (k : Nat) (ps : List Str) (sp : Sp) : Prop where
  ex : ∃ fd, FnOk P w K mg base CX0 k (He.ga K x) fd ps sp ∧ Binds K fd ps []
  gl : mg x = some (.ref (He.ga K x))
  kp : PySem.W.keepIn K (.ref (He.ga K x)) = true
structure CalG (P : Program) (w : World) (K : PySem.W.Frag) (mg : Str → Option Value) (base : Heap) (x : Str) (k : Nat) (ps : List Str) (sp : Sp) : Prop where
  ex : ∃ fd, FnG P w K mg base CX0 k (He.ga K x) fd ps sp ∧ Binds K fd ps []
  gl : mg x = some (.ref (He.ga K x))
  kp : PySem.W.keepIn K (.ref (He.ga K x)) = true
/-- called by keywords alone -/
structure CalK (P : Program) (w : World) (K : PySem.W.Frag) (mg : Str → Option Value) (base : Heap) (x : Str) (k : Nat) (ks ps : List Str) (gV : List V → List V) (sp : Sp) : Prop where
  ex : ∃ fd g, FnOk P w K mg base CX0 k (He.ga K x) fd ps sp ∧ KBn K fd ps 0 ks g (fun _ zs => gV zs)
  gl : mg x = some (.ref (He.ga K x))
  kp : PySem.W.keepIn K (.ref (He.ga K x)) = true
section
variable {X : Cx} {k : Nat} {ps ks : List Str} {sp : Sp} {x : Str} {p pos : Pos} {e : Expr} {es : List Expr} {t tk : TA} {kws : List Keyword} {gV : List V → List V}
theorem pe_cal (C : Cal X.prog X.w X.K X.mg X.base x k ps sp) (hr : Room k X.A) (hg : Gl X x) (ha : PA X (e :: es) t)
    (hdb : (x == ("__debug__" : Str)) = false := by decide)
    (he : starEach (e :: es) X.env = (false, eval e X.env) :: starEach es X.env := by rfl)
    (hpl : (backTo pos (starEach es X.env)).any (·.1) = false := by rfl) : PE X (.Call (.Name x p) (e :: es) [] pos) (tCall sp [] E0 t) := by
  obtain ⟨fd, F, b⟩ := C.ex
  exact pe_call F hr hg C.gl C.kp b .nil pass0 ha hdb he hpl
theorem pe_calG (C : CalG X.prog X.w X.K X.mg X.base x k ps sp) (hr : Room k X.A) (hgd : X.A.guards = some []) (hg : Gl X x) (ha : PA X (e :: es) t)
    (hdb : (x == ("__debug__" : Str)) = false := by decide)
    (he : starEach (e :: es) X.env = (false, eval e X.env) :: starEach es X.env := by rfl)
    (hpl : (backTo pos (starEach es X.env)).any (·.1) = false := by rfl) : PE X (.Call (.Name x p) (e :: es) [] pos) (tCall sp [] E0 t) := by
  obtain ⟨fd, F, b⟩ := C.ex
  exact pe_callG F hr hgd hg C.gl C.kp b .nil pass0 ha hdb he hpl
def tCalK (m : Nat) (sp : Sp) (gV : List V → List V) (tk : TA) : TE := fun σ H Q => tk σ H fun zs H1 => zs.length = m ∧ sp (gV zs) H1 Q E0
theorem pe_calK (C : CalK X.prog X.w X.K X.mg X.base x k ks ps gV sp) (hr : Room k X.A) (hg : Gl X x) (hkw : PK X kws tk)
    (hall : (backToKw pos (keywordEach kws X.env)).all (·.1.isSome) = true := by rfl)
    (hks : (backToKw pos (keywordEach kws X.env)).filterMap (·.1) = ks := by rfl)
    (hdb : (x == ("__debug__" : Str)) = false := by decide)
    (hpl : ((backTo pos (starEach [] X.env)).any (·.1) || (backToKw pos (keywordEach kws X.env)).any (·.1.isNone)) = false := by rfl) :
    PE X (.Call (.Name x p) [] kws pos) (tCalK ks.length sp gV tk) := by
  obtain ⟨fd, g, F, b⟩ := C.ex
  constructor
  intro pins s σ H Q I h
  refine wpAny_Call_Name_kw (ld_glob I hg C.gl ?_ hdb)
  refine PySem.W.callWith_KW0 (h₀ := X.base) I.ok.mod.kin C.kp hall (thn (hkw.run pos pins s σ H _ I h) ?_) hpl
  rintro ws s2 ⟨zs, H2, I2, rz, l2, q2⟩
  rw [hks]
  exact ⟨I2.kIn, run_fnN (us := []) (vs := []) F hr b pass0 I2 .nil rz rfl l2 q2⟩
theorem pe_globI {i : Int} (h : ∃ t, X.mg x = some (.int i t)) (hg : Gl X x) (hd : (x == ("__debug__" : Str)) = false := by decide) : PE X (.Name x pos) (tC (.int i)) := by
  obtain ⟨t, h⟩ := h
  exact pe_glob hg h ⟨t, rfl⟩ hd
theorem pe_globS {z : Str} (h : ∃ t, X.mg x = some (.str z t)) (hg : Gl X x) (hd : (x == ("__debug__" : Str)) = false := by decide) : PE X (.Name x pos) (tC (.str z)) := by
  obtain ⟨t, h⟩ := h
  exact pe_glob hg h ⟨t, rfl⟩ hd
end

/-! ### data -/
def tyN : PyData → String
  | .none => "NoneType"
  | .bool _ => "bool"
  | .int _ => "int"
  | .str _ => "str"
  | .list _ => "list"
  | .tuple _ => "tuple"
  | .dict _ => "dict"
theorem dp_ty {K : PySem.W.Frag} {H : Hp} {v : V} {d : PyData} (h : Dp K H v d) : TyX K H v (.type (tyN d)) := by
  cases h with
  | non => exact .base .non
  | bl b => exact .base (.bl b)
  | int i => exact .base (.int i)
  | str x => exact .base (.str x)
  | lst s _ =>
    rcases s with (e | ⟨o, e⟩) | ⟨o, _, _, e, c, _⟩
    · exact .base (.lst e)
    · exact .base (.frz e)
    · exact .kList e c
  | tup s _ =>
    rcases s with (e | ⟨o, e⟩) | ⟨o, _, _, e, c, _⟩
    · exact .base (.tup e)
    · exact .fTuple e
    · exact .kTuple e c
theorem isi_of {K : PySem.W.Frag} {H : Hp} {v : V} {d : PyData} {n : String} {b : Bool} {Q : VK} (h : Dp K H v d) (hk : kitB (tyN d) n = some b) (q : Q (.bl b) H) : rIsi K [v, .ty n] H Q :=
  ⟨v, .ty n, _, _, b, rfl, .ty n, dp_ty h, kit_ty hk, q⟩
def isI : PyData → Bool
  | .int _ => true
  | .bool _ => true
  | _ => false
def isB : PyData → Bool
  | .bool _ => true
  | _ => false
def isS : PyData → Bool
  | .str _ => true
  | _ => false
def isL : PyData → Bool
  | .list _ => true
  | _ => false
def isT : PyData → Bool
  | .tuple _ => true
  | _ => false
theorem kit_int : ∀ d : PyData, kitB (tyN d) "int" = some (isI d)
  | .none => (by decide +kernel : kitB "NoneType" "int" = some false)
  | .bool _ => (by decide +kernel : kitB "bool" "int" = some true)
  | .int _ => (by decide +kernel : kitB "int" "int" = some true)
  | .str _ => (by decide +kernel : kitB "str" "int" = some false)
  | .list _ => (by decide +kernel : kitB "list" "int" = some false)
  | .tuple _ => (by decide +kernel : kitB "tuple" "int" = some false)
  | .dict _ => (by decide +kernel : kitB "dict" "int" = some false)
theorem kit_bool : ∀ d : PyData, kitB (tyN d) "bool" = some (isB d)
  | .none => (by decide +kernel : kitB "NoneType" "bool" = some false)
  | .bool _ => (by decide +kernel : kitB "bool" "bool" = some true)
  | .int _ => (by decide +kernel : kitB "int" "bool" = some false)
  | .str _ => (by decide +kernel : kitB "str" "bool" = some false)
  | .list _ => (by decide +kernel : kitB "list" "bool" = some false)
  | .tuple _ => (by decide +kernel : kitB "tuple" "bool" = some false)
  | .dict _ => (by decide +kernel : kitB "dict" "bool" = some false)
theorem kit_str : ∀ d : PyData, kitB (tyN d) "str" = some (isS d)
  | .none => (by decide +kernel : kitB "NoneType" "str" = some false)
  | .bool _ => (by decide +kernel : kitB "bool" "str" = some false)
  | .int _ => (by decide +kernel : kitB "int" "str" = some false)
  | .str _ => (by decide +kernel : kitB "str" "str" = some true)
  | .list _ => (by decide +kernel : kitB "list" "str" = some false)
  | .tuple _ => (by decide +kernel : kitB "tuple" "str" = some false)
  | .dict _ => (by decide +kernel : kitB "dict" "str" = some false)
theorem kit_list : ∀ d : PyData, kitB (tyN d) "list" = some (isL d)
  | .none => (by decide +kernel : kitB "NoneType" "list" = some false)
  | .bool _ => (by decide +kernel : kitB "bool" "list" = some false)
  | .int _ => (by decide +kernel : kitB "int" "list" = some false)
  | .str _ => (by decide +kernel : kitB "str" "list" = some false)
  | .list _ => (by decide +kernel : kitB "list" "list" = some true)
  | .tuple _ => (by decide +kernel : kitB "tuple" "list" = some false)
  | .dict _ => (by decide +kernel : kitB "dict" "list" = some false)
theorem kit_tuple : ∀ d : PyData, kitB (tyN d) "tuple" = some (isT d)
  | .none => (by decide +kernel : kitB "NoneType" "tuple" = some false)
  | .bool _ => (by decide +kernel : kitB "bool" "tuple" = some false)
  | .int _ => (by decide +kernel : kitB "int" "tuple" = some false)
  | .str _ => (by decide +kernel : kitB "str" "tuple" = some false)
  | .list _ => (by decide +kernel : kitB "list" "tuple" = some false)
  | .tuple _ => (by decide +kernel : kitB "tuple" "tuple" = some true)
  | .dict _ => (by decide +kernel : kitB "dict" "tuple" = some false)

mutual
theorem dp_mono {K : PySem.W.Frag} {H H' : Hp} (e : Same H H') : ∀ (d : PyData) (v : V), Dp K H v d → Dp K H' v d
  | .none, _, h => by cases h; exact .non
  | .bool b, _, h => by cases h; exact .bl b
  | .int i, _, h => by cases h; exact .int i
  | .str x, _, h => by cases h; exact .str x
  | .list ds, _, h => by
    cases h with
    | lst s a =>
      refine .lst ?_ (dpAll_mono e ds _ a)
      rcases s with (s | ⟨o, s⟩) | s
      · exact .inl (.inl (e _ _ s))
      · exact .inl (.inr ⟨o, e _ _ s⟩)
      · exact .inr s
  | .tuple ds, _, h => by
    cases h with
    | tup s a =>
      refine .tup ?_ (dpAll_mono e ds _ a)
      rcases s with (s | ⟨o, s⟩) | s
      · exact .inl (.inl (e _ _ s))
      · exact .inl (.inr ⟨o, e _ _ s⟩)
      · exact .inr s
  | .dict _, _, h => by cases h
theorem dpAll_mono {K : PySem.W.Frag} {H H' : Hp} (e : Same H H') : ∀ (ds : List PyData) (vs : List V), DpAll K H vs ds → DpAll K H' vs ds
  | [], _, h => by cases h; exact .nil
  | d :: ds, _, h => by
    cases h with
    | cons a b => exact .cons (dp_mono e d _ a) (dpAll_mono e ds _ b)
end
theorem dpAll_len {K : PySem.W.Frag} {H : Hp} : ∀ {vs : List V} {ds : List PyData}, DpAll K H vs ds → vs.length = ds.length
  | _, _, .nil => rfl
  | _, _, .cons _ h => congrArg (· + 1) (dpAll_len h)
theorem dpAll_app {K : PySem.W.Frag} {H : Hp} : ∀ {vs us : List V} {ds es : List PyData}, DpAll K H vs ds → DpAll K H us es → DpAll K H (vs ++ us) (ds ++ es)
  | _, _, _, _, .nil, h => h
  | _, _, _, _, .cons a b, h => .cons a (dpAll_app b h)
theorem dpAll_get {K : PySem.W.Frag} {H : Hp} : ∀ {vs : List V} {ds : List PyData} {i : Nat} {v : V}, DpAll K H vs ds → vs[i]? = some v → ∃ d, ds[i]? = some d ∧ Dp K H v d
  | _, _, _, _, .nil, h => by simp at h
  | _, _, 0, _, .cons a _, h => by
    simp at h
    subst h
    exact ⟨_, rfl, a⟩
  | _, _, i + 1, _, .cons _ b, h => by
    obtain ⟨d, e, q⟩ := dpAll_get (i := i) b (by simpa using h)
    exact ⟨d, by simpa using e, q⟩

theorem dpInts {K : PySem.W.Frag} {H : Hp} : ∀ ns : List Int, DpAll K H (ns.map V.int) (ns.map PyData.int)
  | [] => .nil
  | n :: ns => .cons (.int n) (dpInts ns)
theorem canLay_ints : ∀ ns : List Int, PyData.canLayAll0 (ns.map PyData.int) = true
  | [] => by simp only [List.map_nil, PyData.canLayAll0]
  | n :: ns => by simp only [List.map_cons, PyData.canLayAll0, PyData.canLay0, canLay_ints ns, Bool.and_self]
theorem depth_ints : ∀ ns : List Int, PyData.depthAll (ns.map PyData.int) ≤ 1
  | [] => by simp only [List.map_nil, PyData.depthAll]; omega
  | n :: ns => by
    have := depth_ints ns
    simp only [List.map_cons, PyData.depthAll, PyData.depth]
    omega
theorem shaped_ints (ns : List Int) : SeqAt.shaped (.list (ns.map PyData.int)) = true := by
  have h := depth_ints ns
  have h2 : (PyData.list (ns.map PyData.int)).depth ≤ 64 := by
    simp only [PyData.depth]
    omega
  unfold SeqAt.shaped
  simp only [PyData.canLay0, canLay_ints ns, Bool.true_and]
  exact decide_eq_true h2
theorem upd_get {H : Hp} {p b : Addr} {o u : HO} (hp : H p = none) (h : H b = some u) : upd H p o b = some u := by
  rw [upd_ne (ne_of_none h hp)]
  exact h

/-! ### heaps but for two places -/
def off (d c : Addr) (H : Hp) : Hp := fun b => if b = d ∨ b = c then none else H b
theorem off_same {d c : Addr} {H : Hp} : Same (off d c H) H := fun b o h => by
  unfold off at h
  split at h
  · cases h
  · exact h
theorem off_get {d c b : Addr} {H : Hp} (h1 : b ≠ d) (h2 : b ≠ c) : off d c H b = H b := if_neg (fun z => z.elim h1 h2)
def Ext (d c : Addr) (H H' : Hp) : Prop := Same (off d c H) (off d c H')
theorem Ext.refl {d c : Addr} (H : Hp) : Ext d c H H := fun _ _ h => h
theorem Ext.trans {d c : Addr} {H H1 H2 : Hp} (a : Ext d c H H1) (b : Ext d c H1 H2) : Ext d c H H2 := fun x o h => b x o (a x o h)
theorem Ext.d {d c : Addr} {H : Hp} {o : HO} : Ext d c H (upd H d o) := fun b u h => by
  unfold off at h ⊢
  split at h
  · cases h
  · rename_i n
    rw [if_neg n, upd_ne (fun z => n (.inl z))]
    exact h
theorem Ext.c {d c : Addr} {H : Hp} {o : HO} : Ext d c H (upd H c o) := fun b u h => by
  unfold off at h ⊢
  split at h
  · cases h
  · rename_i n
    rw [if_neg n, upd_ne (fun z => n (.inr z))]
    exact h
theorem Ext.new {d c p : Addr} {H : Hp} {o : HO} (hp : H p = none) : Ext d c H (upd H p o) := fun b u h => by
  unfold off at h ⊢
  split at h
  · cases h
  · rename_i n
    rw [if_neg n, upd_ne (ne_of_none h hp)]
    exact h
/-- an object that was not there may change -/
theorem Ext.mut {d c p : Addr} {H H' : Hp} {o : HO} (e : Ext d c H H') (hp : H p = none) : Ext d c H (upd H' p o) := fun b u h => by
  have h1 := e b u h
  unfold off at h h1 ⊢
  split at h
  · cases h
  · rename_i n
    rw [if_neg n] at h1
    rw [if_neg n, upd_ne (ne_of_none h hp)]
    exact h1
theorem Ext.at {d c b : Addr} {H H' : Hp} {o : HO} (e : Ext d c H H') (h1 : b ≠ d) (h2 : b ≠ c) (h : H b = some o) : H' b = some o := by
  have := e b o ((off_get h1 h2).trans h)
  rw [off_get h1 h2] at this
  exact this
/-- of H' what H had not -/
def news (H H' : Hp) : Hp := fun b => if (H b).isSome = true then none else H' b
theorem news_get {H H' : Hp} {b : Addr} {o : HO} : news H H' b = some o ↔ H b = none ∧ H' b = some o := by
  unfold news
  cases h : H b with
  | none => simp
  | some u => simp
theorem news_same {H H' : Hp} : Same (news H H') H' := fun b o h => (news_get.mp h).2
theorem Ext.sqL {K : PySem.W.Frag} {d c : Addr} {H H' : Hp} {a : Addr} {xs : List V} (e : Ext d c H H') (h : SqL K (off d c H) a xs) : SqL K (off d c H') a xs := Same.seq e h
theorem offL {K : PySem.W.Frag} {d c : Addr} {H : Hp} {a : Addr} {xs : List V} (h : SqL K (off d c H) a xs) : SqL K H a xs := Same.seq off_same h
theorem offD {K : PySem.W.Frag} {d c : Addr} {H : Hp} {v : V} {D : PyData} (h : Dp K (off d c H) v D) : Dp K H v D := dp_mono off_same D v h
theorem Ext.dp {K : PySem.W.Frag} {d c : Addr} {H H' : Hp} {v : V} {D : PyData} (e : Ext d c H H') (h : Dp K (off d c H) v D) : Dp K (off d c H') v D := dp_mono e D v h
theorem tyes {σ : L2.St} {H : Hp} {A B : Hp → Prop} (h : A H) : tYes σ H fun b H3 => if b = true then A H3 else B H3 := by
  show if true = true then A H else B H
  exact iteT h
/-! ### texts -/
abbrev cp (z : Str) : List Nat := z.cps.toList
theorem cp_len (z : Str) : (cp z).length = z.length := by unfold cp; simp [Str.length]
theorem cp_app (a b : Str) : cp (a ++ b) = cp a ++ cp b := by
  unfold cp
  rw [Str.cps_append, Array.toList_append]
theorem cp_ext {a b : Str} (h : cp a = cp b) : a = b := Str.ext' (Array.toList_inj.mp h)
structure OkS (m : Nat) (z : Str) : Prop where
  len : z.length ≤ m
  cps : ∀ c ∈ cp z, c < 128
theorem OkS.up {m n : Nat} {z : Str} (h : OkS m z) (hn : m ≤ n) : OkS n z := ⟨Nat.le_trans h.len hn, h.cps⟩
theorem OkS.app {m n : Nat} {a b : Str} (h : OkS m a) (g : OkS n b) : OkS (m + n) (a ++ b) := by
  refine ⟨?_, fun c hc => ?_⟩
  · rw [Str.length_append]
    have := h.len
    have := g.len
    omega
  · rw [cp_app] at hc
    rcases List.mem_append.mp hc with q | q
    · exact h.cps c q
    · exact g.cps c q
theorem OkS.cut {m : Nat} {z : Str} (h : OkS m z) (lo hi : Option Int) : OkS m (cutS z lo hi) := by
  have e : cp (cutS z lo hi) = ((cp z).drop (HT.sIx z.length 0 lo)).take (HT.sIx z.length z.length hi - HT.sIx z.length 0 lo) := by
    unfold cutS cp
    simp
  refine ⟨?_, fun c hc => ?_⟩
  · rw [← cp_len, e, List.length_take, List.length_drop, cp_len]
    have := h.len
    omega
  · rw [e] at hc
    exact h.cps c (List.mem_of_mem_drop (List.mem_of_mem_take hc))
theorem OkS.one {c : Nat} (h : c < 128) : OkS 1 ⟨#[c]⟩ := ⟨by simp [Str.length], fun x hx => by simp [cp] at hx; omega⟩
theorem OkS.repr {m : Nat} {z : Str} (h : OkS m z) : (reprText z).length ≤ 10 * m + 2 := by
  have h1 := StrLaws.reprText_len z (fun c hc => Nat.lt_of_lt_of_le (h.cps c hc) (by decide))
  have := h.len
  omega
theorem cp_join0 : ∀ l : List Str, cp (Str.join "" l) = (l.map cp).flatten
  | [] => rfl
  | [x] => by
    show cp x = _
    simp
  | x :: y :: r => by
    show cp (x ++ "" ++ Str.join "" (y :: r)) = _
    rw [cp_app, cp_app, cp_join0 (y :: r)]
    have e : cp ("" : Str) = [] := rfl
    rw [e]
    simp
theorem cp_joinT (l : List Str) : cp (Txt.join "" l) = (l.map cp).flatten := by
  rw [eq_of_beq (join_plain_closes "" l)]
  exact cp_join0 l
end HG

set_option maxHeartbeats 4000000
/-! HU: a lambda that captures one name, handed to a def and called there. The cell of the name is known to the def that is called (CellO), and hidden again while the lambda runs. -/
namespace HG
open PySem PySem.Spec PyProof.Rows L2 LamX NdefX
def CellO (c : Addr) (o : Obj) : HO := .ext fun h => h.get? c = some o
def CellV (o : Obj) (v : V) : Prop := ∃ u, o.data = .cell (some u) ∧ RelV v u
structure LF where
  qual : Str
  params : Arguments
  body : Expr
  scope : Scope
def LamO (f : Addr) (F : LF) (y : Str) (c' cs : Addr) : HO :=
  .ext fun h => ∃ (cl : List (Str × Addr)) (pm ctv : Value), h.get? f = some (PySem.W.kla_obj "<lambda>" F.qual F.params F.body F.scope cl pm c' ctv) ∧ cl.lookup y = some cs ∧ ∀ z c, cl.lookup z = some c → z = y
def hide (H : Hp) (c : Addr) : Hp := fun b => if b = c then none else H b
theorem hide_same {H : Hp} {c : Addr} : hide H c c = none := if_pos rfl
theorem hide_ne {H : Hp} {c b : Addr} (h : b ≠ c) : hide H c b = H b := if_neg h
theorem hide_none {H : Hp} {c b : Addr} (h : H b = none) : hide H c b = none := by
  unfold hide
  split
  · rfl
  · exact h
section
variable {P : Program} {w : World} {K : PySem.W.Frag} {mg : Str → Option Value} {base : Heap} {A : Around} {outer : List Env} {s s' : Shared} {H : Hp} {h : Heap} {c : Addr} {o : Obj} {Q : VK} {E : XK} {r : Result}
theorem cellO_get (hok : HOk P w H h) (e : H c = some (CellO c o)) : h.get? c = some o := by
  obtain ⟨z, _, _⟩ := hok c _ e
  exact z
theorem cell_ne {u : HO} (hu : ∀ φ, u ≠ .ext φ) {b : Addr} (e : H c = some (CellO c o)) (q : H b = some u) : b ≠ c := fun z => by
  rw [z, e] at q
  exact hu _ (Option.some.inj q).symm
theorem hok_hide (hok : HOk P w H h) (e : H c = some (CellO c o)) : HOk P w (hide H c) h := by
  intro a u q
  have na : a ≠ c := fun z => by
    rw [z, hide_same] at q
    cases q
  rw [hide_ne na] at q
  refine (hok a u q).stay (fun _ _ _ z => z) (fun b z => ?_) (fun b xs z => ?_)
  · rw [hide_ne (cell_ne (fun _ y => by cases y) e z)]; exact z
  · rw [hide_ne (cell_ne (fun _ y => by cases y) e z)]; exact z
theorem hok_adopt (hok : HOk P w H h) (n : H c = none) (g : h.get? c = some o) : HOk P w (upd H c (CellO c o)) h := by
  intro a u q
  by_cases z : a = c
  · subst z
    rw [upd_same] at q
    cases q
    exact ⟨g, ⟨o, g⟩, fun h1 h2 p st => st _ p⟩
  · rw [upd_ne z] at q
    refine (hok a u q).stay (fun _ _ _ z => z) (fun b y => ?_) (fun b xs y => ?_)
    · rw [upd_ne (ne_of_none y n)]; exact y
    · rw [upd_ne (ne_of_none y n)]; exact y
theorem env0_hide (e0 : Env0 P w K mg base A outer s H) (e : H c = some (CellO c o)) : Env0 P w K mg base A outer s (hide H c) where
  frames := e0.frames
  mod := e0.mod
  bs := fun b u q => ⟨(e0.bs b u q).1, hide_none (e0.bs b u q).2⟩
  bsz := e0.bsz
  funs := e0.funs
  frf := fun b hb => hide_none (e0.frf b hb)
  hok := hok_hide e0.hok e
  bare := e0.bare
theorem env0_adopt (e0 : Env0 P w K mg base A outer s H) (n : H c = none) (g : s.heap.get? c = some o) (nb : base.get? c = none) (nf : c ∉ frs outer) : Env0 P w K mg base A outer s (upd H c (CellO c o)) where
  frames := e0.frames
  mod := e0.mod
  bs := fun b u q => ⟨(e0.bs b u q).1, by
    rw [upd_ne (fun z => by rw [z, nb] at q; cases q)]
    exact (e0.bs b u q).2⟩
  bsz := e0.bsz
  funs := e0.funs
  frf := fun b hb => by
    have z : b ≠ c := fun z => nf (by rw [← z]; exact hb)
    rw [upd_ne z]
    exact e0.frf b hb
  hok := hok_adopt e0.hok n g
  bare := e0.bare
theorem cr_hide (e : H c = some (CellO c o)) (e0 : Env0 P w K mg base A outer s H) (h : CR CX0 outer P w (hide H c) s (fun v H2 => H2 c = none → Q v (upd H2 c (CellO c o))) E r s') : CR CX0 outer P w H s Q E r s' := by
  cases r with
  | error _ => exact h.elim
  | ok fl =>
    cases fl with
    | next => exact h.elim
    | brk => exact h.elim
    | cont => exact h.elim
    | ret u =>
      obtain ⟨v, H2, os, bare, un, hok2, rv, q⟩ := h
      have nf : c ∉ frs outer := fun z => by
        have := e0.frf c z
        rw [e] at this
        cases this
      have g := cellO_get e0.hok e
      have g' : s'.heap.get? c = some o := un.keep c o g hide_same nf (by simp)
      have n2 : H2 c = none := un.free c o g hide_same (by simp)
      have nn : ∀ {b : Addr}, H b = none → b ≠ c := fun {b} n z => by rw [z, e] at n; cases n
      refine ⟨v, upd H2 c (CellO c o), os, bare, ⟨fun b u q n hb hx => un.keep b u q (hide_none n) hb hx, fun b u q n hb hx => un.slot b u q (hide_none n) hb hx, fun b u q n hx => ?_, un.there, fun b xs q => ?_, fun b o' u q => ?_, fun b ps q => ?_⟩, hok_adopt hok2 n2 g', rv, q n2⟩
      · rw [upd_ne (nn n)]
        exact un.free b u q (hide_none n) hx
      · have nb := cell_ne (u := .tup xs) (fun _ y => by cases y) e q
        rw [upd_ne nb]
        exact un.tups b xs ((hide_ne nb).trans q)
      · have nb := cell_ne (u := .frz o' u) (fun _ y => by cases y) e q
        rw [upd_ne nb]
        exact un.frzs b o' u ((hide_ne nb).trans q)
      · have nb := cell_ne (u := .tbl ps) (fun _ y => by cases y) e q
        rw [upd_ne nb]
        exact un.tbls b ps ((hide_ne nb).trans q)
theorem cr_adopt (n : H c = none) (g : s.heap.get? c = some o) (nf : c ∉ frs outer) (h : CR CX0 outer P w (upd H c (CellO c o)) s (fun v H2 => H2 c = some (CellO c o) ∧ Q v (hide H2 c)) E r s') : CR CX0 outer P w H s Q E r s' := by
  cases r with
  | error _ => exact h.elim
  | ok fl =>
    cases fl with
    | next => exact h.elim
    | brk => exact h.elim
    | cont => exact h.elim
    | ret u =>
      obtain ⟨v, H2, os, bare, un, hok2, rv, e2, q⟩ := h
      have g' := cellO_get hok2 e2
      have up : ∀ {b : Addr} {u : HO}, H b = some u → upd H c (CellO c o) b = some u := fun {b u} q => by rw [upd_ne (ne_of_none q n)]; exact q
      refine ⟨v, hide H2 c, os, bare, ⟨fun b u qb n1 hb hx => ?_, fun b u q n1 hb hx => ?_, fun b u q n1 hx => ?_, fun b u q hx => un.there b u q hx, fun b xs q => ?_, fun b o' u q => ?_, fun b ps q => ?_⟩, hok_hide hok2 e2, rv, q⟩
      · by_cases z : b = c
        · subst z
          rw [g] at qb
          cases qb
          exact g'
        · exact un.keep b u qb (by rw [upd_ne z]; exact n1) hb hx
      · have z : b ≠ c := fun z => nf (by rw [← z]; exact hb)
        exact un.slot b u q (by rw [upd_ne z]; exact n1) hb hx
      · by_cases z : b = c
        · rw [z]; exact hide_same
        · exact hide_none (un.free b u q (by rw [upd_ne z]; exact n1) hx)
      · rw [hide_ne (ne_of_none q n)]; exact un.tups b xs (up q)
      · rw [hide_ne (ne_of_none q n)]; exact un.frzs b o' u (up q)
      · rw [hide_ne (ne_of_none q n)]; exact un.tbls b ps (up q)
end
/-! ### the lambda's run -/
structure LOk (P : Program) (w : World) (K : PySem.W.Frag) (mg : Str → Option Value) (base : Heap) (k : Nat) (F : LF) (y : Str) (sp : V → Sp) : Prop where
  run : ∀ (A : Around) (outer : List Env) (s : Shared) (H : Hp) (us : List Value) (vs : List V) (v : V) (cs c' f : Addr) (o : Obj) (Q : VK), Room k A → Env0 P w K mg base A outer s H → H f = some (LamO f F y c' cs) → H c' = some (CodeO c' F.qual) →
    H cs = some (CellO cs o) → CellV o v → Vals vs us → sp v vs (hide H cs) (fun r H2 => H2 cs = none → Q r (upd H2 cs (CellO cs o))) E0 → codeAny (model P w) A (.call (.ref f) ⟨us, []⟩) (CR CX0 outer P w H s Q E0) s
abbrev LF.nf (F : LF) (cl : List (Str × Addr)) (c' : Addr) : NF := ⟨"<lambda>", F.qual, F.params, [], F.scope, cl, c'⟩
theorem lok_of {P : Program} {w : World} {K : PySem.W.Frag} {mg : Str → Option Value} {base : Heap} {k : Nat} {F : LF} {y : Str} {sp : V → Sp} {N ps : List Str} (S : NScope N ps [y] F.scope)
    (hb : ∀ (cl : List (Str × Addr)) (pm cv ctv : Value) (us : List Value), us.length = ps.length → bindArgs (PySem.W.kla_fn "<lambda>" F.qual F.params F.body F.scope cl pm cv ctv) ⟨us, []⟩ = pure (ps.zip us))
    (len : ∀ v vs H Q, sp v vs H Q E0 → vs.length = ps.length)
    (hbody : ∀ (A : Around) (outer : List Env) (s : Shared) (H : Hp) (vs : List V) (v : V) (cl : List (Str × Addr)) (c' f : Addr) (Q : VK), Room k (A.deeper (envF (F.nf cl c') f s.heap.objs.size)) → sp v vs H Q E0 →
      ∃ t, PE (ncx CX0 P w K mg base N (F.nf cl c') f A outer s H E0) F.body t ∧ t (startF N vs [some v]) H Q) : LOk P w K mg base (k + 1) F y sp := by
  refine ⟨fun A outer s H us vs v cs c' f o Q hr e0 hf hc hcs hv r hsp => ?_⟩
  obtain ⟨⟨cl, pm, ctv, ho, hy, hz⟩, _, _⟩ := e0.hok f _ hf
  have hl := len _ _ _ _ hsp
  have g := cellO_get e0.hok hcs
  refine codeAny_mono (R := CR CX0 outer P w (hide H cs) s (fun v H2 => H2 cs = none → Q v (upd H2 cs (CellO cs o))) E0) ?_ (fun r s' h => cr_hide hcs e0 h)
  have e1 := env0_hide e0 hcs
  have lim : s.heap.NoLimit := e0.mod.nolimit.keeps fun b o e => (e0.bs b o e).1
  refine PySem.W.kla_callFunE hr.depth ho rfl S.co S.gen rfl (codeO_at e0.hok hc) ?_
  rw [hb cl pm (.ref c') ctv us (by rw [← r.length]; exact hl)]
  refine wpAny_pure (wpAny_newFunctionEnv S.nocell (fun ⟨n, _⟩ hy => S.par n (List.of_mem_zip hy).1) (fun h₁ hns hsb => ⟨lim.fresh _ hsb, ?_⟩) S.kind)
  show codeAny _ _ (.expr F.body (envF (F.nf cl c') f s.heap.objs.size)) _ _
  have kp : ∀ b u, s.heap.get? b = some u → h₁.get? b = some u := fun b u e => hsb.extBut b u (Nat.ne_of_lt (Heap.lt_size e)) (Heap.get?_push_of_some _ e)
  obtain ⟨u0, hd0, ru0⟩ := hv
  have C : CellsAt cl [y] [some v] s.heap (hide H cs) := by
    refine ⟨rfl, fun z c e => ?_, fun a b c e1 e2 => (hz a c e1).trans (hz b c e2).symm, fun i z e => ?_⟩
    · have ez := hz z c e
      subst ez
      rw [hy] at e
      cases e
      exact ⟨hide_same, some u0, o, g, hd0⟩
    · match i, e with
      | 0, e =>
        cases e
        refine ⟨cs, hy, fun v' e' => ?_⟩
        cases e'
        exact ⟨u0, ru0, o, g, hd0⟩
      | i + 1, e => cases e
  obtain ⟨t, ht, hq⟩ := hbody A outer s (hide H cs) vs v cl c' f _ (hr.deeper _) hsp
  have J : Inv (ncx CX0 P w K mg base N (F.nf cl c') f A outer s (hide H cs) E0) [] (startF N vs [some v]) (hide H cs) { s with heap := h₁, toks := s.toks + (ps.zip us).length } := inv_startN S hr.hd e1 hl r C hns kp
  refine PySem.W.kla_codeExpr (wpAny_mono (ht.run [] _ _ _ _ J hq) (fun v s' hq => ?_) fun e s' hq => hq)
  obtain ⟨w', H', J', rv, q⟩ := hq
  exact ⟨w', H', J'.os, J'.bare, J'.base, J'.hok, rv, q⟩
/-! ### its call -/
def tCallLam (i : Nat) (F : LF) (y : Str) (sp : V → Sp) (t : TA) : TE := fun σ H Q => ∃ (f c' cs : Addr) (o : Obj) (v : V), σ[i]? = some (some (.ref f)) ∧ H f = some (LamO f F y c' cs) ∧
  t σ H fun vs H1 => H1 f = some (LamO f F y c' cs) ∧ H1 c' = some (CodeO c' F.qual) ∧ H1 cs = some (CellO cs o) ∧ CellV o v ∧ sp v vs (hide H1 cs) (fun r H2 => H2 cs = none → Q r (upd H2 cs (CellO cs o))) E0
section
variable {X : Cx} {k i j : Nat} {F : LF} {x y : Str} {sp : V → Sp} {p pos : Pos} {e : Expr} {es : List Expr} {t : TA}
theorem lam_at {pins : List (Addr × Obj)} {σ : L2.St} {H : Hp} {s : Shared} {f c' cs : Addr} (I : Inv X pins σ H s) (e : H f = some (LamO f F y c' cs)) : PySem.W.FnAt f s.heap := by
  obtain ⟨⟨cl, pm, ctv, ho, _⟩, _, _⟩ := I.hok f _ e
  exact ⟨_, _, _, _, ho⟩
theorem pe_callLam (L : LOk X.prog X.w X.K X.mg X.base k F y sp) (hr : Room k X.A) (hN : X.N[i]? = some x) (hv : Vis X.env.scope x) (ha : PA X (e :: es) t)
    (hd : (x == ("__debug__" : Str)) = false := by decide) (hcd : (x == ("__classdict__" : Str)) = false := by decide)
    (he : starEach (e :: es) X.env = (false, eval e X.env) :: starEach es X.env := by rfl) (hpl : (backTo pos (starEach es X.env)).any (·.1) = false := by rfl) :
    PE X (.Call (.Name x p) (e :: es) [] pos) (tCallLam i F y sp t) := by
  constructor
  rintro pins s σ H Q I ⟨f, c', cs, o, v, hs, hf, ht⟩
  refine wpAny_Call_Name_kw (thn ((pe_var (pos := p) hN hv hd hcd).run pins s σ H (fun v H1 => v = .ref f ∧ H1 = H) I ⟨.ref f, hs, rfl, rfl⟩) ?_)
  rintro u s1 ⟨v1, H1, I1, r1, rfl, rfl⟩
  obtain rfl : u = Value.ref f := r1
  refine PySem.W.callWith_F (first := []) (lam_at I1 hf) (thn (ha.run pos pins s1 σ H1 _ I1 ht) ?_) he hpl
  rintro us s2 ⟨vs, H2, I2, r, h1, h2, h3, h4, q⟩
  refine ⟨lam_at I2 h1, ?_⟩
  show wpAny _ _ (call (.ref f) us) _ _ _
  refine wpAny_call (codeAny_mono (L.run X.A X.stack s2 H2 us vs v cs c' f o Q hr I2.env0 h1 h2 h3 h4 r q) fun r s' hq => ?_)
  exact fin_call pass0 I2 hq
/-! ### a lambda as a value -/
def tLm (T : List (Addr × Str)) (F : LF) (y : Str) (cs : Addr) : TE := fun σ H Q => Tabs T H ∧ ∀ (f c' : Addr) (H1 : Hp), ExtN H H1 → (∀ b, H1 b = none → H b = none) → Tabs T H1 → H f = none → H1 f = some (LamO f F y c' cs) → H1 c' = some (CodeO c' F.qual) → Q (.ref f) H1
theorem lamO_ne {f c' cs : Addr} (ps : Array Value) : LamO f F y c' cs ≠ .tbl ps := fun z => by
  unfold LamO at z
  cases z
theorem tabs_ext {T : List (Addr × Str)} {H H' : Hp} (t : Tabs T H) (s : Same H H') : Tabs T H' := t.ext s
theorem pe_lam {T : List (Addr × Str)} {c P : Addr} {params : Arguments} {body : Expr} {scope : Scope} (TB : TabB X.base X.mg c P) (hcode : X.env.code = .ref c)
    (hm : (P, X.env.qual ++ "<lambda>") ∈ T) (hu : ∀ p ∈ T, p.1 = P → p.2 = X.env.qual ++ "<lambda>") (hdef : defaultsOf params X.env = ([], []))
    (hy : (y, NameKind.free) ∈ scope.names) (hk : X.env.scope.names.lookup y = some .cell) (only : ∀ z ∈ scope.names, z.2 = .free → z.1 = y) :
    PE X (.Lambda params body scope pos) (tLm T ⟨X.env.qual ++ "<lambda>", params, body, scope⟩ y ((X.env.cells.lookup y).getD 0)) := by
  constructor
  rintro pins s σ H Q I ⟨hT, hq⟩
  obtain ⟨ps, hP, ht, ha⟩ := hT _ hm
  have hfree : ∀ z ∈ scope.names, z.2 = .free → ∃ c, X.env.cells.lookup z.1 = some c := fun z hz e => by
    rw [only z hz e]
    exact I.ok.has y (.inl hk)
  have hl1 : (cloFrom X.env.cells scope.names []).lookup y = some ((X.env.cells.lookup y).getD 0) := by
    obtain ⟨cy, ey⟩ := I.ok.has y (.inl hk)
    rw [ey]
    exact clo_has hfree hy ey
  have hl2 : ∀ z c, (cloFrom X.env.cells scope.names []).lookup z = some c → z = y := fun z c e => by
    rcases cloFrom_mem (PySem.mem_of_lookup e) with q | ⟨q, _⟩
    · cases q
    · exact only _ q rfl
  have bP : s.heap.BuiltinsAt X.mg P := TB.bm.keeps I.bk
  have hP' : s.heap.get? P = some { cls := .none, data := .fields ps } := I.hok P _ hP
  have lamOk : ∀ (H1 : Hp) (h1 : Heap) (f c' : Addr) (pm ctv : Value), h1.get? f = some (PySem.W.kla_obj "<lambda>" (X.env.qual ++ "<lambda>") params body scope (cloFrom X.env.cells scope.names []) pm c' ctv) →
      ObjOk X.prog X.w H1 h1 f (LamO f ⟨X.env.qual ++ "<lambda>", params, body, scope⟩ y c' ((X.env.cells.lookup y).getD 0)) := fun H1 h1 f c' pm ctv e =>
    ⟨⟨_, pm, ctv, e, hl1, hl2⟩, ⟨_, e⟩, fun h2 h3 ⟨cl, pm, ctv, e, r⟩ st => ⟨cl, pm, ctv, st _ e, r⟩⟩
  refine PySem.W.kla_eval hdef ?_
  cases hc : codeAmong pos ps.toList with
  | some cv =>
    obtain ⟨c', e, hco⟩ := ha pos cv hc
    subst e
    refine PySem.W.kla_makeFunctionHit (mg := X.mg) (c := c) (P := P) (ps := ps) (closure_ok hfree) I.ok.glob (I.mod.glob.keeps I.bk) hcode (TB.code.keeps I.bk) hP' ht hc bP ?_
    intro ctv h' tk hx hsz
    have I1 : Inv X pins σ H { s with heap := h', toks := tk } := I.kept hx
    have nF : H h'.objs.size = none := I1.hok.fresh (Nat.le_refl _)
    have sm : Same H (upd H h'.objs.size (LamO h'.objs.size ⟨X.env.qual ++ "<lambda>", params, body, scope⟩ y c' ((X.env.cells.lookup y).getD 0))) := fun b o e => upd_get nF e
    have I2 := I1.laid (h' := h'.push (PySem.W.kla_obj "<lambda>" (X.env.qual ++ "<lambda>") params body scope (cloFrom X.env.cells scope.names []) ((X.mg "__name__").getD .none) c' ctv)) (t' := tk) (a := h'.objs.size)
      (fun b u e => Heap.get?_push_of_some _ e) (Nat.le_refl _) (lamOk _ _ _ _ _ _ (Heap.get?_push_size _ rfl))
    exact ⟨.ref _, _, I2, rfl, hq h'.objs.size c' _ (ExtN.of sm) (fun b e => upd_none e) (hT.ext sm) nF upd_same (sm _ _ hco)⟩
  | none =>
    refine PySem.W.kla_makeFunction (mg := X.mg) (c := c) (P := P) (ps := ps) (closure_ok hfree) I.ok.glob (I.mod.glob.keeps I.bk) hcode (TB.code.keeps I.bk) hP' ht hc TB.gP bP ?_
    intro c' ctv h' tk hx hge hlt hrec htb
    obtain ⟨c2, oc, vs, t, e2, hoc, hd, hv⟩ := hrec
    cases e2
    have nC : H c' = none := I.hok.fresh hge
    have nP : P ≠ c' := ne_of_none hP nC
    have I1 := inv_table (t' := tk) (more := #[rawInt pos.line, rawInt pos.col, .ref c']) (h' := h') I hP (fun b o hb e => hx b o hb e) htb hge ⟨oc, vs, t, hoc, hd, hv⟩
    generalize eH1 : upd (upd H P (.tbl (ps ++ #[rawInt pos.line, rawInt pos.col, .ref c']))) c' (CodeO c' (X.env.qual ++ "<lambda>")) = H1 at I1
    have atP : H1 P = some (.tbl (ps ++ #[rawInt pos.line, rawInt pos.col, .ref c'])) := by rw [← eH1, upd_ne nP, upd_same]
    have atC : H1 c' = some (CodeO c' (X.env.qual ++ "<lambda>")) := by rw [← eH1]; exact upd_same
    have rest : ∀ b o, H b = some o → b ≠ P → H1 b = some o := fun b o e hb => by
      rw [← eH1, upd_ne (ne_of_none e nC), upd_ne hb]
      exact e
    have hE : ExtN H H1 := fun b o e n => rest b o e fun z => n ps (Option.some.inj (e.symm.trans (z ▸ hP)))
    have gr : ∀ b, H1 b = none → H b = none := fun b e => by
      rw [← eH1] at e
      exact upd_none (upd_none e)
    have T1 : Tabs T H1 := by
      intro p hp
      by_cases hb : p.1 = P
      · have eL : (ps ++ #[rawInt pos.line, rawInt pos.col, .ref c']).toList = ps.toList ++ [rawInt pos.line, rawInt pos.col, .ref c'] := by simp
        rw [hu p hp hb, hb]
        refine ⟨_, atP, by rw [eL]; exact PySem.TriplesOk_snoc _ _ _ _ ht, fun p' cv hcv => ?_⟩
        rw [eL] at hcv
        rcases among_app _ ht hcv with z | z
        · obtain ⟨c0, e1, e2⟩ := ha p' cv z
          exact ⟨c0, e1, hE _ _ e2 codeO_ne⟩
        · exact ⟨c', z, atC⟩
      · obtain ⟨ps', a1, a2, a3⟩ := hT p hp
        refine ⟨ps', rest _ _ a1 hb, a2, fun p' cv hcv => ?_⟩
        obtain ⟨c0, e1, e2⟩ := a3 p' cv hcv
        exact ⟨c0, e1, hE _ _ e2 codeO_ne⟩
    have nF : H1 h'.objs.size = none := I1.hok.fresh (Nat.le_refl _)
    have sm : Same H1 (upd H1 h'.objs.size (LamO h'.objs.size ⟨X.env.qual ++ "<lambda>", params, body, scope⟩ y c' ((X.env.cells.lookup y).getD 0))) := fun b o e => upd_get nF e
    have I2 := I1.laid (h' := h'.push (PySem.W.kla_obj "<lambda>" (X.env.qual ++ "<lambda>") params body scope (cloFrom X.env.cells scope.names []) ((X.mg "__name__").getD .none) c' ctv)) (t' := tk) (a := h'.objs.size)
      (fun b u e => Heap.get?_push_of_some _ e) (Nat.le_refl _) (lamOk _ _ _ _ _ _ (Heap.get?_push_size _ rfl))
    exact ⟨.ref _, _, I2, rfl, hq h'.objs.size c' _ (hE.trans (ExtN.of sm)) (fun b e => gr b (upd_none e)) (T1.ext sm) (gr _ nF) upd_same (sm _ _ atC)⟩
/-! ### a def called while a cell is known -/
def tCalA (j : Nat) (cs : Addr) (sp : Sp) (t : TA) : TE := fun σ H Q => t σ H fun vs H1 => ∃ v, σ[j]? = some (some v) ∧ (H1 cs = none → ∀ o, CellV o v → sp vs (upd H1 cs (CellO cs o)) (fun r H' => H' cs = some (CellO cs o) ∧ Q r (hide H' cs)) E0)
theorem pe_calA {ps : List Str} {sp : Sp} (C : Cal X.prog X.w X.K X.mg X.base x k ps sp) (hr : Room k X.A) (hg : Gl X x) (ha : PA X (e :: es) t) (hN : X.N[j]? = some y) (hk : X.env.scope.names.lookup y = some .cell) (hfn : X.fn y = true)
    (hdb : (x == ("__debug__" : Str)) = false := by decide)
    (he : starEach (e :: es) X.env = (false, eval e X.env) :: starEach es X.env := by rfl)
    (hpl : (backTo pos (starEach es X.env)).any (·.1) = false := by rfl) : PE X (.Call (.Name x p) (e :: es) [] pos) (tCalA j ((X.env.cells.lookup y).getD 0) sp t) := by
  obtain ⟨fd, F, b⟩ := C.ex
  constructor
  intro pins s σ H Q I h
  refine wpAny_Call_Name_kw (ld_glob I hg C.gl ?_ hdb)
  refine PySem.W.callWith_K (h₀ := X.base) I.ok.mod.kin C.kp (thn (ha.run pos pins s σ H _ I h) ?_) he hpl
  rintro us s1 ⟨vs, H1, I1, r, v, hv, q⟩
  obtain ⟨cs, ecs⟩ := I1.ok.has y (.inl hk)
  rw [ecs] at q
  have nC : H1 cs = none := I1.freeC y cs ecs
  obtain ⟨m, hn, hl⟩ := I1.loc
  obtain ⟨u, ru, lk⟩ := hl j y v hN hv (.inr (.inl hk))
  have cell : s1.heap.IsCell cs (some u) := by
    rcases lk with ⟨z, _⟩ | ⟨_, c2, e2, z⟩
    · have z : X.env.scope.names.lookup y = some .local := z
      rw [hk] at z
      cases z
    · rw [ecs] at e2
      cases e2
      exact z
  obtain ⟨o, go, hd⟩ := cell
  have hge : X.s_0.heap.objs.size ≤ cs := I1.ok.cab y cs hfn ecs
  have nb : X.base.get? cs = none := by
    cases z : X.base.get? cs with
    | none => rfl
    | some ob =>
      have h1 := Heap.lt_size z
      have h2 := I1.ok.bsz
      exact absurd (Nat.lt_of_lt_of_le h1 (Nat.le_trans h2 hge)) (Nat.lt_irrefl _)
  have nO : cs ∉ X.fs := fun z => by
    obtain ⟨ob, e1, _⟩ := (I1.ok.funs.mem z).2
    exact absurd (Nat.lt_of_lt_of_le (Heap.lt_size e1) hge) (Nat.lt_irrefl _)
  have nf : cs ∉ frs X.stack := fun z => by
    rcases I1.ok.stk with e | ⟨e, ef⟩
    · rw [e] at z
      exact nO z
    · rw [e] at z
      have z : cs ∈ (X.env :: X.outer).filterMap (·.frame) := z
      rw [List.filterMap_cons, ef] at z
      rcases List.mem_cons.mp z with z | z
      · obtain ⟨ob, es1, ep, e1, d1, _⟩ := hn
        rw [← z, go] at e1
        cases e1
        rw [hd] at d1
        cases d1
      · exact nO z
  have q := q nC o ⟨u, hd, ru⟩
  have hl1 : us.length = ps.length := r.length.symm.trans (F.len _ _ _ _ q)
  refine ⟨I1.kIn, wpAny_call (codeAny_mono (F.run X.A X.stack s1 (upd H1 cs (CellO cs o)) ⟨us, []⟩ us vs _ _ hr (env0_adopt I1.env0 nC go nb nf) ?_ r q) fun r s' hq => ?_)⟩
  · have := b s1 us I1.kIn (by rw [List.append_nil]; exact hl1)
    rw [List.append_nil] at this
    exact this
  · exact fin_call pass0 I1 (cr_adopt nC go nf hq)
end
/-- the lambda and what it needs, as data S -/
structure LamAt (K : PySem.W.Frag) (F : LF) (y : Str) (H : Hp) (f c' cs : Addr) (o : Obj) (v : V) (S : List PyData) : Prop where
  lam : H f = some (LamO f F y c' cs)
  code : H c' = some (CodeO c' F.qual)
  cell : H cs = some (CellO cs o)
  val : CellV o v
  dat : Dp K H v (.tuple S)
theorem LamAt.mono {K : PySem.W.Frag} {F : LF} {y : Str} {H H' : Hp} {f c' cs : Addr} {o : Obj} {v : V} {S : List PyData} (h : LamAt K F y H f c' cs o v S) (s : Same H H') : LamAt K F y H' f c' cs o v S :=
  ⟨s _ _ h.lam, s _ _ h.code, s _ _ h.cell, h.val, dp_mono s _ _ h.dat⟩
mutual
theorem dp_hide {K : PySem.W.Frag} {H : Hp} {c : Addr} {o : Obj} (e : H c = some (CellO c o)) : ∀ (d : PyData) (v : V), Dp K H v d → Dp K (hide H c) v d
  | .none, _, h => by cases h; exact .non
  | .bool b, _, h => by cases h; exact .bl b
  | .int i, _, h => by cases h; exact .int i
  | .str x, _, h => by cases h; exact .str x
  | .list ds, _, h => by
    cases h with
    | lst s a =>
      refine .lst ?_ (dpAll_hide e ds _ a)
      rcases s with (s | ⟨o, s⟩) | s
      · exact .inl (.inl ((hide_ne (cell_ne (fun _ y => by cases y) e s)).trans s))
      · exact .inl (.inr ⟨o, (hide_ne (cell_ne (fun _ y => by cases y) e s)).trans s⟩)
      · exact .inr s
  | .tuple ds, _, h => by
    cases h with
    | tup s a =>
      refine .tup ?_ (dpAll_hide e ds _ a)
      rcases s with (s | ⟨o, s⟩) | s
      · exact .inl (.inl ((hide_ne (cell_ne (fun _ y => by cases y) e s)).trans s))
      · exact .inl (.inr ⟨o, (hide_ne (cell_ne (fun _ y => by cases y) e s)).trans s⟩)
      · exact .inr s
  | .dict _, _, h => by cases h
theorem dpAll_hide {K : PySem.W.Frag} {H : Hp} {c : Addr} {o : Obj} (e : H c = some (CellO c o)) : ∀ (ds : List PyData) (vs : List V), DpAll K H vs ds → DpAll K (hide H c) vs ds
  | [], _, h => by cases h; exact .nil
  | d :: ds, _, h => by
    cases h with
    | cons a b => exact .cons (dp_hide e d _ a) (dpAll_hide e ds _ b)
end
/-- back from the lambda -/
theorem same_back {H H2 : Hp} {c : Addr} {o : Obj} (e : H c = some (CellO c o)) (s : Same (hide H c) H2) : Same H (upd H2 c (CellO c o)) := fun b u q => by
  by_cases z : b = c
  · subst z
    rw [e] at q
    cases q
    exact upd_same
  · rw [upd_ne z]
    exact s _ _ ((hide_ne z).trans q)
end HG

set_option maxHeartbeats 4000000
/-! HB: order of tuples of ints and texts, mixed: t < u, sorted of a dict with such keys. -/
namespace HG
open PySem PySem.SeqAt PySem.W PyProof.Rows
/-- the first unequal place is of one kind -/
inductive LexR : List L2.Key → List L2.Key → Bool → Prop
  | nn : LexR [] [] false
  | nc {b : L2.Key} {s : List L2.Key} : LexR [] (b :: s) true
  | cn {a : L2.Key} {r : List L2.Key} : LexR (a :: r) [] false
  | eq {a : L2.Key} {r s : List L2.Key} {z : Bool} : LexR r s z → LexR (a :: r) (a :: s) z
  | ii {i j : Int} {r s : List L2.Key} : i ≠ j → LexR (Sum.inl i :: r) (Sum.inl j :: s) (decide (i < j))
  | ss {x y : Str} {r s : List L2.Key} : x ≠ y → LexR (Sum.inr x :: r) (Sum.inr y :: s) (decide (x.cps.toList < y.cps.toList))
inductive LexV (fin : Bool) : List (Value × Value) → Bool → Prop
  | nil : LexV fin [] fin
  | eq {p q : Value} {r : List (Value × Value)} {z : Bool} : (∀ A s, EqAt A s p q true) → LexV fin r z → LexV fin ((p, q) :: r) z
  | ne {p q : Value} {r : List (Value × Value)} {z : Bool} : (∀ A s, EqAt A s p q false) → (∀ A s, Ob.RcOp .Lt A s p q z) →
      (∀ (prog : Program) (w : World) (A : Around) (E : Value → Shared → Prop) (s : Shared) (f : Bool) (Q : Bool → Shared → Prop), Q z s → wpAny (model prog w) A (PyProof.Rows.oneLt' f p q) Q E s) → LexV fin ((p, q) :: r) z
theorem rcLt_strs (A : Around) (s : Shared) (x : Str) (t : Tok) (y : Str) (u : Tok) : Ob.RcOp .Lt A s (.str x t) (.str y u) (decide (x.cps.toList < y.cps.toList)) := fun _ _ _ _ h => PyProof.Rows.lt_str h
theorem lexV_of {ks ls : List L2.Key} {z : Bool} (h : LexR ks ls z) : ∀ {us ws : List Value}, L2.Vals (ks.map L2.kV) us → L2.Vals (ls.map L2.kV) ws → LexV (decide (us.length < ws.length)) (us.zip ws) z := by
  induction h with
  | nn =>
    intro us ws h1 h2
    cases h1
    cases h2
    exact .nil
  | nc =>
    intro us ws h1 h2
    cases h1
    cases h2 with
    | cons r1 t1 =>
      rename_i w ws
      have e : decide (([] : List Value).length < (w :: ws).length) = true := decide_eq_true (by simp)
      rw [e]
      exact .nil
  | cn =>
    intro us ws h1 h2
    cases h2
    cases h1 with
    | cons _ _ => exact .nil
  | @eq a r s z _ ih =>
    intro us ws h1 h2
    cases h1 with
    | cons r1 t1 =>
      cases h2 with
      | cons r2 t2 =>
        have h3 := ih t1 t2
        rw [List.zip_cons_cons, List.length_cons, List.length_cons]
        have e : ∀ a b : Nat, decide (a + 1 < b + 1) = decide (a < b) := fun a b => by simp
        rw [e]
        refine .eq ?_ h3
        cases a with
        | inl i =>
          obtain ⟨t, rfl⟩ := r1
          obtain ⟨u, rfl⟩ := r2
          intro A s
          have := EqAt.int_int (A := A) (s := s) i t i u
          rw [beq_self_eq_true] at this
          exact this
        | inr x =>
          obtain ⟨t, rfl⟩ := r1
          obtain ⟨u, rfl⟩ := r2
          intro A s
          have := EqAt.str_str (A := A) (s := s) x t x u
          rw [beq_self_eq_true] at this
          exact this
  | @ii i j r s hne =>
    intro us ws h1 h2
    cases h1 with
    | cons r1 t1 =>
      cases h2 with
      | cons r2 t2 =>
        obtain ⟨t, rfl⟩ := r1
        obtain ⟨u, rfl⟩ := r2
        refine .ne (fun A s => ?_) (fun A s => Ob.RcOp.lt_int i j t u) (fun prog w A E s f Q hQ => oneLt_any_int hQ)
        have := EqAt.int_int (A := A) (s := s) i t j u
        rw [show (i == j) = false from by simpa using hne] at this
        exact this
  | @ss x y r s hne =>
    intro us ws h1 h2
    cases h1 with
    | cons r1 t1 =>
      cases h2 with
      | cons r2 t2 =>
        obtain ⟨t, rfl⟩ := r1
        obtain ⟨u, rfl⟩ := r2
        refine .ne (fun A s => ?_) (fun A s => rcLt_strs A s x t y u) (fun prog w A E s f Q hQ => oneLt_any_str hQ)
        have := EqAt.str_str (A := A) (s := s) x t y u
        rw [show (x == y) = false from by simpa using hne] at this
        exact this
section
open PySem.AutoSeq1 (wpAny_loadPart')
open PySem.MeetsSeq PySem.MeetsSeq2 PySem.MeetsSeq3
theorem tuple_ltL (l b : Addr) (xs ys : Array Value) (n n2 : Nat) (dd dd2 : Option Addr) (sl sl2 : Array (Option Value)) (z : Bool) (hz : LexV (decide (xs.size < ys.size)) (xs.toList.zip ys.toList) z) :
    Meets (Builtin.«tuple.__lt__» ⟨[.ref l, .ref b], []⟩)
      (fun _ R s => s.heap.get? l = some ⟨.type "tuple", dd, .seq xs n, sl⟩ ∧ s.heap.get? b = some ⟨.type "tuple", dd2, .seq ys n2, sl2⟩ ∧ R (.ok (.ret (.bool z))) s) :=
  .of_wp fun prog w A R s h => by
    obtain ⟨hp, g, d, tk, os⟩ := s
    obtain ⟨hl, hb, h⟩ := h
    have f2 := AutoSeq1.sub_tuple_tuple
    wp_walk using wpAny_loadPart' hl, wpAny_loadPart' hb, wpAny_forIn_list _ (fun rest b s' => b.1 = none ∧ s' = ⟨hp, g, d, tk, os⟩ ∧ LexV (decide (xs.size < ys.size)) rest z) _
    case turn =>
      rintro ⟨y, x⟩ rest b s' ⟨hb', rfl, hv⟩
      cases hv with
      | eq h1 h2 =>
        refine wpAny_bind (h1 A.in1 _ prog w _ _ ?_)
        wp_walk
        exact ⟨rfl, rfl, h2⟩
      | ne h1 h2 h3 =>
        refine wpAny_bind (h1 A.in1 _ prog w _ _ ?_)
        have hri := h2 A.in1 ⟨hp, g, d, tk, os⟩ prog w
        wp_walk using hri
        exact ⟨_, rfl, by simpa using h⟩
    case fin =>
      rintro ⟨b1, b2⟩ s' ⟨hb', rfl, hv⟩
      simp only at hb'
      subst hb'
      cases hv
      wp_walk
      exact ⟨_, rfl, by simpa [Builtin.Tuple.tupleCompareSizes] using h⟩
    case h => exact ⟨rfl, rfl, hz⟩
end
end HG
namespace HG
open PySem PySem.Spec PyProof.Rows L2
section
variable {X : Cx}
/-- t < u, tuples of ints and texts -/
def rLtK (K : PySem.W.Frag) : R2 := fun x y H Q => ∃ (a b : Addr) (ks ls : List Key) (z : Bool), x = .ref a ∧ y = .ref b ∧ SqT K H a (ks.map kV) ∧ SqT K H b (ls.map kV) ∧ LexR ks ls z ∧ Q (.bl z) H
theorem op_ltK (hu : X.A.units < cLine) : OpR X (compareOp .Lt) (rLtK X.K) := by
  intro pins s σ H x y v u Q I rx ry h
  obtain ⟨a, b, ks, ls, z, rfl, rfl, ha, hb, hz, q⟩ := h
  cases rx
  cases ry
  obtain ⟨us, r1, p1, _⟩ := I.tuple ha
  obtain ⟨ws, r2, p2, _⟩ := I.tuple hb
  obtain ⟨⟨c1, d1, e1, s1⟩, ho1, hc1, n1, hd1⟩ := p1
  obtain ⟨⟨c2, d2, e2, s2⟩, ho2, hc2, n2, hd2⟩ := p2
  dsimp only at hc1 hd1 hc2 hd2
  subst hc1 hd1 hc2 hd2
  have hv := lexV_of hz r1 r2
  have hv' : LexV (decide (us.toArray.size < ws.toArray.size)) (us.toArray.toList.zip ws.toArray.toList) z := by simpa using hv
  exact richCompare_meets_room (op := .Lt) ⟨_, ho1, rfl⟩ ⟨_, ho2, rfl⟩ PySem.F.slot_tuple_lt PySem.F.entry_tuple_lt (PySem.F.args_tuple_lt_2 _ _) (tuple_ltL a b _ _ n1 n2 d1 d2 s1 s2 z hv')
    ⟨ho1, ho2, show Value.bool z ≠ Value.notImplemented ∧ EP X pins σ Q (.bool z) s from ⟨(fun y => nomatch y), ⟨.bl z, H, I, rfl, q⟩⟩⟩ hu
theorem katlex_of {prog : Program} {w : World} {A : Around} {s : Shared} {b fin z : Bool} {Q : Bool → Shared → Prop} {l : List (Value × Value)} (h : LexV fin l z) (hq : Q z s) : ∀ i, PySem.W.KatLex prog w A b fin Q l i s := by
  induction h with
  | nil => intro i; exact PySem.W.kat_nil hq
  | eq h1 _ ih => intro i; exact PySem.W.kat_cons (h1 A s prog w _ _ (PySem.W.kat_yes (ih hq (i + 1))))
  | ne h1 h2 h3 => intro i; exact PySem.W.kat_cons (h1 A s prog w _ _ (PySem.W.kat_no (h3 prog w A _ s _ Q hq)))
theorem kV_inj : ∀ {a b : Key}, kV a = kV b → a = b
  | .inl _, .inl _, h => by cases h; rfl
  | .inr _, .inr _, h => by cases h; rfl
  | .inl _, .inr _, h => by cases h
  | .inr _, .inl _, h => by cases h
theorem kVs_inj : ∀ {a b : List Key}, a.map kV = b.map kV → a = b
  | [], [], _ => rfl
  | x :: a, y :: b, h => by
    rw [List.map_cons, List.map_cons] at h
    injection h with h1 h2
    rw [kV_inj h1, kVs_inj h2]
  | [], _ :: _, h => by simp at h
  | _ :: _, [], h => by simp at h
/-- sorted(d), d a dict with tuples of ints and texts as keys, each with a text ahead -/
def rSortDT : List V → Hp → VK → Prop := fun vs H Q => ∃ (a : Addr) (kvs : List (List Key × V)) (ρ : List Key → Int), vs = [.ref a] ∧ H a = some (.dT kvs) ∧ kvs.length < 64 ∧ (∀ k ∈ kvs.map (·.1), ∃ x r, k = Sum.inr x :: r) ∧
  (∀ k ∈ kvs.map (·.1), ∀ k' ∈ kvs.map (·.1), LexR k k' (decide (ρ k < ρ k'))) ∧
  ∀ (l : Addr) (ps : List (Addr × List Key)), H l = none → (ps.map (·.2)).Perm (kvs.map (·.1)) → (ps.map (·.2)).Pairwise (fun e f => ρ e ≤ ρ f) → (∀ z ∈ ps, H z.1 = some (.tup (z.2.map kV))) → Q (.ref l) (upd H l (.lst (ps.map fun z => V.ref z.1)))
theorem cr_sortedDT (hc : X.calm = true) (hu : X.A.units + 64 < cLine) : CallR X (.builtin "sorted") rSortDT := by
  intro pins s σ H xs us Q I r h
  obtain ⟨a, kvs, ρ, rfl, ha, h64, hhd, hlx, q⟩ := h
  obtain rfl := Vals.ref1 r
  obtain ⟨_, lo, xs', rel, o, es, ep, ho, hx, hdat, hes, his, hnd⟩ := dt_of I.hok ha
  have l1 : kvs.length = xs'.length := Paired.length rel
  have l2 : es.size = xs'.length := size_of_entries hes
  have keys : kvs.map (·.1) = xs'.map (·.1) := by
    have key : ∀ {A : List (List Key × V)} {B : List (List Key × Addr × Value)}, KT H A B → A.map (·.1) = B.map (·.1) := by
      intro A B rel
      induction rel with
      | nil => rfl
      | cons h _ ih => rw [List.map_cons, List.map_cons, ih, h.1]
    exact key rel
  have trk : ∀ x ∈ xs', H x.2.1 = some (.tup (x.1.map kV)) := by
    intro x hx'
    obtain ⟨j, hj⟩ := List.getElem?_of_mem hx'
    obtain ⟨e0, _, r1, r2, _⟩ := DX.pget rel hj
    rw [← r1]
    exact r2
  -- the rank of a value
  let rk : Value → Int := fun v => match xs'.find? (fun x => Value.ref x.2.1 == v) with
    | some x => ρ x.1
    | none => 0
  have rk_is : ∀ x ∈ xs', rk (.ref x.2.1) = ρ x.1 := by
    intro x hx'
    show (match xs'.find? (fun y => Value.ref y.2.1 == Value.ref x.2.1) with | some y => ρ y.1 | none => 0) = ρ x.1
    cases hf : xs'.find? (fun y => Value.ref y.2.1 == Value.ref x.2.1) with
    | none =>
      have := List.find?_eq_none.mp hf x hx'
      simp at this
    | some y =>
      have h1 := List.mem_of_find?_eq_some hf
      have h2 := List.find?_some hf
      have h3 : y.2.1 = x.2.1 := by simpa using h2
      have h4 := trk y h1
      rw [h3, trk x hx'] at h4
      have h5 : x.1.map kV = y.1.map kV := by injection (Option.some.inj h4)
      rw [kVs_inj h5]
  refine Calls.call_function_entry PyProof.Rows.kind_sorted PyProof.Rows.plain_sorted PyProof.Rows.entry_sorted (PyProof.Rows.args_sorted1 _) ?_
  unfold Builtin.«sorted»
  refine wpAny_bind (m := checkCount "sorted" 1 1 _) (wpAny_pure ?_)
  refine wpAny_bind (PySem.W.kdu_collect (A := X.A.in1) (PySem.KdlSrc.rawDict (es := es) (ep := ep) lo) (I.ok.hd hc) ⟨o, ho, hx, hdat⟩ (by rw [l2, ← l1, sizeLine_eq]; omega) fun h' tk acc hk hacc => ?_)
  have hal : acc.toList.length = xs'.length := by rw [Array.length_toList, hacc.1, l2]
  have hav : acc.toList = xs'.map fun x => Value.ref x.2.1 := by
    refine List.ext_getElem? fun j => ?_
    rw [List.getElem?_map]
    cases hxj : xs'[j]? with
    | none =>
      show acc.toList[j]? = none
      rw [List.getElem?_eq_none_iff] at hxj ⊢
      omega
    | some x =>
      have hj : j < acc.toList.length := by rw [hal]; exact (List.getElem?_eq_some_iff.mp hxj).1
      obtain ⟨v, hv⟩ : ∃ v, acc.toList[j]? = some v := ⟨_, List.getElem?_eq_getElem hj⟩
      rw [hv]
      obtain ⟨hi, rfl⟩ := hacc.2 j v (by rw [← Array.getElem?_toList]; exact hv)
      have e1 := entry_at hes j
      rw [hxj, Array.getElem?_eq_getElem hi] at e1
      have e2 : es[j] = entryOfKey (tupleKind (mixKind X.prog X.w)) x := Option.some.inj e1
      rw [e2]
      rfl
  refine wpAny_bind (wpAny_newList ?_ (by rw [hal, ← l1, sizeLine_eq]; omega))
  have hob : (h'.push (seqObj "list" acc.toList.toArray 0)).get? h'.objs.size = some (seqObj "list" acc.toList.toArray 0) := Heap.get?_push_size _ rfl
  show wpAny _ _ _ _ _ { s with heap := h'.push (seqObj "list" acc.toList.toArray 0), toks := tk }
  have kb : ∀ b u, s.heap.get? b = some u → b ≠ h'.objs.size ∧ (h'.push (seqObj "list" acc.toList.toArray 0)).get? b = some u := fun b u e => ⟨Nat.ne_of_lt (Heap.lt_size (hk b u e)), Heap.get?_push_of_some _ (hk b u e)⟩
  have ka : ∀ b u, h'.get? b = some u → b ≠ h'.objs.size ∧ (h'.push (seqObj "list" acc.toList.toArray 0)).get? b = some u := fun b u e => ⟨Nat.ne_of_lt (Heap.lt_size e), Heap.get?_push_of_some _ e⟩
  have I1 : Inv X pins σ H { s with heap := h', toks := tk } := I.kept hk
  generalize hh2 : h'.push (seqObj "list" acc.toList.toArray 0) = h2 at hob kb ka ⊢
  -- the tuples in the heap of the sort
  have tup : ∀ x ∈ xs', ∃ (ot : Obj) (its : List Value) (nt : Nat), Vals (x.1.map kV) its ∧ (TS.midHeap h2 h'.objs.size acc.toList).get? x.2.1 = some ot ∧ ot.cls = .type "tuple" ∧ ot.data = .seq its.toArray nt := by
    intro x hx'
    obtain ⟨_, its, rv, ot, hot, hct, nt, hdt⟩ := (show ObjOk X.prog X.w H s.heap x.2.1 (.tup (x.1.map kV)) from I.hok _ _ (trk x hx'))
    obtain ⟨k1, k2⟩ := kb _ _ hot
    exact ⟨ot, its, nt, rv, TS.midHeap_old k1 k2, hct, hdt⟩
  have mem : ∀ v ∈ acc.toList, ∃ x ∈ xs', v = .ref x.2.1 := by
    intro v hv
    rw [hav] at hv
    obtain ⟨x, hx', e⟩ := List.mem_map.mp hv
    exact ⟨x, hx', e.symm⟩
  have inK : ∀ x ∈ xs', x.1 ∈ kvs.map (·.1) := fun x hx' => by rw [keys]; exact List.mem_map_of_mem hx'
  have firsts : ∀ vs : List Value, (∀ v ∈ vs, ∃ x ∈ xs', v = .ref x.2.1) → ∃ fs : List Value, PySem.W.KatTups (TS.midHeap h2 h'.objs.size acc.toList) vs fs ∧ fs.length = vs.length ∧ ∀ f ∈ fs, ∃ x t, f = Value.str x t := by
    intro vs
    induction vs with
    | nil => intro _; exact ⟨[], .nil, rfl, fun _ h => nomatch h⟩
    | cons v vs ih =>
      intro hm
      obtain ⟨fs, k1, k2, k3⟩ := ih fun u hu' => hm u (List.mem_cons_of_mem _ hu')
      obtain ⟨x, hx', rfl⟩ := hm v List.mem_cons_self
      obtain ⟨ot, its, nt, rv, ho', hc', hd'⟩ := tup x hx'
      obtain ⟨y, rr, ey⟩ := hhd x.1 (inK x hx')
      rw [ey] at rv
      cases rv with
      | cons r1 r2 =>
        obtain ⟨t, rfl⟩ := r1
        refine ⟨.str y t :: fs, .cons ho' hc' hd' rfl k1, by rw [List.length_cons, List.length_cons, k2], fun f hf => ?_⟩
        rcases List.mem_cons.mp hf with rfl | hf
        · exact ⟨y, t, rfl⟩
        · exact k3 f hf
  refine wpAny_bind (wpAny_holding (wpAny_call_entry PyProof.Rows.slot_list_sort ⟨_, hob, rfl⟩ PyProof.Rows.entry_list_sort
    (SK.plain_sort (s := { s with heap := h2, toks := tk }) (r := rk) hob (by rw [hal, ← l1]; exact h64) (fun h2' Qk hQk => ?_) fun ps out o1 o2 o3 => ⟨.none, rfl, ?_⟩) (PyProof.Rows.args_list_sort _)))
  · obtain ⟨fs, k1, k2, k3⟩ := firsts acc.toList mem
    refine PySem.W.kat_kind (T := Value.type "str") k1 (by omega) (fun f hf => ?_) rfl (hQk _ ?_)
    · obtain ⟨x, t, rfl⟩ := k3 f hf
      exact .now
    · intro p q' hp hq Q' E' hQ
      rw [pairsOf_toList] at hp hq
      have mp := (mem_zip_self hp).2
      have mq := (mem_zip_self hq).2
      obtain ⟨x, hx1, e1⟩ := mem _ mp
      obtain ⟨y, hy1, e2⟩ := mem _ mq
      obtain ⟨ot, its, nt, rv, ho1, _, hd1⟩ := tup x hx1
      obtain ⟨ot2, its2, nt2, rv2, ho2, _, hd2⟩ := tup y hy1
      rw [e1, e2, rk_is x hx1, rk_is y hy1] at hQ
      rw [e1, e2]
      refine PySem.W.kat_lt ho1 hd1 ho2 hd2 (katlex_of ?_ hQ 0)
      have hv := lexV_of (hlx x.1 (inK x hx1) y.1 (inK y hy1)) rv rv2
      simpa using hv
  · have hzip : (xs'.map fun x => (x.2.1, x.1)).map (fun z : Addr × List Key => (Value.ref z.1, Value.ref z.1)) = acc.toList.zip acc.toList := by
      have zs0 : ∀ l : List Value, l.zip l = l.map fun v => (v, v) := fun l => by
        induction l with
        | nil => rfl
        | cons v l ih => rw [List.zip_cons_cons, ih]; rfl
      rw [zs0, hav, List.map_map, List.map_map]
      rfl
    obtain ⟨zs, pz, ez⟩ := perm_lift (fun z : Addr × List Key => (Value.ref z.1, Value.ref z.1)) o2 _ hzip
    have hout : out.toList = zs.map fun z => Value.ref z.1 := by
      rw [o1, ← ez, List.map_map]
      rfl
    have hin : ∀ z ∈ zs, ∃ x ∈ xs', z = (x.2.1, x.1) := fun z hz => by
      obtain ⟨x, hx', e⟩ := List.mem_map.mp (pz.mem_iff.mp hz)
      exact ⟨x, hx', e.symm⟩
    have hperm : (zs.map (·.2)).Perm (kvs.map (·.1)) := by
      have e := pz.map (·.2)
      rw [List.map_map] at e
      rw [keys]
      exact e
    have hsort : (zs.map (·.2)).Pairwise (fun e f => ρ e ≤ ρ f) := by
      rw [← ez, List.pairwise_map] at o3
      rw [List.pairwise_map]
      refine List.Pairwise.imp_of_mem (fun {u v} hu' hv' h => ?_) o3
      obtain ⟨x, hx', rfl⟩ := hin u hu'
      obtain ⟨y, hy', rfl⟩ := hin v hv'
      have h3 : rk (.ref x.2.1) ≤ rk (.ref y.2.1) := h
      rw [rk_is x hx', rk_is y hy'] at h3
      exact h3
    obtain ⟨eF, heF⟩ := PyProof.Rows.sortedHeap_at (vs := acc.toList) (out := out) hob
    have hlen : (zs.map fun z => V.ref z.1).length ≤ sizeLine := by
      have e := hperm.length_eq
      rw [List.length_map, List.length_map] at e
      rw [List.length_map, sizeLine_eq]
      omega
    have rv : Vals (zs.map fun z => V.ref z.1) out.toList := by
      rw [hout]
      clear hout hin hperm hsort pz ez hlen
      induction zs with
      | nil => exact .nil
      | cons z zs ih => exact .cons rfl ih
    refine wpAny_pure ⟨_, rfl, .ref h'.objs.size, upd H h'.objs.size (.lst (zs.map fun z => V.ref z.1)), I1.laid (t' := tk) (fun b u e => ?_) (Nat.le_refl _) ⟨hlen, out.toList, eF, rv, heF⟩, rfl, q _ zs (I1.hok.fresh (Nat.le_refl _)) hperm hsort fun z hz => ?_⟩
    · obtain ⟨k1, k2⟩ := ka b u e
      exact (PyProof.Rows.sortedHeap_old k1 (Heap.lt_size k2)).trans k2
    · obtain ⟨x, hx', rfl⟩ := hin z hz
      exact trk x hx'
end
end HG

set_option maxHeartbeats 4000000
/-! HK: rules that name the written part K, for use in comprehensions. -/
namespace HG
open PySem PySem.Spec PyProof.Rows L2
section
variable {X : Cx} {K : PySem.W.Frag}
theorem isiK (h : X.K = K) : CallR X (.builtin "isinstance") (rIsi K) := h ▸ call_isi
theorem isiTK (h : X.K = K) : CallR X (.builtin "isinstance") (rIsiT K) := h ▸ call_isiT
def rLenK (K : PySem.W.Frag) : List V → Hp → VK → Prop := fun xs H Q => ∃ x n, xs = [x] ∧ LenV K x H n ∧ Q (.int (n : Nat)) H
theorem lenK (h : X.K = K) : CallR X (.builtin "len") (rLenK K) := h ▸ call_len
theorem ix_listK (h : X.K = K) : IxR X (rIxL K) := h ▸ ix_list
theorem ix_tupK (h : X.K = K) : IxR X (rIxT K) := h ▸ ix_tup
theorem ix_seqK (h : X.K = K) : IxR X (rIx K) := h ▸ ix_seq
theorem sl_tupK (h : X.K = K) : SlR X (rSlT K) := h ▸ sl_tup
theorem sl_listK (h : X.K = K) : SlR X (rSlL K) := h ▸ sl_list
theorem op_catTK (h : X.K = K) : OpR X (binaryOp .Add) (rCatT K) := h ▸ op_catT
theorem op_in_seqK (h : X.K = K) : OpR X (compareOp .In) (rIn K false) := h ▸ op_in_seq
theorem op_ltKK (h : X.K = K) (hu : X.A.units < cLine) : OpR X (compareOp .Lt) (rLtK K) := h ▸ op_ltK hu
theorem op_eqDK (h : X.K = K) (hu : X.A.units + 64 < cLine) : OpR X (compareOp .Eq) (rEqD K) := h ▸ op_eqD hu
theorem op_neDK (h : X.K = K) (hu : X.A.units + 64 < cLine) : OpR X (compareOp .NotEq) (rNeD K) := h ▸ op_neD hu
/-- x < y: ints, texts, tuples of both -/
theorem op_lt3 (h : X.K = K) (hu : X.A.units + 64 < cLine) : OpR X (compareOp .Lt) (fun x y H Q => (rI0 (fun i j => .bl (decide (i < j)))) x y H Q ∨ (∃ i j, x = .str i ∧ y = .str j ∧ Q (.bl (decide (i.cps.toList < j.cps.toList))) H) ∨ rLtK K x y H Q) :=
  op_lt.or (op_lt_str.or (op_ltKK h (Nat.lt_of_le_of_lt (Nat.le_add_right _ 64) hu)))
end
end HG

set_option maxHeartbeats 4000000
/-! HJ: tuples as data: t + u, t[a:b], t[::-1], t[i]. -/
namespace HG
open PySem PySem.Spec PyProof.Rows L2
section
variable {prog : Program} {w : World} {A : Around} {E : Value → Shared → Prop} {s : Shared}
theorem places_rev (n : Nat) : Builtin.Slice.slicePlaces ((n : Int) - 1) (-1) (-1) = n := by
  unfold Builtin.Slice.slicePlaces
  have h1 : ¬ ((-1 : Int) > 0) := by omega
  simp only [h1, if_false]
  split
  · rename_i h
    rw [show (- (-1 : Int)) = 1 from rfl, Int.ediv_one]
    omega
  · omega
theorem adjust_rev (n : Nat) : Builtin.Slice.sliceAdjust none none (-1) (n : Int) = ((n : Int) - 1, -1) := by
  unfold Builtin.Slice.sliceAdjust
  have h1 : ((-1 : Int) < 0) := by omega
  simp only [h1, if_true]
theorem sliceApplied_rev {sl : Addr} {vl vu vs : Value} {n : Nat} {Q : Int × Int × Nat → Shared → Prop} (hs : s.heap.IsSliceOf sl vl vu vs) (pl : IsPart vl none) (pu : IsPart vu none) (ps : IsPart vs (some (-1)))
    (h : Q ((n : Int) - 1, -1, n) s) : wpAny (model prog w) A (Builtin.Slice.sliceApplied (.ref sl) (pure (n : Int))) Q E s := by
  obtain ⟨os, hos, hcs, hds⟩ := id hs
  unfold Builtin.Slice.sliceApplied Builtin.Slice.sliceFields
  refine wpAny_bind (wpAny_bind (wpAny_field hos hds (x := vl) rfl (wpAny_bind (wpAny_field hos hds (x := vu) rfl (wpAny_bind (wpAny_field hos hds (x := vs) rfl (wpAny_pure ?_)))))))
  refine wpAny_bind (HT.slicePart_ ps ?_)
  show wpAny _ _ (if ((-1 : Int) == 0) = true then _ else _) _ _ s
  rw [if_neg (by decide)]
  refine wpAny_bind (HT.slicePart_ pl (wpAny_bind (HT.slicePart_ pu (wpAny_bind (wpAny_pure ?_)))))
  show wpAny _ _ (match Builtin.Slice.sliceAdjust none none (-1) (n : Int) with | (lo, hi) => pure (lo, (-1 : Int), Builtin.Slice.slicePlaces lo hi (-1))) _ _ s
  rw [adjust_rev n]
  show wpAny _ _ (pure ((n : Int) - 1, (-1 : Int), Builtin.Slice.slicePlaces ((n : Int) - 1) (-1) (-1))) _ _ s
  rw [places_rev]
  exact wpAny_pure h
theorem pick_rev (xs : Array Value) : ((List.range xs.size).filterMap fun (m : Nat) => xs[(((xs.size : Int) - 1) + (m : Int) * (-1)).toNat]?).toArray = xs.toList.reverse.toArray := by
  congr 1
  apply List.ext_getElem?
  intro i
  have e : (List.range xs.size).filterMap (fun (m : Nat) => xs[(((xs.size : Int) - 1) + (m : Int) * (-1)).toNat]?) = (List.range xs.size).map (fun m => xs.getD (xs.size - 1 - m) .none) := by
    have : ∀ l : List Nat, (∀ m ∈ l, m < xs.size) → l.filterMap (fun (m : Nat) => xs[(((xs.size : Int) - 1) + (m : Int) * (-1)).toNat]?) = l.map (fun m => xs.getD (xs.size - 1 - m) .none) := by
      intro l
      induction l with
      | nil => intro _; rfl
      | cons m l ih =>
        intro hm
        have h1 := hm m List.mem_cons_self
        have e1 : (((xs.size : Int) - 1) + (m : Int) * (-1)).toNat = xs.size - 1 - m := by omega
        have h2 : xs.size - 1 - m < xs.size := by omega
        rw [List.filterMap_cons, e1, Array.getElem?_eq_getElem h2, List.map_cons, ih fun k hk => hm k (List.mem_cons_of_mem _ hk)]
        simp [Array.getD, h2]
    exact this _ fun m hm => List.mem_range.mp hm
  rw [e, List.getElem?_map]
  by_cases hi : i < xs.size
  · rw [List.getElem?_range hi]
    rw [List.getElem?_reverse (by simpa using hi)]
    have h2 : xs.size - 1 - i < xs.size := by omega
    simp [Array.getD, h2]
  · rw [List.getElem?_eq_none (by simp; omega), List.getElem?_eq_none (by simp; omega)]
    rfl
theorem getItem_tuple_rev {t sl : Addr} {items : Array Value} {vl vu vs : Value} {Q : Value → Shared → Prop} (ht : IsTup s.heap t items) (hs : s.heap.IsSliceOf sl vl vu vs) (pl : IsPart vl none) (pu : IsPart vu none) (ps : IsPart vs (some (-1)))
    (h : Q (.ref s.heap.objs.size) { s with heap := s.heap.push { cls := .type "tuple", data := .seq items.toList.reverse.toArray } })
    (hsz : items.size ≤ sizeLine) : wpAny (model prog w) A (getItem (.ref t) (.ref sl)) Q E s := by
  have htake : sizeOk (.seq items.toList.reverse.toArray) := by
    show items.toList.reverse.toArray.size ≤ sizeLine
    simpa using hsz
  obtain ⟨os, hos, hcs, hds⟩ := id hs
  have hTs : s.TypeIs (.ref sl) "slice" := ⟨os, hos, hcs⟩
  unfold getItem
  try with_reducible refine wpAny_holding ?_
  first | refine wpAny_bind (wpAny_pure ?_) | skip
  refine wpAny_bind (wpAny_sequenceKey ht.typeIs (by decide) ?_)
  refine wpAny_bind (wpAny_callSpecial?_slot (name := Str.ofString "__getitem__") ht.typeIs PyProof.Rows.slot_tuple_getitem
    (wpAny_call_entry PyProof.Rows.slot_tuple_getitem ht.typeIs PyProof.Rows.entry_tuple_getitem ?_ (PyProof.Rows.args_tuple_getitem _ _)))
  show wpAny _ _ (Builtin.Tuple.tupleItemsOf (.ref t) >>= _) _ _ s
  refine wpAny_bind (PyProof.Rows.tupleItemsOf_ ht ?_)
  refine wpAny_bind (wpAny_typeOf hTs ?_)
  rw [if_pos (by decide)]
  refine wpAny_bind (sliceApplied_rev hs pl pu ps ?_)
  have hno : ¬ ((((items.size : Int) - 1) == 0 && (-1 : Int) == 1 && items.size == items.size) = true) := by
    intro q
    rw [Bool.and_eq_true, Bool.and_eq_true] at q
    exact absurd q.1.2 (by decide)
  show wpAny _ _ (if (((items.size : Int) - 1) == 0 && (-1 : Int) == 1 && items.size == items.size) = true then _ else _) _ _ s
  rw [if_neg hno, pick_rev]
  first
    | exact wpAny_bind (m := Builtin.Tuple.tupleExact _) (wpAny_newObj_type (wpAny_pure ⟨_, rfl, wpAny_pure h⟩) htake)
    | exact wpAny_bind (m := Builtin.Tuple.tupleExact _) (wpAny_newObj_type (wpAny_bind (wpAny_pure (wpAny_pure ⟨_, rfl, wpAny_pure h⟩))) htake)
    | exact wpAny_bind (wpAny_bind (m := Builtin.Tuple.tupleExact _) (wpAny_newObj_type (wpAny_pure (wpAny_pure ⟨_, rfl, wpAny_pure h⟩)) htake))
    | exact wpAny_bind (wpAny_bind (m := Builtin.Tuple.tupleExact _) (wpAny_newObj_type (wpAny_pure ⟨_, rfl, wpAny_pure h⟩) htake))
end
section
variable {X : Cx} {K : PySem.W.Frag}
/-! ### data -/
theorem dpAll_drop {H : Hp} : ∀ {vs : List V} {ds : List PyData} (n : Nat), DpAll K H vs ds → DpAll K H (vs.drop n) (ds.drop n)
  | _, _, 0, h => h
  | _, _, n + 1, .nil => by rw [List.drop_nil, List.drop_nil]; exact .nil
  | _, _, n + 1, .cons _ h => dpAll_drop n h
theorem dpAll_take {H : Hp} : ∀ {vs : List V} {ds : List PyData} (n : Nat), DpAll K H vs ds → DpAll K H (vs.take n) (ds.take n)
  | _, _, 0, h => .nil
  | _, _, n + 1, .nil => by rw [List.take_nil, List.take_nil]; exact .nil
  | _, _, n + 1, .cons a h => .cons a (dpAll_take n h)
theorem dpAll_rev {H : Hp} : ∀ {vs : List V} {ds : List PyData}, DpAll K H vs ds → DpAll K H vs.reverse ds.reverse
  | _, _, .nil => .nil
  | _, _, .cons a h => by
    rw [List.reverse_cons, List.reverse_cons]
    exact dpAll_app (dpAll_rev h) (.cons a .nil)
def cutP (ds : List PyData) (lo hi : Option Int) : List PyData := (ds.drop (HT.sIx ds.length 0 lo)).take (HT.sIx ds.length ds.length hi - HT.sIx ds.length 0 lo)
theorem dpAll_cut {H : Hp} {vs : List V} {ds : List PyData} (lo hi : Option Int) (h : DpAll K H vs ds) : DpAll K H (cutV vs lo hi) (cutP ds lo hi) := by
  have e := dpAll_len h
  unfold cutV cutP
  rw [e]
  exact dpAll_take _ (dpAll_drop _ h)
theorem dp_tupN {H : Hp} {p : Addr} {vs : List V} {ds : List PyData} (hp : H p = none) (h : DpAll K H vs ds) : Dp K (upd H p (.tup vs)) (.ref p) (.tuple ds) :=
  .tup (.inl (.inl upd_same)) (dpAll_mono (fun b o e => upd_get hp e) _ _ h)
theorem dp_lstN {H : Hp} {p : Addr} {vs : List V} {ds : List PyData} (hp : H p = none) (h : DpAll K H vs ds) : Dp K (upd H p (.lst vs)) (.ref p) (.list ds) :=
  .lst (.inl (.inl upd_same)) (dpAll_mono (fun b o e => upd_get hp e) _ _ h)
theorem same_new {H : Hp} {p : Addr} {o : HO} (hp : H p = none) : Same H (upd H p o) := fun b u e => upd_get hp e
theorem pg_tupK {es : List Expr} {k : Nat} {t : TGs} {n : Nat} {pos : Pos} (hK : X.K = K) (hc : X.calm = true) (h : PGs X es t)
    (hn : (assignEach es X.env).length = n := by rfl) (hst : (assignEach es X.env).findIdx? (·.1) = none := by rfl) : PG X (.Tuple es k pos) (gTup K n t) := hK ▸ pg_tup hc h hn hst
/-- t + u -/
def rCatP (K : PySem.W.Frag) : R2 := fun x y H Q => ∃ ds es, Dp K H x (.tuple ds) ∧ Dp K H y (.tuple es) ∧ ds.length + es.length ≤ sizeLine ∧ ∀ z H', Same H H' → Dp K H' z (.tuple (ds ++ es)) → Q z H'
theorem op_catP (hK : X.K = K) : OpR X (binaryOp .Add) (rCatP K) := by
  subst hK
  intro pins s σ H x y v u Q I rx ry h
  obtain ⟨ds, es, hx, hy, hz, q⟩ := h
  cases hx with
  | @tup a xs _ sa ha =>
    cases hy with
    | @tup b ys _ sb hb =>
      have l1 := dpAll_len ha
      have l2 := dpAll_len hb
      refine op_catA pins s σ H _ _ v u Q I rx ry ⟨a, b, xs, ys, rfl, rfl, sa, sb, by omega, fun e => ?_, fun _ e => ?_, fun _ _ p hp => ?_⟩
      · subst e
        cases ha
        exact q _ _ (Same.refl _) (.tup sb hb)
      · subst e
        cases hb
        rw [List.append_nil] at q
        exact q _ _ (Same.refl _) (.tup sa ha)
      · exact q _ _ (same_new hp) (dp_tupN hp (dpAll_app ha hb))
/-- t[lo:hi] -/
def rSlP (K : PySem.W.Frag) : V → Option Int → Option Int → Hp → VK → Prop := fun x lo hi H Q => ∃ ds, Dp K H x (.tuple ds) ∧ ∀ z H', Same H H' → Dp K H' z (.tuple (cutP ds lo hi)) → Q z H'
theorem cutD_all (ds : List PyData) (lo hi : Option Int) (h : HT.sIx ds.length 0 lo = 0 ∧ HT.sIx ds.length ds.length hi = ds.length) : cutP ds lo hi = ds := by
  unfold cutP
  rw [h.1, h.2, List.drop_zero, Nat.sub_zero, List.take_length]
theorem sl_P (hK : X.K = K) : SlR X (rSlP K) := by
  subst hK
  intro pins s σ H x v vl vu lo hi sl Q I rx hs pl pu h
  obtain ⟨ds, hx, q⟩ := h
  cases hx with
  | @tup a xs _ sa ha =>
    have l1 := dpAll_len ha
    refine sl_tupA pins s σ H _ v vl vu lo hi sl Q I rx hs pl pu ⟨a, xs, rfl, sa, fun e => ?_, fun _ p hp => ?_⟩
    · rw [l1] at e
      rw [cutD_all ds lo hi e] at q
      exact q _ _ (Same.refl _) (.tup sa ha)
    · exact q _ _ (same_new hp) (dp_tupN hp (dpAll_cut lo hi ha))
/-- t[i] -/
def rIxP (K : PySem.W.Frag) : R2 := fun x y H Q => ∃ ds i d, Dp K H x (.tuple ds) ∧ y = .int (i : Nat) ∧ ds[i]? = some d ∧ ∀ z, Dp K H z d → Q z H
theorem dpAll_getD {H : Hp} : ∀ {vs : List V} {ds : List PyData}, DpAll K H vs ds → ∀ {i : Nat} {d : PyData}, ds[i]? = some d → ∃ v, vs[i]? = some v ∧ Dp K H v d
  | _, _, .nil, i, d, e => by simp at e
  | _, _, .cons a h, 0, d, e => by simp at e; subst e; exact ⟨_, rfl, a⟩
  | _, _, .cons a h, i + 1, d, e => by
    obtain ⟨v, h1, h2⟩ := dpAll_getD h (i := i) (d := d) (by simpa using e)
    exact ⟨v, by simpa using h1, h2⟩
theorem ix_P (hK : X.K = K) : IxR X (rIxP K) := by
  subst hK
  intro value slice pins s σ H x y v u Q I rx ry h hs
  obtain ⟨ds, i, d, hx, rfl, hd, q⟩ := h
  cases hx with
  | @tup a xs _ sa ha =>
    obtain ⟨z, hz, hzd⟩ := dpAll_getD ha hd
    exact ix_tup value slice pins s σ H _ _ v u Q I rx ry ⟨a, xs, i, z, rfl, rfl, sa, atI_nat hz, q z hzd⟩ hs
/-- t[::-1] -/
def tRevP (K : PySem.W.Frag) (te : TE) : TE := fun σ H Q => te σ H fun x H1 => ∃ ds, Dp K H1 x (.tuple ds) ∧ ∀ z H', Same H1 H' → Dp K H' z (.tuple ds.reverse) → Q z H'
theorem pe_revP {e : Expr} {te : TE} {k : Nat} {p1 p2 p3 pos : Pos} (he : PE X e te) : PE X (.Subscript e (.Slice none none (some (.UnaryOp .USub (.Constant (.int 1) k p1) p2)) p3) pos) (tRevP X.K te) := by
  refine ⟨fun pins s σ H Q I h => ?_⟩
  refine Subscript_ (thn (he.run pins s σ H _ I h) fun v s1 ⟨x, H1, I1, r1, q1⟩ => ?_)
  obtain ⟨ds, hx, q⟩ := q1
  cases hx with
  | @tup a xs _ sa ha =>
    cases r1
    have hst : PO X (some (.UnaryOp .USub (.Constant (.int 1) k p1) p2)) (tPart (tUn (rU fun i => .int (-i)) (tC (.int 1)))) := po_some (pe_un un_neg pe_int)
    refine wpAny_Slice (thn (po_none.run pins s1 σ H1 (fun o H2 => o = none ∧ H2 = H1) I1 ⟨rfl, rfl⟩) fun vl s2 ⟨l, H2, I2, pl, el, e2⟩ => ?_)
    subst el e2
    refine thn (po_none.run pins s2 σ H2 (fun o H3 => o = none ∧ H3 = H2) I2 ⟨rfl, rfl⟩) fun vu s3 ⟨u, H3, I3, pu, eu, e3⟩ => ?_
    subst eu e3
    refine thn (hst.run pins s3 σ H3 (fun o H4 => o = some (-1) ∧ H4 = H3) I3 ⟨1, rfl, -1, rfl, rfl, rfl⟩) fun vs s4 ⟨o, H4, I4, ps, eo, e4⟩ => ?_
    subst eo e4
    have I5 : Inv X pins σ H4 { s4 with heap := s4.heap.push { cls := .type "slice", data := .fields #[vl, vu, vs] } } := I4.kept (t' := s4.toks) fun b ob q => Heap.get?_push_of_some _ q
    obtain ⟨its, r, ht, hz⟩ := I5.tuple sa
    have hlen := r.length
    show wpAny (model X.prog X.w) X.A (subscriptTail e (.Slice none none (some (.UnaryOp .USub (.Constant (.int 1) k p1) p2)) p3) (.ref a) (.ref s4.heap.objs.size)) (EP X pins σ Q) X.xe { s4 with heap := s4.heap.push { cls := .type "slice", data := .fields #[vl, vu, vs] } }
    refine tail_any (ops := [.ref a, .ref s4.heap.objs.size]) ht.typeIs (PyProof.Rows.slot_tuple_getitem.lookup) ?_ (by with_unfolding_all rfl)
    refine getItem_tuple_rev ht (Heap.IsSliceOf.new _ vl vu vs) pl pu ps ?_ (by rw [List.size_toArray]; omega)
    refine ⟨.ref _, _, I5.laid (t' := s4.toks) (o := .tup xs.reverse) (fun b ob q => Heap.get?_push_of_some _ q) (Nat.le_refl _) ?_, rfl, q _ _ (same_new (I5.hok.fresh (Nat.le_refl _))) (dp_tupN (I5.hok.fresh (Nat.le_refl _)) (dpAll_rev ha))⟩
    exact ⟨by rw [List.length_reverse]; exact hz, _, r.reverse, IsTup.new _ _⟩
end
end HG

set_option maxHeartbeats 4000000
/-! HD: data without lists stays, whatever lists and dicts do. -/
namespace HG
open PySem PySem.Spec PyProof.Rows L2 LamX
mutual
def noL : PyData → Bool
  | .list _ => false
  | .dict _ => false
  | .tuple ds => noLAll ds
  | _ => true
def noLAll : List PyData → Bool
  | [] => true
  | d :: ds => noL d && noLAll ds
end
theorem noLAll_mem : ∀ {ds : List PyData}, noLAll ds = true ↔ ∀ d ∈ ds, noL d = true
  | [] => by simp [noLAll]
  | d :: ds => by
    simp only [noLAll, Bool.and_eq_true, List.mem_cons, forall_eq_or_imp, noLAll_mem (ds := ds)]
theorem noL_tup {ds : List PyData} : noL (.tuple ds) = true ↔ ∀ d ∈ ds, noL d = true := by
  simp only [noL]
  exact noLAll_mem
/-- what never changes stays -/
structure KT (H H' : Hp) : Prop where
  t : ∀ b xs, H b = some (.tup xs) → H' b = some (.tup xs)
  f : ∀ b o u, H b = some (.frz o u) → H' b = some (.frz o u)
section
variable {K : PySem.W.Frag} {H H1 H2 : Hp} {a : Addr}
theorem KT.refl (H : Hp) : KT H H := ⟨fun _ _ h => h, fun _ _ _ h => h⟩
theorem KT.trans (x : KT H H1) (y : KT H1 H2) : KT H H2 := ⟨fun b xs h => y.t b xs (x.t b xs h), fun b o u h => y.f b o u (x.f b o u h)⟩
theorem KT.of (s : Same H H1) : KT H H1 := ⟨fun b xs h => s _ _ h, fun b o u h => s _ _ h⟩
theorem KT.ext (s : ExtN H H1) : KT H H1 := ⟨fun b xs h => s _ _ h (fun _ z => by cases z), fun b o u h => s _ _ h (fun _ z => by cases z)⟩
theorem KT.lst {l : List V} {o : HO} (h : H a = some (.lst l)) : KT H (upd H a o) :=
  ⟨fun b xs e => by rw [upd_ne (fun z => by rw [z, h] at e; cases e)]; exact e, fun b o u e => by rw [upd_ne (fun z => by rw [z, h] at e; cases e)]; exact e⟩
theorem KT.dK {l : List (Key × V)} {o : HO} (h : H a = some (.dK l)) : KT H (upd H a o) :=
  ⟨fun b xs e => by rw [upd_ne (fun z => by rw [z, h] at e; cases e)]; exact e, fun b o u e => by rw [upd_ne (fun z => by rw [z, h] at e; cases e)]; exact e⟩
theorem KT.new {o : HO} (h : H a = none) : KT H (upd H a o) := KT.of fun b u e => upd_get h e
mutual
theorem dp_kt (k : KT H H1) : ∀ (D : PyData) (v : V), noL D = true → Dp K H v D → Dp K H1 v D
  | .none, _, _, h => by cases h; exact .non
  | .bool b, _, _, h => by cases h; exact .bl b
  | .int i, _, _, h => by cases h; exact .int i
  | .str x, _, _, h => by cases h; exact .str x
  | .list _, _, n, _ => by simp [noL] at n
  | .dict _, _, n, _ => by simp [noL] at n
  | .tuple ds, _, n, h => by
    cases h with
    | tup s a =>
      refine .tup ?_ (dpAll_kt k ds _ (by simpa only [noL] using n) a)
      rcases s with (s | ⟨o, s⟩) | s
      · exact .inl (.inl (k.t _ _ s))
      · exact .inl (.inr ⟨o, k.f _ _ _ s⟩)
      · exact .inr s
theorem dpAll_kt (k : KT H H1) : ∀ (ds : List PyData) (vs : List V), noLAll ds = true → DpAll K H vs ds → DpAll K H1 vs ds
  | [], _, _, h => by cases h; exact .nil
  | d :: ds, _, n, h => by
    simp only [noLAll, Bool.and_eq_true] at n
    cases h with
    | cons x y => exact .cons (dp_kt k d _ n.1 x) (dpAll_kt k ds _ n.2 y)
end
theorem sqT_kt {xs : List V} (k : KT H H1) (h : SqT K H a xs) : SqT K H1 a xs := by
  rcases h with (s | ⟨o, s⟩) | s
  · exact .inl (.inl (k.t _ _ s))
  · exact .inl (.inr ⟨o, k.f _ _ _ s⟩)
  · exact .inr s
/-- the frames of a function that reads and makes: all that was there stays, but for tables -/
theorem extN_same {H H1 H2 : Hp} (x : ExtN H H1) (y : Same H1 H2) : ExtN H H2 := x.trans (ExtN.of y)
end
theorem cutP_to (ds : List PyData) (i : Nat) : cutP ds none (some (i : Int)) = ds.take i := by
  unfold cutP
  have e1 : HT.sIx ds.length 0 none = 0 := rfl
  rw [e1, HT.sIx_nat, List.drop_zero, Nat.sub_zero]
  by_cases h : i ≤ ds.length
  · rw [Nat.min_eq_left h]
  · rw [Nat.min_eq_right (by omega), List.take_length, List.take_of_length_le (by omega)]
theorem cutP_from (ds : List PyData) (i : Nat) : cutP ds (some (i : Int)) none = ds.drop i := by
  unfold cutP
  have e1 : HT.sIx ds.length ds.length none = ds.length := rfl
  rw [e1, HT.sIx_nat]
  by_cases h : i ≤ ds.length
  · rw [Nat.min_eq_left h, List.take_of_length_le (by rw [List.length_drop]; omega)]
  · rw [Nat.min_eq_right (by omega), List.drop_length, List.drop_of_length_le (by omega), List.take_nil]
section
variable {X : Cx} {K : PySem.W.Frag}
/-- t[-1] -/
def rLastP (K : PySem.W.Frag) : R2 := fun x y H Q => ∃ ds d, Dp K H x (.tuple ds) ∧ y = .int (-1) ∧ ds.getLast? = some d ∧ ∀ z, Dp K H z d → Q z H
theorem ix_lastP (hK : X.K = K) : IxR X (rLastP K) := by
  subst hK
  intro value slice pins s σ H x y v u Q I rx ry h hs
  obtain ⟨ds, d, hx, rfl, hd, q⟩ := h
  cases hx with
  | @tup a xs _ sa ha =>
    have hl := dpAll_len ha
    have hne : 0 < ds.length := by
      cases ds with
      | nil => cases hd
      | cons => simp
    rw [List.getLast?_eq_getElem?] at hd
    obtain ⟨z, hz, hzd⟩ := dpAll_getD ha hd
    refine ix_tup value slice pins s σ H _ _ v u Q I rx ry ⟨a, xs, -1, z, rfl, rfl, sa, ?_, q z hzd⟩ hs
    unfold atI
    have e : ixN xs.length (-1) = some (ds.length - 1) := by
      unfold ixN
      rw [hl]
      have h1 : ¬ (0 ≤ (-1 : Int)) := by omega
      simp
      omega
    rw [e]
    exact hz
end
end HG

set_option maxHeartbeats 4000000
/-! HH: a head's facts by a Hook with one more Bool; written dicts with text keys; written tuples. -/
namespace HG
open PySem PySem.Spec PyProof.Rows L2

/-! ### the Hook -/
abbrev AlB : Type := He.AlT × Bool
def obsB (fa : List He.Fa) (fn : List He.DefD) (ts : List He.Tab) (bx : PySem.W.Frag → Bool) (K : PySem.W.Frag) : AlB := (He.obsT fa fn ts K, bx K)
def obsBG (n : Nat) (fa : List He.Fa) (fn : List He.DefD) (ts : List He.Tab) (bx : PySem.W.Frag → Bool) (g : Addr → Option Obj) : AlB := obsB fa fn ts bx (He.frG g (He.asD g n))
def SaysB (fa : List He.Fa) (fn : List He.DefD) (ts : List He.Tab) (bx : PySem.W.Frag → Bool) (w : World) (K : PySem.W.Frag) : Prop := obsB fa fn ts bx K = (He.valT fn ts w, true)
def hookB (n : Nat) (fa : List He.Fa) (fn : List He.DefD) (ts : List He.Tab) (bx : PySem.W.Frag → Bool) : PySem.W.Hook where
  α := AlB
  obs := fun s => obsBG n fa fn ts bx s.heap.get?
  val := fun w => (He.valT fn ts w, true)
  says := fun w h => ∃ K : PySem.W.Frag, K.In h ∧ SaysB fa fn ts bx w K
  of := fun _ _ e => ⟨_, He.frG_in, e⟩
  keeps := fun _ _ _ ⟨K, hK, c⟩ k => ⟨K, PySem.W.Frag.In.keeps hK k, c⟩
theorem obsBG_eq {n : Nat} {fa : List He.Fa} {fn : List He.DefD} {ts : List He.Tab} {bx : PySem.W.Frag → Bool} {g : Addr → Option Obj} {s : Shared} (h : ∀ a, g a = s.heap.get? a) :
    obsBG n fa fn ts bx g = (hookB n fa fn ts bx).obs s := by
  have e : g = s.heap.get? := funext h
  rw [e]
  rfl
section
variable {fa : List He.Fa} {fn : List He.DefD} {ts : List He.Tab} {bx : PySem.W.Frag → Bool} {w : World} {K : PySem.W.Frag}
theorem SaysB.t (c : SaysB fa fn ts bx w K) : He.SaysT fa fn ts w K := congrArg (fun z : AlB => z.1) c
theorem SaysB.d (c : SaysB fa fn ts bx w K) : He.SaysD fa fn K := c.t.d
theorem SaysB.b (c : SaysB fa fn ts bx w K) : bx K = true := congrArg (fun z : AlB => z.2) c
end

/-! ### a written dict with text keys -/
structure KTab (K : PySem.W.Frag) (w : World) (a : Addr) (kvs : List (Str × V)) : Prop where
  dict : ∃ es n, KDict K w a es n
  hit : ∀ q ∈ kvs, ∃ u, PySem.W.nsIn K a q.1 = some (some u) ∧ RelV q.2 u
  miss : ∀ z : Str, z ∉ kvs.map (·.1) → PySem.W.nsIn K a z = some none
theorem keys_mem {P : Params} : ∀ {l : List DictEntry} {ks : List Str}, l.map He.keyOf = He.keysIn P ks → ∀ e ∈ l, ∃ x t, e.key = .str x t ∧ x ∈ ks
  | [], _, _, e, he => nomatch he
  | e :: r, [], h, _, _ => by cases h
  | e :: r, k :: ks, h, d, hd => by
    have h1 : He.keyOf e :: r.map He.keyOf = some (k, PyData.keyHash P k) :: He.keysIn P ks := h
    injection h1 with h2 h3
    rcases List.mem_cons.mp hd with rfl | hd
    · unfold He.keyOf at h2
      split at h2
      · rename_i x t q
        have h4 := Option.some.inj h2
        obtain ⟨h5, h6⟩ := Prod.mk.inj h4
        exact ⟨x, t, q, by rw [h5]; exact List.mem_cons_self⟩
      · cases h2
    · obtain ⟨x, t, q, hx⟩ := keys_mem h3 d hd
      exact ⟨x, t, q, List.mem_cons_of_mem _ hx⟩
theorem ns_miss {K : PySem.W.Frag} {P : Params} {a : Addr} {ks : List Str} (h : He.dicW K a = some (He.keysIn P ks)) {z : Str} (hz : z ∉ ks) : PySem.W.nsIn K a z = some none := by
  unfold He.dicW at h
  cases q : K.lookup a with
  | none =>
    rw [q] at h
    cases h
  | some o =>
    obtain ⟨oc, od, dt, osl⟩ := o
    rw [q] at h
    cases oc with
    | type c =>
      cases od with
      | none =>
        cases dt with
        | dict es n =>
          have h1 : (match decide (c = "dict") && (osl.isEmpty && !(a == sysModules)) with
            | true => some (es.toList.map He.keyOf)
            | false => none) = some (He.keysIn P ks) := h
          have h2 : es.toList.map He.keyOf = He.keysIn P ks := by
            cases y : decide (c = "dict") && (osl.isEmpty && !(a == sysModules)) with
            | false =>
              rw [y] at h1
              cases h1
            | true =>
              rw [y] at h1
              exact Option.some.inj h1
          have hk := keys_mem h2
          unfold PySem.W.nsIn
          rw [q]
          have e1 : es.toList.find? (·.key.isStr z) = none := by
            rw [List.find?_eq_none]
            intro e he
            obtain ⟨x, t, ex, hx⟩ := hk e he
            rw [ex]
            show ¬ (Value.str x t).isStr z = true
            intro hs
            have : x = z := by
              first
                | exact (beq_iff_eq.mp hs)
                | exact of_decide_eq_true hs
                | (simp [Value.isStr] at hs; exact hs)
            exact hz (this ▸ hx)
          have e2 : es.toList.any (·.refKey) = false := by
            rw [List.any_eq_false]
            intro e he
            obtain ⟨x, t, ex, hx⟩ := hk e he
            unfold DictEntry.refKey
            rw [ex]
            simp
          show (match es.toList.find? (·.key.isStr z) with
            | some e => some (some e.val)
            | none => if es.toList.any (·.refKey) then none else some none) = some none
          rw [e1, e2]
          rfl
        | _ => cases h
      | some b => cases dt <;> cases h
    | _ => cases od <;> cases dt <;> cases h
theorem ktab_mk {fa : List He.Fa} {fn : List He.DefD} {ts : List He.Tab} {bx : PySem.W.Frag → Bool} {w : World} {K : PySem.W.Frag} (c : SaysB fa fn ts bx w K) (i : Nat) {t : He.Tab} {kvs : List (Str × He.Dv)}
    (h : ts[i]? = some t) (hk : t.2 = kvs.map (·.1)) (hv : He.valsB K (t.1 K) kvs = true) : KTab K w (t.1 K) (kvs.map fun q => (q.1, q.2.v K)) := by
  have e : ts.map (fun t => He.dicW K (t.1 K)) = ts.map fun t => some (He.keysIn w.params t.2) := congrArg (fun z : He.AlT => z.2) c.t
  have e2 : (ts.map fun t => He.dicW K (t.1 K))[i]? = (ts.map fun t => some (He.keysIn w.params t.2))[i]? := by rw [e]
  rw [List.getElem?_map, List.getElem?_map, h] at e2
  have e3 := Option.some.inj e2
  refine ⟨He.dicW_ok e3, fun q hq => ?_, fun z hz => ns_miss e3 ?_⟩
  · obtain ⟨p, hp, rfl⟩ := List.mem_map.mp hq
    exact He.valsB_ok hv hp
  · rw [hk]
    rw [List.map_map] at hz
    exact hz
def tabGet (kvs : List (Str × V)) (z : Str) : Option V := (kvs.find? fun q => decide (q.1 = z)).map (·.2)
section
variable {X : Cx} {a : Addr} {kvs : List (Str × V)}
theorem ktab_get {K : PySem.W.Frag} {w : World} (T : KTab K w a kvs) (z : Str) : (∃ v u, tabGet kvs z = some v ∧ PySem.W.nsIn K a z = some (some u) ∧ RelV v u) ∨ (tabGet kvs z = none ∧ PySem.W.nsIn K a z = some none) := by
  unfold tabGet
  cases e : kvs.find? fun q => decide (q.1 = z) with
  | none =>
    refine .inr ⟨rfl, T.miss z fun hz => ?_⟩
    obtain ⟨q, hq, rfl⟩ := List.mem_map.mp hz
    have := List.find?_eq_none.mp e q hq
    simp at this
  | some q =>
    have h1 : q.1 = z := by simpa using List.find?_some e
    obtain ⟨u, h2, h3⟩ := T.hit q (List.mem_of_find?_eq_some e)
    rw [h1] at h2
    exact .inl ⟨q.2, u, rfl, h2, h3⟩
/-- z in TABLE -/
theorem op_in_tab (T : KTab X.K X.w a kvs) : OpR X (compareOp .In) (fun x y H Q => ∃ z : Str, x = .str z ∧ y = .ref a ∧ Q (.bl (tabGet kvs z).isSome) H) := by
  obtain ⟨es, n, D⟩ := T.dict
  intro pins s σ H x y v u Q I rx ry h
  obtain ⟨z, rfl, rfl, q⟩ := h
  rcases ktab_get T z with ⟨v0, u0, e1, e2, _⟩ | ⟨e1, e2⟩
  · rw [e1] at q
    exact op_in_kd D pins s σ H _ _ v u Q I rx ry ⟨z, _, rfl, rfl, e2, q⟩
  · rw [e1] at q
    exact op_in_kd D pins s σ H _ _ v u Q I rx ry ⟨z, _, rfl, rfl, e2, q⟩
theorem op_notIn_tab (T : KTab X.K X.w a kvs) : OpR X (compareOp .NotIn) (fun x y H Q => ∃ z : Str, x = .str z ∧ y = .ref a ∧ Q (.bl (!(tabGet kvs z).isSome)) H) := by
  obtain ⟨es, n, D⟩ := T.dict
  intro pins s σ H x y v u Q I rx ry h
  obtain ⟨z, rfl, rfl, q⟩ := h
  rcases ktab_get T z with ⟨v0, u0, e1, e2, _⟩ | ⟨e1, e2⟩
  · rw [e1] at q
    exact op_notIn_kd D pins s σ H _ _ v u Q I rx ry ⟨z, _, rfl, rfl, e2, q⟩
  · rw [e1] at q
    exact op_notIn_kd D pins s σ H _ _ v u Q I rx ry ⟨z, _, rfl, rfl, e2, q⟩
/-- TABLE[z] -/
theorem ix_tab (T : KTab X.K X.w a kvs) : IxR X (fun x y H Q => ∃ (z : Str) (v : V), x = .ref a ∧ y = .str z ∧ tabGet kvs z = some v ∧ Q v H) := by
  intro value slice pins s σ H x y v u Q I rx ry h hs
  obtain ⟨z, v1, rfl, rfl, e, q⟩ := h
  obtain ⟨es, n, D⟩ := T.dict
  rcases ktab_get T z with ⟨v0, u0, e1, e2, e3⟩ | ⟨e1, e2⟩
  · rw [e] at e1
    cases e1
    exact ix_kdict value slice pins s σ H _ _ v u Q I rx ry ⟨a, z, v1, rfl, rfl, ⟨es, n, u0, D.at_, D.lit, e2, e3⟩, q⟩ hs
  · rw [e] at e1
    cases e1
end

/-! ### a written tuple of plain things -/
def tupB (K : PySem.W.Frag) (x : Str) (ds : List He.Dv) : Bool := match K.lookup (He.ga K x) with
  | some ⟨.type "tuple", _, .seq its _, _⟩ => He.relAll (ds.map (He.Dv.v K)) its.toList && decide (its.size ≤ 1000)
  | _ => false
theorem tupB_ok {K : PySem.W.Frag} {x : Str} {ds : List He.Dv} (h : tupB K x ds = true) (H : Hp) : SqT K H (He.ga K x) (ds.map (He.Dv.v K)) := by
  unfold tupB at h
  split at h
  · rename_i od its n sl q
    obtain ⟨h1, h2⟩ := He.ba h
    exact .inr ⟨_, its, n, q, rfl, rfl, Nat.le_trans (of_decide_eq_true h2) (by decide), He.relAll_ok h1⟩
  · cases h
end HG

set_option maxHeartbeats 4000000
/-! HX: more rules: x is True of any value, text * int, {None: .., True: .., False: ..}[x], len(set(texts)). -/
namespace HG
open PySem PySem.Spec PyProof.Rows L2
section
variable {X : Cx}
/-- x is True, x is False -/
theorem op_isTF : OpR X (compareOp .Is) (fun x y H Q => ∃ b : Bool, y = .bl b ∧ Q (.bl (decide (x = .bl b))) H) := by
  intro pins s σ H x y v u Q I rx ry h
  obtain ⟨b, rfl, q⟩ := h
  cases (show u = Value.bool b from ry)
  by_cases e : x = .bl b
  · subst e
    cases (show v = Value.bool b from rx)
    exact wpAny_is_self rfl ⟨.bl true, H, I, rfl, by simpa using q⟩
  · have q' : Q (.bl false) H := by simpa [e] using q
    cases x with
    | non => cases rx; exact wpAny_is_other rfl (fun z => nomatch z) ⟨.bl false, H, I, rfl, q'⟩
    | bl a => cases rx; exact wpAny_is_other rfl (fun z => e (congrArg V.bl (Value.bool.inj z))) ⟨.bl false, H, I, rfl, q'⟩
    | int i => obtain ⟨t, rfl⟩ := rx; exact wpAny_is_other rfl (fun z => nomatch z) ⟨.bl false, H, I, rfl, q'⟩
    | str i => obtain ⟨t, rfl⟩ := rx; exact wpAny_is_other rfl (fun z => nomatch z) ⟨.bl false, H, I, rfl, q'⟩
    | byt i => obtain ⟨t, rfl⟩ := rx; exact wpAny_is_other rfl (fun z => nomatch z) ⟨.bl false, H, I, rfl, q'⟩
    | flt i => obtain ⟨t, rfl⟩ := rx; exact wpAny_is_other rfl (fun z => nomatch z) ⟨.bl false, H, I, rfl, q'⟩
    | ref i => cases rx; exact wpAny_is_other rfl (fun z => nomatch z) ⟨.bl false, H, I, rfl, q'⟩
    | ty i => cases rx; exact wpAny_is_other rfl (fun z => nomatch z) ⟨.bl false, H, I, rfl, q'⟩
/-- text * int -/
theorem op_mul_str : OpR X (binaryOp .Mult) (fun x y H Q => ∃ (z : Str) (n : Int), x = .str z ∧ y = .int n ∧ MulOk z n ∧ Q (.str (Txt.mul z n)) H) := by
  intro pins s σ H x y v u Q I rx ry h
  obtain ⟨z, n, rfl, rfl, ok, q⟩ := h
  obtain ⟨t, rfl⟩ := rx
  obtain ⟨t', rfl⟩ := ry
  exact SB.mul ok fun t' k => ⟨.str _, H, I.tok _, ⟨_, rfl⟩, q⟩
end
theorem mulOk_of {z : Str} {n : Int} (h0 : 0 ≤ n) (h : z.length * n.toNat ≤ 1000000) (hn : n < 2 ^ 40) (hz : z.length ≤ 1000000) : MulOk z n := by
  refine ⟨?_, fun h1 _ h2 => ?_, fun h1 _ => ?_⟩
  · rw [decide_eq_false (by omega), decide_eq_false (by omega)]
    rfl
  · have h3 : (1000000 : Int) ≤ (2 ^ 63 - 1) / n := by
      refine (Int.le_ediv_iff_mul_le (by omega)).mpr ?_
      omega
    omega
  · show decide (_ > _) = false
    refine decide_eq_false ?_
    rw [show (sizeLine : Nat) = 16777216 from sizeLine_eq]
    omega

theorem call_reprK {X : Cx} {K : PySem.W.Frag} (hK : X.K = K) (hgd : X.A.guards = some []) (hr : Room 0 X.A) : CallR X (.builtin "repr") (rRepr K) := by
  subst hK
  exact call_repr hgd hr
/-! ### keywords alone -/
theorem kbn0 {K : PySem.W.Frag} {x qual : Str} {params : Arguments} {body : List Stmt} {scope : Scope} {kws : List (Str × V)} {f : Addr} {fd : FuncData} {ks ps : List Str} {g : List Value → List Value} {gV : List V → List V}
    (F : FunD K x qual params body scope [] kws f fd)
    (h : ∀ (kV doc pm : Value) (an : Option Addr) (cdv ct : Value) (ws : List Value), ws.length = ks.length → bindArgs (PySem.W.fnOf x qual params body scope .none kV doc pm an cdv ct) ⟨[], ks.zip ws⟩ = pure (ps.zip (g ws)))
    (rel : ∀ {zs : List V} {ws : List Value}, Vals zs ws → Vals (gV zs) (g ws)) : KBn K fd ps 0 ks (fun _ ws => g ws) (fun _ zs => gV zs) := by
  obtain ⟨oc, od, dV, kV, doc, pm, an, cdv, ct, osl, rfl, lk, hcd, hD, hK⟩ := F.ex
  rcases hD with ⟨_, rfl⟩ | ⟨e, _⟩
  · refine ⟨fun s us ws _ hu hw => ?_, fun _ r => rel r⟩
    obtain rfl : us = [] := List.length_eq_zero_iff.mp hu
    exact .of_eq (h kV doc pm an cdv ct ws hw)
  · exact absurd rfl e

/-! ### objects made by a class of the top -/
structure MkC (P : Program) (w : World) (K : PySem.W.Frag) (mg : Str → Option Value) (base : Heap) (x : Str) (k : Nat) (sp : Sp) : Prop where
  ex : ∃ (f : Addr) (fd : FuncData) (ps : List Str), Mk K (He.ga K x) f ∧ FnOk P w K mg base CX0 k f fd ps sp ∧ Binds K fd ps []
  gl : mg x = some (.ref (He.ga K x))
theorem pe_mk {X : Cx} {k : Nat} {x : Str} {sp : Sp} {p pos : Pos} {e : Expr} {es : List Expr} {t : TA} (C : MkC X.prog X.w X.K X.mg X.base x k sp) (hr : Room (k + 1) X.A) (hg : Gl X x) (ha : PA X (e :: es) t)
    (hdb : (x == ("__debug__" : Str)) = false := by decide)
    (he : starEach (e :: es) X.env = (false, eval e X.env) :: starEach es X.env := by rfl)
    (hpl : (backTo pos (starEach es X.env)).any (·.1) = false := by rfl) : PE X (.Call (.Name x p) (e :: es) [] pos) (tMake (He.ga X.K x) sp [] E0 t) := by
  obtain ⟨f, fd, ps, M, F, b⟩ := C.ex
  exact pe_make M F hr hg C.gl b .nil pass0 ha hdb he hpl

/-! ### None and bools as keys -/
def nbV : Option Bool → V
  | none => .non
  | some b => .bl b
def nbIs : Option Bool → Value → Bool
  | none, .none => true
  | none, _ => false
  | some k, v => PpSet.isB k v
theorem nb_none {v : Value} (h : nbIs none v = true) : v = .none := by
  cases v with
  | none => rfl
  | _ => exact nomatch (show false = true from h)
def nbU : Option Bool → Value
  | none => .none
  | some b => .bool b
theorem nb_shape {k : Option Bool} {v : Value} (h : nbIs k v = true) : v = nbU k := by
  cases k with
  | none => exact nb_none h
  | some b => exact PpSet.isB_shape h
theorem nb_of {k : Option Bool} {v : Value} (h : RelV (nbV k) v) : nbIs k v = true := by
  cases k with
  | none => cases (show v = Value.none from h); rfl
  | some b => cases (show v = Value.bool b from h); exact beq_self_eq_true b
def nbKind (prog : Program) (w : World) : PySem.KeyKind prog w (Option Bool) where
  is := nbIs
  hash := fun k => match k with
    | none => reduceHash 0xFCA86420
    | some k => PpSet.hB k
  inj := fun v a b ha hb => by
    have e1 := nb_shape ha
    have e2 := nb_shape hb
    rw [e1] at e2
    cases a with
    | none => cases b with
      | none => rfl
      | some _ => cases e2
    | some x => cases b with
      | none => cases e2
      | some y => exact congrArg some (Value.bool.inj e2)
  byValue := fun k v h => by
    rw [nb_shape h]
    cases k <;> rfl
  pyHash := @fun A E s k v Q hv h => by
    cases k with
    | none =>
      have e := nb_none hv
      subst e
      exact PySem.W.pyHash_slot (T := "NoneType") rfl PySem.F.slot_NoneType_hash PySem.F.entry_NoneType_hash (PySem.F.args_NoneType_hash_1 _) (beq_builtin_none _) (.inl rfl) (wpAny_bind (wpAny_pure (wpAny_bind (wpAny_mkInt (wpAny_pure ⟨_, _, rfl, h⟩)))))
    | some k => exact (PpSet.boolK prog w).pyHash (k := k) hv h
  eqBool := @fun A E s a b u v Q hu hv h => by
    have e1 := nb_shape hu
    have e2 := nb_shape hv
    subst e1 e2
    cases a with
    | none =>
      cases b with
      | none =>
        rw [decide_eq_true rfl] at h
        exact SeqAt.EqAt.same _ _ _ _ _ h
      | some k =>
        rw [decide_eq_false (fun z => nomatch z)] at h
        exact SeqAt.EqAt.none_bool k _ _ _ _ h
    | some k =>
      cases b with
      | none =>
        rw [decide_eq_false (fun z => nomatch z)] at h
        exact SeqAt.EqAt.bool_none k _ _ _ _ h
      | some j =>
        have e : decide ((some k : Option Bool) = some j) = (k == j) := by cases k <;> cases j <;> rfl
        rw [e] at h
        exact SeqAt.EqAt.bool_bool k j _ _ _ _ h
  «strs» := fun k x t v h => by
    cases k with
    | none => exact nomatch (show false = true from h)
    | some k => exact absurd h Bool.false_ne_true
abbrev NB (P : Program) (w : World) (a : Addr) (vs : List (Option Bool × Value)) : HO := .ext fun h => h.DictOf (nbKind P w) a vs
theorem nb_new {P : Program} {w : World} {H : Hp} {h : Heap} {a : Addr} {vs : List (Option Bool × Value)} (R : h.DictOf (nbKind P w) a vs) : ObjOk P w H h a (NB P w a vs) := by
  refine ⟨R, ?_, fun h1 h2 p k => ?_⟩
  · obtain ⟨o, _, _, ho, _⟩ := R
    exact ⟨o, ho⟩
  · obtain ⟨o, es, ep, ho, r⟩ := p
    exact ⟨o, es, ep, k o ho, r⟩
/-- {None: 'x', True: 'y', False: 'z'}[e] -/
def tNb3 (x y z : Str) (te : TE) : TE := fun σ H Q => ∀ (p : Addr) (o : HO), H p = none → te σ (upd H p o) fun v H2 => H2 p = some o ∧ ∃ k : Option Bool, v = nbV k ∧ Q (.str (match k with | none => x | some true => y | some false => z)) H2
section
variable {X : Cx}
theorem pe_nb3 {x y z : Str} {e : Expr} {te : TE} {p1 p2 p3 p4 p5 p6 p7 pos : Pos} {k4 k5 k6 k7 k8 k9 : Nat} (he : PE X e te) (hs : NoSl e) :
    PE X (.Subscript (.Dict [some (.Constant .none k4 p1), some (.Constant (.bool true) k5 p2), some (.Constant (.bool false) k6 p3)] [.Constant (.str x) k7 p4, .Constant (.str y) k8 p5, .Constant (.str z) k9 p6] p7) e pos) (tNb3 x y z te) := by
  refine ⟨fun pins s σ H Q I h => ?_⟩
  refine subD_of PySem.F.slot_dict_getitem.lookup hs ?_
  have hn := I.hok.fresh (Nat.le_refl s.heap.objs.size)
  have I1 := I.laid (a := s.heap.objs.size) (o := NB X.prog X.w s.heap.objs.size []) (h' := s.heap.push { cls := .type "dict", data := .dict #[] }) (t' := s.toks) (fun _ _ q => Heap.get?_push_of_some _ q) (Nat.le_refl _) (nb_new (Heap.DictOf.new _))
  have PP : PPs X p7 [some (.Constant .none k4 p1), some (.Constant (.bool true) k5 p2), some (.Constant (.bool false) k6 p3)] [.Constant (.str x) k7 p4, .Constant (.str y) k8 p5, .Constant (.str z) k9 p6]
      [(tC .non, tC (.str x)), (tC (.bl true), tC (.str y)), (tC (.bl false), tC (.str z))] := pps_cons pe_non pe_str (pps_cons pe_bl pe_str (pps_cons pe_bl pe_str pps_nil))
  refine wpAny_Dict_walk (knd := nbKind X.prog X.w) rfl rfl (fun z => nomatch z) (show 3 ≤ 15 by decide) ?_
  refine thn (PP.run pins _ σ _ (fun ps H2 => ps = [(.non, .str x), (.bl true, .str y), (.bl false, .str z)] ∧ H2 = upd H s.heap.objs.size (NB X.prog X.w s.heap.objs.size [])) I1 ⟨rfl, rfl⟩) ?_
  rintro ws s2 ⟨ps, H2, I2, rel, rfl, rfl⟩
  cases rel with
  | @cons _ a1 _ _ r1 rel =>
  cases rel with
  | @cons _ a2 _ _ r2 rel =>
  cases rel with
  | @cons _ a3 _ _ r3 rel =>
  cases rel
  obtain ⟨c1, d1⟩ := a1
  obtain ⟨c2, d2⟩ := a2
  obtain ⟨c3, d3⟩ := a3
  have dd := (I2.hok _ _ upd_same).1
  refine ⟨[(none, d1), (some true, d2), (some false, d3)], ⟨nb_of (k := none) r1.1, rfl, nb_of (k := some true) r2.1, rfl, nb_of (k := some false) r3.1, rfl, trivial⟩, dd, fun h' dd' hsb => ?_⟩
  have em : merged [] [((none : Option Bool), d1), (some true, d2), (some false, d3)] = [(none, d1), (some true, d2), (some false, d3)] := rfl
  rw [em] at dd'
  have he' : ∃ q, h'.get? s.heap.objs.size = some q := let ⟨q, _, _, hq, _⟩ := dd'; ⟨q, hq⟩
  have I3 := d_write (t' := s2.toks + 3) (ob := NB X.prog X.w s.heap.objs.size [(none, d1), (some true, d2), (some false, d3)]) I2 (by rw [upd_same]; exact True.intro) hsb he' (nb_new dd')
  have eu : upd (upd H s.heap.objs.size (NB X.prog X.w s.heap.objs.size [])) s.heap.objs.size (NB X.prog X.w s.heap.objs.size [(none, d1), (some true, d2), (some false, d3)]) = upd H s.heap.objs.size (NB X.prog X.w s.heap.objs.size [(none, d1), (some true, d2), (some false, d3)]) := by
    funext b
    by_cases e : b = s.heap.objs.size
    · subst e; rw [upd_same, upd_same]
    · rw [upd_ne e, upd_ne e, upd_ne e]
  rw [eu] at I3
  refine thn (he.run pins _ σ _ _ I3 (h _ _ hn)) ?_
  rintro iv s3 ⟨v, H3, I4, rv, h3, k, rfl, q⟩
  have D3 : s3.heap.DictOf (nbKind X.prog X.w) s.heap.objs.size [(none, d1), (some true, d2), (some false, d3)] := (I4.hok _ _ h3).1
  refine ⟨D3.mapOf.typeIs, ?_⟩
  cases k with
  | none => exact wpAny_getItem_of (k := none) (nb_of rv) D3.mapOf rfl ⟨.str x, H3, I4.tok _, r1.2, q⟩
  | some b =>
    cases b with
    | true => exact wpAny_getItem_of (k := some true) (nb_of rv) D3.mapOf rfl ⟨.str y, H3, I4.tok _, r2.2, q⟩
    | false => exact wpAny_getItem_of (k := some false) (nb_of rv) D3.mapOf rfl ⟨.str z, H3, I4.tok _, r3.2, q⟩
end
end HG

set_option maxHeartbeats 4000000
/-! HRepr: repr of data without lists in which dicts (with ints and texts as keys) stand. -/
namespace HG
open PySem PySem.Spec PyProof.Rows L2
def kD : Key → PyData
  | .inl i => .int i
  | .inr z => .str z
/-- data without lists, dicts in it -/
inductive DpR (K : PySem.W.Frag) (H : Hp) : V → PyData → Prop
  | of {v : V} {d : PyData} : Dp K H v d → noL d = true → DpR K H v d
  | tup {a : Addr} {vs : List V} {ds : List PyData} : SqT K H a vs → vs.length = ds.length → (∀ (i : Nat) v d, vs[i]? = some v → ds[i]? = some d → DpR K H v d) → DpR K H (.ref a) (.tuple ds)
  | dict {a : Addr} {kvs : List (Key × V)} {ds : List PyData} : H a = some (.dK kvs) → kvs.length = ds.length → (∀ (i : Nat) kv d, kvs[i]? = some kv → ds[i]? = some d → DpR K H kv.2 d) → DpR K H (.ref a) (.dict ((kvs.map fun kv => kD kv.1).zip ds))
section
variable {X : Cx} {pins : List (Addr × Obj)} {σ : L2.St} {H : Hp} {s : Shared}
mutual
theorem readsN (I : Inv X pins σ H s) : ∀ (d : PyData) (v : V) (u : Value), Dp X.K H v d → RelV v u → noL d = true → Reads s.heap u d []
  | .none, _, _, h, r, _ => by
    cases h
    cases r
    exact Reads.none
  | .bool b, _, _, h, r, _ => by
    cases h
    cases r
    exact Reads.bool b
  | .int i, _, _, h, r, _ => by
    cases h
    obtain ⟨t, rfl⟩ := r
    exact Reads.int i t
  | .str x, _, _, h, r, _ => by
    cases h
    obtain ⟨t, rfl⟩ := r
    exact Reads.str x t
  | .list ds, _, _, h, r, n => by cases n
  | .tuple ds, _, _, h, r, n => by
    cases h with
    | tup hs ha =>
      cases r
      obtain ⟨its, rv, ⟨o, ho, hc, m, hd⟩, _⟩ := I.tuple hs
      exact Reads.tuple ho hc hd (readsNAll I ds _ its ha rv n)
  | .dict _, _, _, h, _, _ => by cases h
theorem readsNAll (I : Inv X pins σ H s) : ∀ (ds : List PyData) (vs : List V) (us : List Value), DpAll X.K H vs ds → Vals vs us → noLAll ds = true → ReadsAll s.heap us ds []
  | [], _, _, h, r, _ => by
    cases h
    cases r
    exact ReadsAll.nil
  | d :: ds, _, _, h, r, n => by
    cases h with
    | cons h1 h2 =>
      cases r with
      | cons r1 r2 =>
        simp only [noLAll, Bool.and_eq_true] at n
        exact ReadsAll.cons (readsN I d _ _ h1 r1 n.1) (readsNAll I ds _ _ h2 r2 n.2)
end
theorem readsAll_ix {h : Heap} : ∀ {us : List Value} {ds : List PyData}, us.length = ds.length → (∀ (i : Nat) u d, us[i]? = some u → ds[i]? = some d → ∃ as, Reads h u d as ∧ sysModules ∉ as) → ∃ as, ReadsAll h us ds as ∧ sysModules ∉ as
  | [], [], _, _ => ⟨_, ReadsAll.nil, fun z => nomatch z⟩
  | [], _ :: _, e, _ => by simp at e
  | _ :: _, [], e, _ => by simp at e
  | u :: us, d :: ds, e, q => by
    obtain ⟨as, r1, n1⟩ := q 0 u d rfl rfl
    obtain ⟨bs, r2, n2⟩ := readsAll_ix (us := us) (ds := ds) (by simpa using e) fun i u' d' h1 h2 => q (i + 1) u' d' h1 h2
    exact ⟨_, ReadsAll.cons r1 r2, fun z => (List.mem_append.mp z).elim n1 n2⟩
theorem vals_ix : ∀ {vs : List V} {us : List Value}, Vals vs us → ∀ {i : Nat} {u : Value}, us[i]? = some u → ∃ v, vs[i]? = some v ∧ RelV v u
  | _, _, .nil, i, u, h => by simp at h
  | _, _, .cons r _, 0, u, h => by simp at h; subst h; exact ⟨_, rfl, r⟩
  | _, _, .cons _ rs, i + 1, u, h => by
    obtain ⟨v, h1, h2⟩ := vals_ix rs (i := i) (u := u) (by simpa using h)
    exact ⟨v, by simpa using h1, h2⟩
theorem reads_keys {P : Program} {w : World} {h : Heap} : ∀ {es : List DictEntry} {vs : List (Key × Value)}, PySem.Pairs (mixKind P w) es vs → ReadsAll h (es.map (·.key)) (vs.map fun kv => kD kv.1) []
  | _, _, .nil => ReadsAll.nil
  | _, _, .cons hk hv r => by
    refine ReadsAll.cons (as := []) (bs := []) ?_ (reads_keys r)
    rcases keyIs_shape hk with ⟨i, t, e1, e⟩ | ⟨x, t, e1, e⟩
    · dsimp only; rw [e, e1]; exact Reads.int i t
    · dsimp only; rw [e, e1]; exact Reads.str x t
theorem pairs_vals {P : Program} {w : World} : ∀ {es : List DictEntry} {vs : List (Key × Value)}, PySem.Pairs (mixKind P w) es vs → es.map (·.val) = vs.map (·.2)
  | _, _, .nil => rfl
  | _, _, .cons _ hv r => by
    rw [List.map_cons, List.map_cons, pairs_vals r, hv]
theorem DpR.reads (I : Inv X pins σ H s) {v : V} {d : PyData} (h : DpR X.K H v d) : ∀ {u : Value}, RelV v u → ∃ as, Reads s.heap u d as ∧ sysModules ∉ as := by
  induction h with
  | of hd hn => exact fun r => ⟨[], readsN I _ _ _ hd r hn, fun z => nomatch z⟩
  | @tup a vs ds hs hl _ ih =>
    intro u r
    cases r
    obtain ⟨its, rv, ⟨o, ho, hc, m, hd⟩, _⟩ := I.tuple hs
    have e1 : its.length = ds.length := by rw [← rv.length]; exact hl
    obtain ⟨as, ra, na⟩ := readsAll_ix (h := s.heap) e1 fun i u' d' h1 h2 => by
      obtain ⟨v', h3, h4⟩ := vals_ix rv h1
      exact ih i v' d' h3 h2 h4
    exact ⟨as, Reads.tuple ho hc hd ra, na⟩
  | @dict a kvs ds he hl _ ih =>
    intro u r
    cases r
    obtain ⟨_, hm, vs, rel, o, es, ep, ho, hx, hdt, _, hp, _⟩ := dk_of I.hok he
    have e0 := rel.length
    have hkeys : (vs.map fun kv => kD kv.1) = (kvs.map fun kv => kD kv.1) := by
      have : ∀ {l : List (Key × V)} {m : List (Key × Value)}, L2.KV l m → (m.map fun kv => kD kv.1) = (l.map fun kv => kD kv.1) := by
        intro l m q
        unfold L2.KV at q
        induction q with
        | nil => rfl
        | cons h t ih => rw [List.map_cons, List.map_cons, ih, h.1]
      exact this rel
    have hget : ∀ {l : List (Key × V)} {m : List (Key × Value)}, L2.KV l m → ∀ {i : Nat} {w : Value}, (m.map (·.2))[i]? = some w → ∃ kv, l[i]? = some kv ∧ RelV kv.2 w := by
      intro l m q
      unfold L2.KV at q
      induction q with
      | nil => intro i w h; simp at h
      | @cons p q ps qs h t ih =>
        intro i w hi
        cases i with
        | zero =>
          simp at hi
          subst hi
          exact ⟨p, rfl, h.2⟩
        | succ i =>
          obtain ⟨kv, h1, h2⟩ := ih (i := i) (w := w) (by simpa using hi)
          exact ⟨kv, by simpa using h1, h2⟩
    have ek := reads_keys (h := s.heap) hp
    have ev := pairs_vals hp
    obtain ⟨bs, rb, nb⟩ := readsAll_ix (h := s.heap) (us := es.toList.map (·.val)) (ds := ds) (by rw [ev, List.length_map, ← e0]; exact hl) fun i u' d' h1 h2 => by
      rw [ev] at h1
      obtain ⟨kv, h3, h4⟩ := hget rel h1
      exact ih i kv d' h3 h2 h4
    have z1 : (((kvs.map fun kv => kD kv.1).zip ds).map (·.1)) = (vs.map fun kv => kD kv.1) := by
      rw [hkeys]
      exact List.map_fst_zip (by rw [List.length_map]; exact Nat.le_of_eq hl)
    have z2 : (((kvs.map fun kv => kD kv.1).zip ds).map (·.2)) = ds := List.map_snd_zip (by rw [List.length_map]; exact Nat.le_of_eq hl.symm)
    refine ⟨a :: [] ++ bs, Reads.dict (as := []) (bs := bs) ho hx.1 hdt (by rw [z1]; exact ek) (by rw [z2]; exact rb), ?_⟩
    intro z
    rcases List.mem_cons.mp z with e | e
    · rw [← e] at hm
      simp at hm
    · exact nb e
def rReprR (K : PySem.W.Frag) : List V → Hp → VK → Prop := fun xs H Q =>
  ∃ a d, xs = [.ref a] ∧ DpR K H (.ref a) d ∧ d.showable = true ∧ d.depth ≤ 150 ∧ d.shown.length ≤ sizeLine ∧ Q (.str d.shown) H
theorem call_reprR {K : PySem.W.Frag} {k : Nat} (hK : X.K = K) (hgd : X.A.guards = some []) (hr : Room k X.A) : CallR X (.builtin "repr") (rReprR K) := by
  subst hK
  intro pins s σ H xs us Q I r h
  obtain ⟨a, d, rfl, hd, hs, hdep, hsz, q⟩ := h
  obtain ⟨u, rfl, ru⟩ := vals1 r
  cases ru
  obtain ⟨as, rd, nm⟩ := hd.reads I (u := .ref a) rfl
  have hu := hr.un
  exact repr_of_reads' rd hs (fun _ => nm) hgd (by omega) (fun _ _ e => e) (fun h' u tk hk => ⟨.str _, H, I.kept hk, ⟨_, rfl⟩, q⟩) hsz
end
end HG

set_option maxHeartbeats 4000000
/-! HRepr2: repr of data in which lists and dicts (also such with tuples as keys) stand; K knows sys.modules. -/
namespace HG
open PySem PySem.Spec PyProof.Rows L2
/-- what the written part must tell of sys.modules: it is a dict -/
def SysD (K : PySem.W.Frag) : Prop := ∃ o, K.lookup sysModules = some o ∧ o.cls = .type "dict"
def sysB (K : PySem.W.Frag) : Bool := match K.lookup sysModules with
  | some o => decide (o.cls = .type "dict")
  | none => false
theorem sysB_ok {K : PySem.W.Frag} (h : sysB K = true) : SysD K := by
  unfold sysB at h
  cases e : K.lookup sysModules with
  | none => rw [e] at h; cases h
  | some o =>
    rw [e] at h
    exact ⟨o, e, of_decide_eq_true h⟩
inductive DpS (K : PySem.W.Frag) (H : Hp) : V → PyData → Prop
  | of {v : V} {d : PyData} : Dp K H v d → DpS K H v d
  | tup {a : Addr} {vs : List V} {ds : List PyData} : SqT K H a vs → vs.length = ds.length → (∀ (i : Nat) v d, vs[i]? = some v → ds[i]? = some d → DpS K H v d) → DpS K H (.ref a) (.tuple ds)
  | dict {a : Addr} {kvs : List (Key × V)} {ds : List PyData} : H a = some (.dK kvs) → kvs.length = ds.length → (∀ (i : Nat) kv d, kvs[i]? = some kv → ds[i]? = some d → DpS K H kv.2 d) → DpS K H (.ref a) (.dict ((kvs.map fun kv => kD kv.1).zip ds))
  | dictT {a : Addr} {kvs : List (List Key × V)} {ds : List PyData} : H a = some (.dT kvs) → kvs.length = ds.length → (∀ (i : Nat) kv d, kvs[i]? = some kv → ds[i]? = some d → DpS K H kv.2 d) → DpS K H (.ref a) (.dict ((kvs.map fun kv => PyData.tuple (kv.1.map kD)).zip ds))
section
variable {X : Cx} {pins : List (Addr × Obj)} {σ : L2.St} {H : Hp} {s : Shared}
mutual
theorem readsS (I : Inv X pins σ H s) (hK : SysD X.K) : ∀ (d : PyData) (v : V) (u : Value), Dp X.K H v d → RelV v u → ∃ as, Reads s.heap u d as ∧ sysModules ∉ as
  | .none, _, _, h, r => by
    cases h
    cases r
    exact ⟨_, Reads.none, fun z => nomatch z⟩
  | .bool b, _, _, h, r => by
    cases h
    cases r
    exact ⟨_, Reads.bool b, fun z => nomatch z⟩
  | .int i, _, _, h, r => by
    cases h
    obtain ⟨t, rfl⟩ := r
    exact ⟨_, Reads.int i t, fun z => nomatch z⟩
  | .str x, _, _, h, r => by
    cases h
    obtain ⟨t, rfl⟩ := r
    exact ⟨_, Reads.str x t, fun z => nomatch z⟩
  | .list ds, _, _, h, r => by
    cases h with
    | @lst a _ _ hs ha =>
      cases r
      obtain ⟨its, rv, ⟨o, n, ho, hc, _, hd⟩, _⟩ := I.list hs
      obtain ⟨as, hr, nm⟩ := readsSAll I hK ds _ its ha rv
      refine ⟨_, Reads.list ho hc hd hr, fun z => ?_⟩
      rcases List.mem_cons.mp z with e | e
      · obtain ⟨o2, e2, c2⟩ := hK
        have g := I.kIn _ _ e2
        rw [e, ho] at g
        injection g with g
        rw [← g, hc] at c2
        exact absurd c2 (by decide)
      · exact nm e
  | .tuple ds, _, _, h, r => by
    cases h with
    | tup hs ha =>
      cases r
      obtain ⟨its, rv, ⟨o, ho, hc, m, hd⟩, _⟩ := I.tuple hs
      obtain ⟨as, hr, nm⟩ := readsSAll I hK ds _ its ha rv
      exact ⟨_, Reads.tuple ho hc hd hr, nm⟩
  | .dict _, _, _, h, _ => by cases h
theorem readsSAll (I : Inv X pins σ H s) (hK : SysD X.K) : ∀ (ds : List PyData) (vs : List V) (us : List Value), DpAll X.K H vs ds → Vals vs us → ∃ as, ReadsAll s.heap us ds as ∧ sysModules ∉ as
  | [], _, _, h, r => by
    cases h
    cases r
    exact ⟨_, ReadsAll.nil, fun z => nomatch z⟩
  | d :: ds, _, _, h, r => by
    cases h with
    | cons h1 h2 =>
      cases r with
      | cons r1 r2 =>
        obtain ⟨as, q1, n1⟩ := readsS I hK d _ _ h1 r1
        obtain ⟨bs, q2, n2⟩ := readsSAll I hK ds _ _ h2 r2
        exact ⟨_, ReadsAll.cons q1 q2, fun z => (List.mem_append.mp z).elim n1 n2⟩
end
theorem reads_kVs : ∀ {ks : List Key} {us : List Value}, Vals (ks.map kV) us → ReadsAll s.heap us (ks.map kD) []
  | [], us, r => by
    rw [List.map_nil] at r
    cases r
    exact ReadsAll.nil
  | k :: ks, us, r => by
    rw [List.map_cons] at r
    cases r with
    | cons h t =>
      refine ReadsAll.cons (as := []) (bs := []) ?_ (reads_kVs t)
      cases k with
      | inl i =>
        obtain ⟨t, rfl⟩ := (show ∃ t, _ = Value.int i t from h)
        exact Reads.int i t
      | inr x =>
        obtain ⟨t, rfl⟩ := (show ∃ t, _ = Value.str x t from h)
        exact Reads.str x t
theorem reads_keysT (I : Inv X pins σ H s) : ∀ {kvs : List (List Key × V)} {xs : List (List Key × Addr × Value)}, L2.KT H kvs xs → ReadsAll s.heap (xs.map fun x => Value.ref x.2.1) (kvs.map fun kv => PyData.tuple (kv.1.map kD)) []
  | _, _, .nil => ReadsAll.nil
  | _, _, .cons h r => by
    refine ReadsAll.cons (as := []) (bs := []) ?_ (reads_keysT I r)
    obtain ⟨its, rv, ⟨o, ho, hc, m, hd⟩, _⟩ := I.tuple (show SqT X.K H _ _ from .inl (.inl h.2.1))
    exact Reads.tuple ho hc hd (reads_kVs rv)
theorem kt_ix : ∀ {kvs : List (List Key × V)} {xs : List (List Key × Addr × Value)}, L2.KT H kvs xs → ∀ {i : Nat} {w : Value}, (xs.map fun x => x.2.2)[i]? = some w → ∃ kv, kvs[i]? = some kv ∧ RelV kv.2 w
  | _, _, .nil, i, w, h => by simp at h
  | _, _, .cons h r, 0, w, hi => by
    simp at hi
    subst hi
    exact ⟨_, rfl, h.2.2⟩
  | _, _, .cons h r, i + 1, w, hi => by
    obtain ⟨kv, h1, h2⟩ := kt_ix r (i := i) (w := w) (by simpa using hi)
    exact ⟨kv, by simpa using h1, h2⟩
theorem kv_ix : ∀ {l : List (Key × V)} {m : List (Key × Value)}, L2.KV l m → ∀ {i : Nat} {w : Value}, (m.map (·.2))[i]? = some w → ∃ kv, l[i]? = some kv ∧ RelV kv.2 w := by
  intro l m q
  unfold L2.KV at q
  induction q with
  | nil => intro i w h; simp at h
  | @cons p q ps qs h t ih =>
    intro i w hi
    cases i with
    | zero =>
      simp at hi
      subst hi
      exact ⟨p, rfl, h.2⟩
    | succ i =>
      obtain ⟨kv, h1, h2⟩ := ih (i := i) (w := w) (by simpa using hi)
      exact ⟨kv, by simpa using h1, h2⟩
theorem kv_keys {l : List (Key × V)} {m : List (Key × Value)} (q : L2.KV l m) : (m.map fun kv => kD kv.1) = (l.map fun kv => kD kv.1) := by
  unfold L2.KV at q
  induction q with
  | nil => rfl
  | cons h t ih => rw [List.map_cons, List.map_cons, ih, h.1]
theorem DpS.reads (I : Inv X pins σ H s) (hK : SysD X.K) {v : V} {d : PyData} (h : DpS X.K H v d) : ∀ {u : Value}, RelV v u → ∃ as, Reads s.heap u d as ∧ sysModules ∉ as := by
  induction h with
  | of hd => exact fun r => readsS I hK _ _ _ hd r
  | @tup a vs ds hs hl _ ih =>
    intro u r
    cases r
    obtain ⟨its, rv, ⟨o, ho, hc, m, hd⟩, _⟩ := I.tuple hs
    have e1 : its.length = ds.length := by rw [← rv.length]; exact hl
    obtain ⟨as, ra, na⟩ := readsAll_ix (h := s.heap) e1 fun i u' d' h1 h2 => by
      obtain ⟨v', h3, h4⟩ := vals_ix rv h1
      exact ih i v' d' h3 h2 h4
    exact ⟨as, Reads.tuple ho hc hd ra, na⟩
  | @dict a kvs ds he hl _ ih =>
    intro u r
    cases r
    obtain ⟨_, hm, vs, rel, o, es, ep, ho, hx, hdt, _, hp, _⟩ := dk_of I.hok he
    have e0 := rel.length
    have ek := reads_keys (h := s.heap) hp
    have ev := pairs_vals hp
    obtain ⟨bs, rb, nb⟩ := readsAll_ix (h := s.heap) (us := es.toList.map (·.val)) (ds := ds) (by rw [ev, List.length_map, ← e0]; exact hl) fun i u' d' h1 h2 => by
      rw [ev] at h1
      obtain ⟨kv, h3, h4⟩ := kv_ix rel h1
      exact ih i kv d' h3 h2 h4
    have z1 : (((kvs.map fun kv => kD kv.1).zip ds).map (·.1)) = (vs.map fun kv => kD kv.1) := by
      rw [kv_keys rel]
      exact List.map_fst_zip (by rw [List.length_map]; exact Nat.le_of_eq hl)
    have z2 : (((kvs.map fun kv => kD kv.1).zip ds).map (·.2)) = ds := List.map_snd_zip (by rw [List.length_map]; exact Nat.le_of_eq hl.symm)
    refine ⟨a :: [] ++ bs, Reads.dict (as := []) (bs := bs) ho hx.1 hdt (by rw [z1]; exact ek) (by rw [z2]; exact rb), ?_⟩
    intro z
    rcases List.mem_cons.mp z with e | e
    · rw [← e] at hm
      simp at hm
    · exact nb e
  | @dictT a kvs ds he hl _ ih =>
    intro u r
    cases r
    obtain ⟨_, hm, xs, rel, o, es, ep, ho, hx, hdt, hes, _, _⟩ := dt_of I.hok he
    have e0 : kvs.length = xs.length := Paired.length rel
    have ek := reads_keysT I rel
    have ekk : es.toList.map (·.key) = xs.map fun x => Value.ref x.2.1 := by
      rw [hes, List.map_map]
      rfl
    have evv : es.toList.map (·.val) = xs.map fun x => x.2.2 := by
      rw [hes, List.map_map]
      rfl
    obtain ⟨bs, rb, nb⟩ := readsAll_ix (h := s.heap) (us := es.toList.map (·.val)) (ds := ds) (by rw [evv, List.length_map, ← e0]; exact hl) fun i u' d' h1 h2 => by
      rw [evv] at h1
      obtain ⟨kv, h3, h4⟩ := kt_ix rel h1
      exact ih i kv d' h3 h2 h4
    have z1 : (((kvs.map fun kv => PyData.tuple (kv.1.map kD)).zip ds).map (·.1)) = kvs.map fun kv => PyData.tuple (kv.1.map kD) := List.map_fst_zip (by rw [List.length_map]; exact Nat.le_of_eq hl)
    have z2 : (((kvs.map fun kv => PyData.tuple (kv.1.map kD)).zip ds).map (·.2)) = ds := List.map_snd_zip (by rw [List.length_map]; exact Nat.le_of_eq hl.symm)
    refine ⟨a :: [] ++ bs, Reads.dict (as := []) (bs := bs) ho hx.1 hdt (by rw [z1, ekk]; exact ek) (by rw [z2]; exact rb), ?_⟩
    intro z
    rcases List.mem_cons.mp z with e | e
    · rw [← e] at hm
      simp at hm
    · exact nb e
def rReprS (K : PySem.W.Frag) : List V → Hp → VK → Prop := fun xs H Q =>
  ∃ a d, xs = [.ref a] ∧ DpS K H (.ref a) d ∧ d.showable = true ∧ d.depth ≤ 150 ∧ d.shown.length ≤ sizeLine ∧ Q (.str d.shown) H
theorem call_reprS {K : PySem.W.Frag} {k : Nat} (hK : X.K = K) (hS : SysD K) (hgd : X.A.guards = some []) (hr : Room k X.A) : CallR X (.builtin "repr") (rReprS K) := by
  subst hK
  intro pins s σ H xs us Q I r h
  obtain ⟨a, d, rfl, hd, hs, hdep, hsz, q⟩ := h
  obtain ⟨u, rfl, ru⟩ := vals1 r
  cases ru
  obtain ⟨as, rd, nm⟩ := hd.reads I hS (u := .ref a) rfl
  have hu := hr.un
  exact repr_of_reads' rd hs (fun _ => nm) hgd (by omega) (fun _ _ e => e) (fun h' u tk hk => ⟨.str _, H, I.kept hk, ⟨_, rfl⟩, q⟩) hsz
end
end HG

set_option maxHeartbeats 4000000
/-! HE: own errors over ValueError whose __init__ says super().__init__('..') and then self.f = f, ..: made as values. -/
namespace PySem.ErrX
open PySem PySem.W PySem.Calls PyProof.Rows PySem.HandSPX

/-- super().__init__('..') -/
abbrev supS (msg : Str) (p0 p1 p2 p3 p4 p5 : Pos) (k : Nat) : Stmt := .Expr (.Call (.Attribute (.Call (.Name "super" p0) [] [] p1) "__init__" p2) [.Constant (.str msg) k p3] [] p4) p5
/-- self.f = f -/
structure SetP where
  f : Str
  q1 : Pos
  q2 : Pos
  q3 : Pos
  q4 : Pos
abbrev setS (z : SetP) : Stmt := .Assign [.Attribute (.Name "self" z.q1) z.f z.q2] (.Name z.f z.q3) z.q4

/-- what the written part says of such a class, at C, and of its __init__, at fI -/
structure ErrT (prog : Program) (K : Frag) (C fI : Addr) (q : Str) (args : Arguments) (body : List Stmt) (scope : Scope) (fs : List Str) : Prop where
  cls : ∃ nm q N bs bm sn sub ab col dd k0 k1 k2 k3 k5, K.lookup C = some (excClassObj nm q C N bs bm true sn sub ab col dd k0 k1 k2 k3 k5 "ValueError.__new__") ∧ refsVE bm = true
  exi : excInitIn K C veTail "ValueError.__new__" = true
  sa : findIn K (.ref C) "__setattr__" = some (some (.builtin "object.__setattr__"))
  sup : ks_superIn K C C "__init__" = some (some (.builtin "ValueError.__init__"))
  sve : subIn K (.ref C) (.type "ValueError") = some true
  slf : mroIn K C (.ref C) = some true
  opq : nsIn K cStatics "thirdparty.any" = some none
  init : findIn K (.ref C) "__init__" = some (some (.ref fI))
  tyI : typeIn K (.ref fI) = some (.type "function")
  no : ∀ f ∈ fs, findIn K (.ref C) f = some none
  kC : keepIn K (.ref C) = true
  fn : ∃ (oc : Value) (od : Option Addr) (osl : Array (Option Value)) (doc pm ct : Value) (an : Option Addr) (cda cc : Addr) (ccl cl : Value) (cdd cld : Option Addr) (ccs csl : Array (Option Value)) (vs : Array Value) (file : Str) (tf : Tok),
    K.lookup fI = some ⟨oc, od, .func (ksFn "__init__" q args body scope .none .none doc pm an (.ref cda) ct cc), osl⟩ ∧
    codeIn K (.ref cda) q = true ∧ K.lookup cda = some ⟨ccl, cdd, .fields vs, ccs⟩ ∧ vs[2]? = some (.str file tf) ∧ ((prog.main.file : Str) == file) = true ∧ K.lookup cc = some ⟨cl, cld, .cell (some (.ref C)), csl⟩
  shape : ∃ (msg : Str) (p0 p1 p2 p3 p4 p5 : Pos) (k : Nat) (zs : List SetP), body = supS msg p0 p1 p2 p3 p4 p5 k :: zs.map setS ∧ zs.map SetP.f = fs ∧
    ∃ pl : Sem Bool, ∀ (L a cc : Addr) (cda : Value), eval (.Call (.Attribute (.Call (.Name "super" p0) [] [] p1) "__init__" p2) [.Constant (.str msg) k p3] [] p4) (ksEnv q scope L a cda cc) = (do
      let ov ← attributeBase (.Call (.Name "super" p0) [] [] p1) "__init__" (ksEnv q scope L a cda cc) (eval (.Call (.Name "super" p0) [] [] p1) (ksEnv q scope L a cda cc))
      standAt p2.atName
      let (f, first) ← holding [ov] (getMethod ov "__init__" pl)
      callWith p4 f first (backTo p4 (starEach [.Constant (.str msg) k p3] (ksEnv q scope L a cda cc))) [])
  ar : ∃ ar : Arg, (args.posonlyargs ++ args.args).head? = some ar ∧ ar.arg = "self"
  scK : scope.kind = .function
  scC : scope.isCoroutine = false
  scG : scope.isGenerator = false
  scS : scope.names.lookup ("super" : Str) = some .globalImplicit
  scL : scope.names.lookup ("__class__" : Str) = some .free
  scN : ∀ x ∈ scope.names, x.2 ≠ .cell
  scV : ∀ x ∈ ("self" : Str) :: fs, scope.names.lookup x = some .local
  nd : ((("self" : Str) :: fs)).Nodup ∧ (∀ x ∈ fs, (x == ("__debug__" : Str)) = false) ∧ fs.length ≤ 100
  top : (prog.main.scope.names.lookup ("super" : Str)).isSome = false

/-- an error at e that has the fields done (the last one first) -/
def ErrAt (hp : Heap) (L : Addr) (h : Heap) (e C : Addr) (done : List (Str × Value)) : Prop :=
  (done = [] ∧ ∃ t1, h.get? e = some (excObj C t1 none .none)) ∨
  (done ≠ [] ∧ ∃ t1 dx, h.get? e = some (excObj C t1 (some dx) .none) ∧ h.Ns1 dx (fun y => done.lookup y) ∧ dx ≠ L ∧ dx ≠ e ∧ hp.get? dx = none)

section
variable {prog : Program} {w : World} {A : Around} {E : Value → Shared → Prop} {K : Frag} {C fI e L : Addr} {hp : Heap} {m : Str → Option Value} {g : Array GenState} {d : Drawn} {os : OsState}
theorem K_in (X : K.In hp) {h : Heap} (F : Fr hp L h m) : K.In h := X.keeps F.keep

theorem within_lookup (done : List (Str × Value)) : Within (fun y => done.lookup y) (done.map (·.1)) := by
  intro y h
  have : ∀ l : List (Str × Value), l.lookup y ≠ none → y ∈ l.map (·.1) := by
    intro l
    induction l with
    | nil => intro h; exact absurd rfl h
    | cons p l ih =>
      intro h
      obtain ⟨a, b⟩ := p
      rw [List.lookup_cons] at h
      cases e : (y == a) with
      | true => rw [beq_iff_eq.mp e]; exact List.mem_cons_self
      | false => rw [e] at h; exact List.mem_cons_of_mem _ (ih h)
  exact this done h
theorem lookup_put (done : List (Str × Value)) (f : Str) (v : Value) : (fun y => if y = f then some v else done.lookup y) = fun y => ((f, v) :: done).lookup y := by
  funext y
  rw [List.lookup_cons]
  by_cases h : y = f
  · rw [if_pos h, beq_iff_eq.mpr h]
  · rw [if_neg h, beq_eq_false_iff_ne.mpr h]
/-- self.f = v -/
theorem set_field {f : Str} {v : Value} {done : List (Str × Value)} {h : Heap} {t : Nat} {Q : Unit → Shared → Prop} (X : K.In hp) (F : Fr hp L h m)
    (cls : ∃ nm q N bs bm sn sub ab col dd k0 k1 k2 k3 k5, K.lookup C = some (excClassObj nm q C N bs bm true sn sub ab col dd k0 k1 k2 k3 k5 "ValueError.__new__") ∧ refsVE bm = true)
    (sa : findIn K (.ref C) "__setattr__" = some (some (.builtin "object.__setattr__"))) (no : findIn K (.ref C) f = some none)
    (he : hp.get? e = none) (eL : e ≠ L) (hl : done.length ≤ 900) (at_ : ErrAt hp L h e C done)
    (hq : ∀ h' tk, Fr hp L h' m → ErrAt hp L h' e C ((f, v) :: done) → Q () ⟨h', g, d, tk, os⟩) :
    wpAny (model prog w) A (setAttr (.ref e) f v) Q E ⟨h, g, d, t, os⟩ := by
  obtain ⟨nm, q, N, bs, bm, sn, sub, ab, col, dd, k0, k1, k2, k3, k5, hC, hbm⟩ := cls
  have Xh : K.In h := X.keeps F.keep
  have hcl : clsIn K C = some { name := nm, bases := bs, mro := .ref C :: bm, ns := N, qualname := q, hasDict := true, slotNames := sn, subclasses := sub, abstract := ab, collection := col, hasDel := false } := by unfold clsIn; rw [hC] <;> rfl
  obtain ⟨oL, es, ep, hL, hr⟩ := F.ns
  have lL : L < h.objs.size := Heap.lt_size hL
  have lP : hp.objs.size ≤ h.objs.size := Nat.le_trans F.above (Nat.le_of_lt lL)
  rcases at_ with ⟨rfl, t1, ho⟩ | ⟨hne, t1, dx, ho, hns, hdL, hde, hdp⟩
  · refine set_plain Xh (ox := excObj C t1 none .none) (od := none) ⟨ho, rfl, rfl, trivial⟩ sa ?_
    refine exc_osa Xh ho hcl (show refsVE (.ref C :: bm) = true from hbm) rfl no (fun h' tk' dx k dn dne hx hn => ?_)
    refine hq h' tk' ⟨⟨oL, es, ep, k _ _ eL.symm hL, hr⟩, fun b o z => k b o (fun y => by rw [y, he] at z; cases z) (F.keep b o z), F.above⟩ (.inr ⟨(fun z => nomatch z), t1, dx, hx, ?_, ?_, dne, ?_⟩)
    · rw [← lookup_put]
      exact hn
    · exact Nat.ne_of_gt (Nat.lt_of_lt_of_le lL dn)
    · cases z : hp.get? dx with
      | none => rfl
      | some o => exact absurd (Heap.lt_size z) (Nat.not_lt.mpr (Nat.le_trans lP dn))
  · have hw := within_lookup done
    obtain ⟨oD, _, _, hoD, _, _⟩ := hns.count hw
    refine set_plain Xh (ox := excObj C t1 (some dx) .none) (od := some oD) ⟨ho, rfl, rfl, hoD⟩ sa ?_
    refine OEX.osa_old Xh ho hns hw (by rw [List.length_map]; omega) hcl (show refsVE (.ref C :: bm) = true from hbm) rfl no (fun h' tk' k hn => ?_)
    refine hq h' tk' ⟨⟨oL, es, ep, k _ _ hdL.symm hL, hr⟩, fun b o z => k b o (fun y => by rw [y, hdp] at z; cases z) (F.keep b o z), F.above⟩ (.inr ⟨(fun z => nomatch z), t1, dx, k _ _ hde.symm ho, ?_, hdL, hde, hdp⟩)
    rw [← lookup_put]
    exact hn
/-- the fields, one by one -/
theorem set_fields {q : Str} {scope : Scope} {a cc : Addr} {cda : Value} (X : K.In hp)
    (cls : ∃ nm q N bs bm sn sub ab col dd k0 k1 k2 k3 k5, K.lookup C = some (excClassObj nm q C N bs bm true sn sub ab col dd k0 k1 k2 k3 k5 "ValueError.__new__") ∧ refsVE bm = true)
    (sa : findIn K (.ref C) "__setattr__" = some (some (.builtin "object.__setattr__"))) (he : hp.get? e = none) (eL : e ≠ L) (hk : scope.kind = .function)
    (hs : scope.names.lookup ("self" : Str) = some .local) (hm : m ("self" : Str) = some (.ref e)) :
    ∀ (zs : List SetP) (us : List Value) (done : List (Str × Value)) (h : Heap) (t : Nat) (Q : Flow → Shared → Prop), Fr hp L h m → ErrAt hp L h e C done → us.length = zs.length → done.length + zs.length ≤ 900 →
      (∀ z ∈ zs, findIn K (.ref C) z.f = some none) → (∀ z ∈ zs, scope.names.lookup z.f = some .local) → (∀ z ∈ zs, (z.f == ("__debug__" : Str)) = false) → (∀ p ∈ (zs.map SetP.f).zip us, m p.1 = some p.2) →
      (∀ h' tk, Fr hp L h' m → ErrAt hp L h' e C (((zs.map SetP.f).zip us).reverse ++ done) → Q .next ⟨h', g, d, tk, os⟩) →
      wpAny (model prog w) A (execs (zs.map setS) (ksEnv q scope L a cda cc)) Q E ⟨h, g, d, t, os⟩
  | [], [], done, h, t, Q, F, at_, _, _, _, _, _, _, hq => wpAny_execs_nil (hq h t F at_)
  | z :: zs, u :: us, done, h, t, Q, F, at_, hl, hn, no, nl, nd, mv, hq => by
    rw [List.map_cons]
    refine wpAny_execs_cons (plainObj_wpAny_Assign_Attribute (wpAny_Name (wpAny_loadName_local hk (nl z List.mem_cons_self) F.ns (mv (z.f, u) List.mem_cons_self) (wpAny_Name (wpAny_loadName_local hk hs F.ns hm ?_) (by decide))) (nd z List.mem_cons_self)) rfl)
    rw [List.length_cons] at hn
    refine set_field X F cls sa (no z List.mem_cons_self) he eL (by omega) at_ fun h' tk F' at' => ?_
    refine set_fields X cls sa he eL hk hs hm zs us ((z.f, u) :: done) h' tk Q F' at' (by simpa using hl) (by rw [List.length_cons]; omega) (fun y hy => no y (List.mem_cons_of_mem _ hy)) (fun y hy => nl y (List.mem_cons_of_mem _ hy)) (fun y hy => nd y (List.mem_cons_of_mem _ hy)) (fun p hp => mv p (List.mem_cons_of_mem _ hp)) fun h'' tk' F'' at'' => hq h'' tk' F'' ?_
    rw [List.map_cons, List.zip_cons_cons, List.reverse_cons, List.append_assoc]
    exact at''
  | [], _ :: _, _, _, _, _, _, _, hl, _, _, _, _, _, _ => by cases hl
  | _ :: _, [], _, _, _, _, _, _, hl, _, _, _, _, _, _ => by cases hl

theorem map_self {fs : List Str} {us : List Value} {e : Value} (hn : ((("self" : Str) :: fs)).Nodup) (hl : us.length = fs.length) :
    (fun x => (((("self" : Str), e) :: fs.zip us).reverse.lookup x)) ("self" : Str) = some e ∧ ∀ p ∈ fs.zip us, (fun x => ((("self" : Str), e) :: fs.zip us).reverse.lookup x) p.1 = some p.2 := by
  have key : ∀ (l : List (Str × Value)), (l.map (·.1)).Nodup → ∀ p ∈ l, l.reverse.lookup p.1 = some p.2 := by
    intro l
    induction l with
    | nil => intro _ p hp; cases hp
    | cons a l ih =>
      intro hd p hp
      rw [List.map_cons, List.nodup_cons] at hd
      rw [List.reverse_cons, List.lookup_append]
      rcases List.mem_cons.mp hp with rfl | hp
      · have : l.reverse.lookup p.1 = none := by
          rw [List.lookup_eq_none_iff]
          intro q hq
          rw [List.mem_reverse] at hq
          refine bne_iff_ne.mpr fun z => hd.1 ?_
          rw [z]
          exact List.mem_map.mpr ⟨q, hq, rfl⟩
        rw [this]
        obtain ⟨x, y⟩ := p
        simp [List.lookup_cons]
      · rw [ih hd.2 p hp]
        rfl
  have em : ((("self" : Str), e) :: fs.zip us).map (·.1) = ("self" : Str) :: fs := by
    rw [List.map_cons]
    congr 1
    exact List.map_fst_zip (by omega)
  have k2 := key ((("self" : Str), e) :: fs.zip us) (by rw [em]; exact hn)
  exact ⟨k2 (("self" : Str), e) List.mem_cons_self, fun p hp => k2 p (List.mem_cons_of_mem _ hp)⟩

/-- __init__ of such a class, on a fresh error at e -/
theorem err_init {R : Result → Shared → Prop} {mg mb : Str → Option Value} {q : Str} {args : Arguments} {body : List Stmt} {scope : Scope} {fs : List Str} {us : List Value} {as : Args} {h : Heap} {t : Nat} {t0 : Addr}
    (T : ErrT prog K C fI q args body scope fs) (X : K.In hp) (hroom : A.depth < recursionLimit) (hg : hp.Ns mainGlobals mg) (hms : mg "super" = none) (hb : hp.Ns builtinsNs mb) (hbb : mb "super" = some (.type "super")) (hlim : hp.NoLimit)
    (keep : ∀ b o, hp.get? b = some o → h.get? b = some o) (hsz : hp.objs.size ≤ h.objs.size) (he : hp.get? e = none) (ho : h.get? e = some (excObj C t0 none .none)) (hu : us.length = fs.length)
    (hbd : ∀ (doc pm ct : Value) (an : Option Addr) (cda cc : Addr), bindArgs (ksFn "__init__" q args body scope .none .none doc pm an (.ref cda) ct cc) as = pure ((("self" : Str), .ref e) :: fs.zip us))
    (hq : ∀ h' tk, (∀ b o, hp.get? b = some o → h'.get? b = some o) → (∃ L, h'.objs.size > L ∧ ErrAt hp L h' e C ((fs.zip us).reverse)) → R (.ok (.ret .none)) ⟨h', g, d, tk, os⟩) :
    codeAny (model prog w) A (.call (.ref fI) as) R ⟨h, g, d, t, os⟩ := by
  obtain ⟨oc, od, osl, doc, pm, ct, an, cda, cc, ccl, cl, cdd, cld, ccs, csl, vs, file, tf, hF, hcd, hcode, hvs, hfile, hcell⟩ := T.fn
  obtain ⟨msg, p0, p1, p2, p3, p4, p5, k, zs, hbody, hzs, pl, hmc⟩ := T.shape
  obtain ⟨ar, har, hara⟩ := T.ar
  have Xh : K.In h := X.keeps keep
  have hk := T.scK
  obtain ⟨hmS, hmF⟩ := map_self (e := .ref e) T.nd.1 hu
  refine ks_codeAny_call_defAt (fd := ksFn "__init__" q args body scope .none .none doc pm an (.ref cda) ct cc) hroom (Xh _ _ hF) rfl (hlim.keeps keep) (codeRec_of Xh hcd) rfl (.of_eq (hbd doc pm ct an cda cc)) T.scN (fun x hx => ?_) (fun h₀ hns hk0 => ?_) T.scC T.scG hk
  · rcases List.mem_cons.mp hx with rfl | hx
    · exact T.scV _ List.mem_cons_self
    · exact T.scV _ (List.mem_cons_of_mem _ (List.of_mem_zip hx).1)
  generalize eL : h.objs.size = L at hns ⊢
  show wpAt _ _ (.func body (ksEnv q scope L fI (.ref cda) cc)) (execs body (ksEnv q scope L fI (.ref cda) cc)) _ _ _
  have heL : e ≠ L := by rw [← eL]; exact Nat.ne_of_lt (Heap.lt_size ho)
  have F0 : Fr hp L h₀ (fun x => ((("self" : Str), Value.ref e) :: fs.zip us).reverse.lookup x) := ⟨hns, fun b o z => hk0 b o (keep b o z), by rw [← eL]; exact hsz⟩
  have N0 : News hp L h₀ [(e, excObj C t0 none .none)] := fun p hp' => by
    rw [List.mem_singleton.mp hp']
    exact ⟨hk0 _ _ ho, heL, he⟩
  have X0 : K.In h₀ := X.keeps F0.keep
  generalize (((("self" : Str), Value.ref e) :: fs.zip us).length) = n1
  rw [hbody]
  -- super().__init__('..')
  have hint : interactive (ksEnv q scope L fI (.ref cda) cc) = false := by
    unfold interactive
    simp [hk]
  refine ks_wpAt_execs_cons (ks_wpAt_Expr_any (ks_wpAt_MethodCall ?_ (hmc _ _ _ _)) hint)
  obtain ⟨nm, qn, N', bs, bm, sn, sub, ab, col, dd, k0, k1, k2, k3, k5, hC, hbm⟩ := T.cls
  refine ks_wpAt_super_base (env := ksEnv q scope L fI (.ref cda) cc) T.scS T.scL (by decide) rfl (X0 _ _ hF) rfl har rfl (X0 _ _ hcode) rfl hvs hfile T.top ?_
  refine ks_loadName_global hk T.scS (loadGlobal_builtin (env := ksEnv q scope L fI (.ref cda) cc) (hg.keeps F0.keep) hms (hb.keeps F0.keep) hbb ⟨rfl, ?_⟩)
  refine wpAny_loadName_free hk T.scL rfl ⟨_, X0 _ _ hcell, rfl⟩ ?_
  rw [hara]
  refine wpAny_loadName_local hk (T.scV _ List.mem_cons_self) F0.ns hmS ?_
  refine ks_wpAny_isType_cls (X0 _ _ hC) rfl ⟨rfl, ?_⟩
  have I0 : W.InstAt h₀ e (excObj C t0 none .none) C none := ⟨hk0 _ _ ho, rfl, rfl, trivial⟩
  refine ks_wpAny_call_super (X0 _ _ hC) rfl I0.at_ I0.cls (fun c z => nomatch z) (looks_mroIn X0 T.slf) (fun h1 e1 k1' => ?_)
  obtain ⟨F1, N1, l1⟩ := ks_newsPush (s := ⟨h₀, g, d, t, os⟩) (o := ks_superObj C e C) F0 N0 rfl e1 k1'
  have I1 : W.InstAt h1 e (excObj C t0 none .none) C none := ⟨(N1 _ (List.mem_cons_of_mem _ List.mem_cons_self)).1, rfl, rfl, trivial⟩
  refine kxs_method kxs_ValueError F1 X N1 List.mem_cons_self I1 T.opq T.sup T.sve (by decide) (fun u h2 F2 N2 l2 => ?_)
  refine kxs_callWith1 (i := "ValueError.__init__") (x := e) N2 List.mem_cons_self ?_
  refine args_cons (wpAny_Constant_str (args_nil ⟨kxs_at N2 List.mem_cons_self, ?_⟩))
  have neSo : h₀.objs.size ≠ e := Nat.ne_of_gt (l1 _ List.mem_cons_self)
  have neU : u ≠ e := Nat.ne_of_gt (l2 _ (List.mem_cons_of_mem _ List.mem_cons_self))
  refine kxs_call (C := C) (x := e) F2 X N2 PySem.F.excBase_ValueError T.exi List.mem_cons_self (.tail neU (.tail neSo (.head (fun p hp => nomatch hp)))) (by show 1 ≤ sizeLine; decide) (fun t' h3 F3 N3 l3 => ?_)
  -- the fields
  refine wpAt_of_wpAny ?_
  have at3 : ErrAt hp L h3 e C [] := .inl ⟨rfl, t', (N3 (e, excObj C t' none .none) (by simp)).1⟩
  refine set_fields X T.cls T.sa he heL hk (T.scV _ List.mem_cons_self) hmS zs us [] h3 _ _ F3 at3 (by rw [hu, ← hzs, List.length_map]) ?_ ?_ ?_ ?_ ?_ (fun h4 tk F4 at4 => ?_)
  · have := T.nd.2.2
    rw [← hzs, List.length_map] at this
    rw [List.length_nil]
    omega
  · exact fun z hz => T.no _ (by rw [← hzs]; exact List.mem_map.mpr ⟨z, hz, rfl⟩)
  · exact fun z hz => T.scV _ (List.mem_cons_of_mem _ (by rw [← hzs]; exact List.mem_map.mpr ⟨z, hz, rfl⟩))
  · exact fun z hz => T.nd.2.1 _ (by rw [← hzs]; exact List.mem_map.mpr ⟨z, hz, rfl⟩)
  · rw [hzs]
    exact hmF
  · rw [hzs, List.append_nil] at at4
    obtain ⟨oL, _, _, hL4, _⟩ := F4.ns
    exact hq h4 tk F4.keep ⟨L, Heap.lt_size hL4, at4⟩
end
end PySem.ErrX

set_option maxHeartbeats 4000000
/-! HF: own errors called with keywords. -/
namespace PySem.ErrX
open PySem PySem.W PySem.Calls PyProof.Rows PySem.HandSPX
section
variable {M : Model} {A : Around} {E : Value → Shared → Prop} {h : Heap} {g : Array GenState} {d : Drawn} {t : Nat} {os : OsState}
variable {nm q : Str} {C N : Addr} {bs bm bmB : List Value} {hdct : Bool} {sn : List Str} {sub : List Value} {ab : Bool} {col : Option Bool} {dd : Option Addr} {k0 k1 k2 k3 k5 : Option Value} {B newId initId : String}
theorem check_newK (F : ExcBaseFacts B newId initId bmB) (hT : ∀ X : String, bm.contains (.type X) = bmB.contains (.type X)) {rest : List Value} {kw : List (Str × Value)} {Q : Unit → Shared → Prop}
    (hC : h.get? C = some (excClassObj nm q C N bs bm hdct sn sub ab col dd k0 k1 k2 k3 k5 newId)) (hq : Q () ⟨h, g, d, t, os⟩) : wpAny M A (checkBuiltinCall newId ⟨.ref C :: rest, kw⟩) Q E ⟨h, g, d, t, os⟩ := by
  have hcont : (Value.ref C :: bm).contains (.type B) = true := by rw [List.contains_cons, hT, F.hasB, Bool.or_true]
  have hstar := F.noStar
  simp only [checkBuiltinCall, F.newKind, F.newSplit, F.newRow]
  repeat (first | refine wpAny_loadPart_at hC ?_ | (refine wpAny_isSubtype_exc hC ?_; rw [hcont]) | refine wpAny_staticBase_exc hC ?_ | refine wpAny_madeBy_exc hC ?_ | simp only [bne_self_eq_false, Bool.false_eq_true, if_false] | wp_step)
  exact hq
end
section
variable {prog : Program} {w : World} {A : Around} {E : Value → Shared → Prop} {R : Result → Shared → Prop} {h : Heap} {g : Array GenState} {d : Drawn} {t : Nat} {os : OsState}
variable {nm q : Str} {C N : Addr} {bs bm bmB : List Value} {hdct : Bool} {sn : List Str} {sub : List Value} {ab : Bool} {col : Option Bool} {dd : Option Addr} {k0 k1 k2 k3 k5 : Option Value} {B newId initId : String}
theorem new_ownK (F : ExcBaseFacts B newId initId bmB) (hT : ∀ X : String, bm.contains (.type X) = bmB.contains (.type X)) {rest : List Value} {kw : List (Str × Value)}
    (hC : h.get? C = some (excClassObj nm q C N bs bm hdct sn sub ab col dd k0 k1 k2 k3 k5 newId))
    (hq : R (.ok (.ret (.ref (h.objs.size + 1)))) ⟨(h.push { cls := .type "tuple", data := .seq rest.toArray }).push
      { cls := .ref C, data := .fields #[.ref h.objs.size, .none, .none, .none, .bool false, .none] }, g, d, t, os⟩) (hrest : rest.length ≤ sizeLine) :
    codeAny (model prog w) A (.builtin newId ⟨.ref C :: rest, kw⟩) R ⟨h, g, d, t, os⟩ := by
  have hends := F.ends
  have hcB : (Value.ref C :: bm).contains (.type B) = true := by rw [List.contains_cons, hT, F.hasB, Bool.or_true]
  have hcA : (Value.ref C :: bm).contains (.type "AttributeError") = false := by rw [List.contains_cons, hT, F.noAttr]; rfl
  have hcN : (Value.ref C :: bm).contains (.type "NameError") = false := by rw [List.contains_cons, hT, F.noName]; rfl
  refine codeAny_builtinAt F.entry ?_
  unfold Builtin.«BaseException.__new__»
  refine wpAt_bind ?_
  show wpAt _ _ _ (stack >>= _) _ _ _
  refine wpAt_bind (wpAt_stack fun p below => wpAt_of_wpAny ?_)
  wp_walk
  refine wpAt_of_wpAny ?_
  rw [F.owner]
  repeat (first | with_reducible refine wpAny_madeHere_exc F.canon hC ?_ | with_reducible refine wpAny_loadPart_at hC ?_ | (with_reducible refine wpAny_isSubtype_exc hC ?_; first | rw [hcB] | rw [hcA] | rw [hcN]) | wp_step)
  show R _ _
  rw [Heap.size_push]
  exact hq
theorem type_callK (F : ExcBaseFacts B newId initId bmB) (hT : ∀ X : String, bm.contains (.type X) = bmB.contains (.type X)) {rest : List Value} {kw : List (Str × Value)} {fI : Addr} {Q : Fin → Shared → Prop}
    (hC : h.get? C = some (excClassObj nm q C N bs bm hdct sn sub ab col dd k0 k1 k2 k3 k5 newId))
    (hi : W.Looks (model prog w) h (typeLookup (.ref C) "__init__") (some (.ref fI))) (hb : ∀ self, W.Looks (model prog w) h (bindSpecial (.ref fI) self) (.ref fI, [self])) (hrest : rest.length ≤ sizeLine)
    (hq : codeAny (model prog w) A (.call (.ref fI) ⟨.ref (h.objs.size + 1) :: rest, kw⟩)
      (fun r s' => match r with | .ok (.ret v) => v = .none ∧ Q (.done (.ret (.ref (h.objs.size + 1)))) s' | .ok _ => False | .error e => E e s')
      ⟨(h.push (W.kdv_tup rest)).push (excO C h.objs.size), g, d, t, os⟩) :
    wpAny (model prog w) A (Builtin.«type.__call__» ⟨.ref C :: rest, kw⟩) Q E ⟨h, g, d, t, os⟩ := by
  repeat (first | with_reducible refine wpAny_loadPart_at hC ?_ | with_reducible refine wpAny_madeBy_exc hC ?_ | wp_step)
  refine codeAny_call_builtin_code (Code.quiet_builtin _ F.quiet) (check_newK F hT hC ?_)
  refine new_ownK F hT hC ?_ hrest
  show wpAny _ _ _ _ _ _
  have k : ∀ b o, h.get? b = some o → ((h.push (W.kdv_tup rest)).push (excO C h.objs.size)).get? b = some o := fun b o e => Heap.get?_push_of_some _ (Heap.get?_push_of_some _ e)
  have hC₁ := k _ _ hC
  have hget : ((h.push (W.kdv_tup rest)).push (excO C h.objs.size)).get? (h.objs.size + 1) = some (excO C h.objs.size) := by heap_get
  have hcC : (Value.ref C :: bm).contains (.ref C) = true := by simp
  have i1 := hi.keeps k
  have b1 := (hb (.ref (h.objs.size + 1))).keeps k
  unfold isInstance
  repeat (first | with_reducible refine wpAny_loadPart_at hget ?_ | (with_reducible refine wpAny_isSubtype_exc hC₁ ?_; rw [hcC]) | wp_step)
  show wpAny _ _ (typeLookup (.ref C) _) _ _ _
  refine i1.at ?_
  refine wpAny_holding (wpAny_bind (b1.at ?_))
  refine wpAny_bind (wpAny_call (codeAny_mono hq fun r s' z => ?_))
  rcases r with e | (v | _ | _ | _) <;> first | exact z | exact z.elim | skip
  obtain ⟨rfl, z⟩ := z
  first
    | exact wpAny_pure (wpAny_pure z)
    | (wp_walk; exact z)
theorem call_ownK (F : ExcBaseFacts B newId initId bmB) (hT : ∀ X : String, bm.contains (.type X) = bmB.contains (.type X)) {rest : List Value} {kw : List (Str × Value)} {fI : Addr}
    (hC : h.get? C = some (excClassObj nm q C N bs bm hdct sn sub ab col dd k0 k1 k2 k3 k5 newId))
    (hi : W.Looks (model prog w) h (typeLookup (.ref C) "__init__") (some (.ref fI))) (hb : ∀ self, W.Looks (model prog w) h (bindSpecial (.ref fI) self) (.ref fI, [self])) (hrest : rest.length ≤ sizeLine)
    (hq : codeAny (model prog w) (A.under (.builtin "type.__call__" ⟨.ref C :: rest, kw⟩)) (.call (.ref fI) ⟨.ref (h.objs.size + 1) :: rest, kw⟩) (W.InitBack (h.objs.size + 1) R)
      ⟨(h.push (W.kdv_tup rest)).push (excO C h.objs.size), g, d, t, os⟩) :
    codeAny (model prog w) A (.call (.ref C) ⟨rest, kw⟩) R ⟨h, g, d, t, os⟩ := by
  have f1 := tc_lookup
  have f2 := tc_bind (.ref C)
  have hTy : (⟨h, g, d, t, os⟩ : Shared).TypeIs (.ref C) "type" := ⟨_, hC, rfl⟩
  refine codeAny_of_tree ?_
  show wpAny _ _ (callAny (.ref C) _) _ _ _
  repeat (any_goals (first | assumption | with_reducible refine wpAny_loadPart_at hC ?_ | wp_step))
  refine ⟨rfl, ?_⟩
  refine codeAny_call_builtin_at (Code.quiet_builtin _ (by decide +kernel)) entry_typeCall (wpAny_check_type_call_sub hC (type_callK F hT hC hi hb hrest ?_))
  refine codeAny_mono hq fun r s' z => ?_
  unfold W.InitBack at z
  rcases r with e | (v | _ | _ | _) <;> exact z
/-- such an error made -/
theorem err_make {mg mb : Str → Option Value} {K : Frag} {fI : Addr} {qn : Str} {args : Arguments} {body : List Stmt} {scope : Scope} {fs : List Str} {us : List Value} {pos : List Value} {kw : List (Str × Value)} {Q : Value → Shared → Prop}
    (T : ErrT prog K C fI qn args body scope fs) (X : K.In h) (hr : L2.Room 1 A) (hg : h.Ns mainGlobals mg) (hms : mg "super" = none) (hb : h.Ns builtinsNs mb) (hbb : mb "super" = some (.type "super")) (hlim : h.NoLimit) (hu : us.length = fs.length) (hz : pos.length ≤ sizeLine)
    (hbd : ∀ (e : Value) (doc pm ct : Value) (an : Option Addr) (cda cc : Addr), bindArgs (ksFn "__init__" qn args body scope .none .none doc pm an (.ref cda) ct cc) ⟨e :: pos, kw⟩ = pure ((("self" : Str), e) :: fs.zip us))
    (hq : ∀ h' tk, (∀ b o, h.get? b = some o → h'.get? b = some o) → (∃ L, h'.objs.size > L ∧ ErrAt h L h' (h.objs.size + 1) C ((fs.zip us).reverse)) → Q (.ref (h.objs.size + 1)) ⟨h', g, d, tk, os⟩) :
    wpAny (model prog w) A (call (.ref C) pos kw) Q E ⟨h, g, d, t, os⟩ := by
  obtain ⟨nm, q, N, bs, bm, sn, sub, ab, col, dd, k0, k1, k2, k3, k5, hC, hbm⟩ := T.cls
  refine wpAny_call (call_ownK PySem.F.excBase_ValueError (fun Y => refsVE_contains Y bm hbm) (X _ _ hC) (looks_findIn X T.init) (fun self => bind_fn X self T.tyI) hz ?_)
  have kk : ∀ b o, h.get? b = some o → ((h.push (W.kdv_tup pos)).push (excO C h.objs.size)).get? b = some o := fun b o e => Heap.get?_push_of_some _ (Heap.get?_push_of_some _ e)
  have hget : ((h.push (W.kdv_tup pos)).push (excO C h.objs.size)).get? (h.objs.size + 1) = some (excO C h.objs.size) := by heap_get
  refine err_init (t0 := h.objs.size) T X (hr.make C pos kw).depth hg hms hb hbb hlim kk (by rw [Heap.size_push, Heap.size_push]; omega) ?_ hget hu (hbd _) (fun h' tk k at_ => ?_)
  · cases z : h.get? (h.objs.size + 1) with
    | none => rfl
    | some o => exact absurd (Heap.lt_size z) (Nat.not_lt.mpr (Nat.le_succ _))
  · exact ⟨rfl, hq h' tk k at_⟩
end
end PySem.ErrX

set_option maxHeartbeats 4000000
/-! HQ: own errors as values in the hand layer: making, isinstance, fields. -/
namespace PySem.ErrX
open PySem PySem.W PySem.Calls PyProof.Rows PySem.HandSPX
section
variable {prog : Program} {w : World} {A : Around} {E : Value → Shared → Prop} {s : Shared} {K : Frag} {x D : Addr} {ox : Obj} {od : Option Obj}
theorem findObj_dataO {C : Addr} {name : Str} {a g : Value} (hc : (clsIn K C).isSome = true) (ha : findIn K (.ref C) name = some (some a)) (hg : specialIn K a "__get__" = some (some g)) (ht : takesIn K a = some true) : findObj K C od name = some (.bind g a) := by
  obtain ⟨cd, hc⟩ := Option.isSome_iff_exists.mp hc
  unfold findObj
  rw [hc, Option.bind_some, ha, Option.bind_some]
  simp [hg, ht]
/-- x.__class__ of an error -/
theorem class_of_err {Q : Option Value → Shared → Prop} (T : L2.ExcC K D) (X : K.In s.heap) (I : InstAt s.heap x ox D od) (h : Q (some (.ref D)) { s with toks := s.toks + 1 }) : wpAny (model prog w) A (getAttr? (.ref x) "__class__") Q E s := by
  have hf : findObj K D od "__class__" = some (.bind (.builtin "getset_descriptor.__get__") (.builtin "object.__class__")) := findObj_dataO (by obtain ⟨cd, hc, _⟩ := any_some T.hd; rw [hc]; rfl) T.ha T.hn T.ht
  obtain ⟨hp, g, d, t, os⟩ := s
  have L0 := I.type (M := model prog w)
  have L1 := looks_findIn (M := model prog w) X T.hg
  have L2 := looks_findIn (M := model prog w) X T.hk
  have L3 := looks_find (M := model prog w) X I hf
  have sub : Looks (model prog w) hp (isInstance (.ref x) (.type "BaseException")) true := L0.andThen (looks_subIn X T.hs)
  have hx0 : (false && onTheHeap (Value.builtin "BaseException.__getattribute__")) = false := rfl
  have hx2 : (Value.builtin "BaseException.__getattribute__" == Value.builtin "object.__getattribute__") = false := by decide +kernel
  have hx1 : (onTheHeap (Value.ref D) && Value.builtin "BaseException.__getattribute__" == Value.builtin "object.__getattribute__") = false := by rw [hx2]; rfl
  unfold getAttr? getAttrBy? getAttrBy
  refine wpAny_bind (wpAny_mkText (wpAny_bind (wpAny_attempt (wpAny_holding (wpAny_bind (L0.at (wpAny_bind (L1.at ?_))))))))
  show wpAny _ _ (if (onTheHeap (Value.ref D) && Value.builtin "BaseException.__getattribute__" == Value.builtin "object.__getattribute__") = true then _ else _) _ _ _
  rw [hx1, if_neg Bool.false_ne_true]
  unfold getAttrByItsOwn hookBefore
  refine wpAny_bind ?_
  rw [if_pos (show onTheHeap (Value.ref D) = true from rfl)]
  refine L2.at ?_
  refine wpAny_bind (wpAny_attempt (wpAny_holding ?_))
  unfold callGetattribute
  rw [hx0, if_neg Bool.false_ne_true]
  unfold boundAndCalled
  rw [PySem.F.excAttr_ValueError.ga.bind (.ref x)]
  refine wpAny_bind (wpAny_pure ?_)
  show wpAny _ _ (call (.builtin "BaseException.__getattribute__") [.ref x, .str "__class__" t]) _ _ _
  refine wpAny_call (codeAny_call_builtin PySem.F.excAttr_ValueError.ga.plain PySem.F.entry_bexc_ga ?_)
  refine @check_slot (model prog w) _ _ ⟨hp, g, d, t + 1, os⟩ "BaseException.__getattribute__" "BaseException" "__getattribute__" (.ref x) [.str "__class__" t] [] _ (by decide +kernel) (by decide +kernel) sub (PySem.F.args_bexc_ga (.ref x) (.str "__class__" t)) ?_
  unfold Builtin.«object.__getattribute__»
  refine wpAny_bind (wpAny_of_eq (a := ((Value.ref x : Value), [Value.str "__class__" t])) (by first | rfl | (simp only [slotArgs]; rfl)) ?_)
  refine wpAny_bind (wpAny_pure (wpAny_bind (L0.at (wpAny_bind (L3.at ?_)))))
  show wpAny _ _ (holding [Value.builtin "object.__class__"] (call (.builtin "getset_descriptor.__get__") [.builtin "object.__class__", .ref x, .ref D]) >>= ret) _ _ _
  refine wpAny_bind (wpAny_holding (wpAny_call (class_get (s := ⟨hp, g, d, t + 1, os⟩) (ox := ox) (od := od) X I T.hm ?_)))
  refine wpAny_pure ?_
  show wpAny _ _ (handedOut (.ref D)) _ _ _
  rw [handedOut_of (v := .ref D) rfl]
  first
    | exact wpAny_pure (wpAny_pure h)
    | exact wpAny_pure h
    | exact wpAny_pure (wpAny_bind (wpAny_pure (wpAny_pure h)))
theorem kitx_err (T : L2.ExcC K D) : KitX K (.ref x) (.ref D) (fun h => ∃ ox od, InstAt h x ox D od) where
  ty := fun _ _ _ ⟨_, _, I⟩ => I.type
  it := fun _ _ X _ => by
    obtain ⟨cdD, hcD, _⟩ := any_some T.hd
    unfold clsIn at hcD
    split at hcD
    · rename_i c' d' cd' sl' ho
      intro A' Q' E' s' k q
      unfold isType loadHead
      exact wpAny_bind (wpAny_loadPart (k _ _ (X _ _ ho)) (wpAny_pure q))
    · cases hcD
  ne := fun h tp dd its n sl X htp => by
    obtain ⟨cdD, hcD, _⟩ := any_some T.hd
    refine Bool.eq_false_iff.mpr fun q => ?_
    have e : D = tp := Value.ref.inj (beq_iff_eq.mp q)
    subst e
    unfold clsIn at hcD
    split at hcD
    · rename_i c' d' cd' sl' ho
      have z := (X _ _ ho).symm.trans htp
      cases z
    · cases hcD
  ca := fun X ⟨_, _, I⟩ k => class_of_err T X I k
end
end PySem.ErrX

namespace HG
open PySem PySem.Spec PyProof.Rows L2 PySem.ErrX
/-- an error at a with its dict at dx; l: the fields, the last one first -/
def errH (H : Hp) (a dx C : Addr) : List (Str × V) → Hp
  | [] => upd H a (exo a C none)
  | p :: l => upd (upd H dx (exd dx (p :: l))) a (exo a C (some dx))
/-- isinstance(e, c), e such an error -/
def rIsErr (K : PySem.W.Frag) : List V → Hp → VK → Prop := fun xs H Q => ∃ (a D : Addr) (dx : Option Addr) (c : V) (u : Value) (b : Bool), xs = [.ref a, c] ∧ ClsV c u ∧ H a = some (exo a D dx) ∧ (∀ d, dx = some d → ∃ fs, H d = some (exd d fs)) ∧ ExcC K D ∧ PySem.W.kitOne K (.ref D) u = some b ∧ Q (.bl b) H
section
variable {X : Cx}
theorem call_isErr : CallR X (.builtin "isinstance") (rIsErr X.K) := by
  intro pins s σ H xs us Q I r h
  obtain ⟨a, D, dx, c, u, b, rfl, k, ha, hd, T, e, q⟩ := h
  obtain ⟨u1, u2, rfl, r1, r2⟩ := vals2 r
  cases (show u1 = Value.ref a from r1)
  have e2 := k.eq r2
  subst e2
  obtain ⟨t1, ho⟩ := exo_at I.hok ha
  have J : ∃ ox od, PySem.W.InstAt s.heap a ox D od := by
    cases dx with
    | none => exact ⟨_, none, ho, rfl, rfl, trivial⟩
    | some d =>
      obtain ⟨fs, hd⟩ := hd d rfl
      obtain ⟨mA, hns, _⟩ := exd_at I.hok hd
      obtain ⟨o, _, _, hod, _⟩ := hns
      exact ⟨_, some o, ho, rfl, rfl, hod⟩
  exact PySem.W.kia_one (kitx_err T) I.kIn J e (fun z => nomatch z) fun tk => ⟨.bl b, H, I.tok tk, rfl, q⟩
/-- e.f -/
def tErrF (K : PySem.W.Frag) (f : Str) (te : TE) : TE := fun σ H Q => te σ H fun x H1 => ∃ (a C dx : Addr) (fs : List (Str × V)) (v : V), x = .ref a ∧ H1 a = some (exo a C (some dx)) ∧ H1 dx = some (exd dx fs) ∧ XfC K C ∧ PySem.W.findIn K (.ref C) f = some none ∧ fs.lookup f = some v ∧ Q v H1
theorem pe_errF {e : Expr} {te : TE} {pos : Pos} {n : Str} (he : PE X e te) (hb : attributeBase e n X.env (eval e X.env) = eval e X.env := by rfl) : PE X (.Attribute e n pos) (tErrF X.K n te) := by
  refine ⟨fun pins s σ H Q I h => ?_⟩
  refine attr_of hb (thn (he.run pins s σ H _ I h) fun u s1 hh => ?_)
  obtain ⟨x, H1, I1, rx, a, C, dx, fs, v, ex, ea, ed, T, hno, l, q⟩ := hh
  subst ex
  obtain rfl : u = Value.ref a := rx
  obtain ⟨t1, ho⟩ := exo_at I1.hok ea
  obtain ⟨mA, hns, hr⟩ := exd_at I1.hok ed
  obtain ⟨od, hod, hl⟩ := lookIn_ns hns
  obtain ⟨u, hu, ru⟩ := RelO.some_of (v := v) (o := mA n) (by rw [← l]; exact hr n)
  have J : PySem.W.InstAt s1.heap a _ C (some od) := ⟨ho, rfl, rfl, hod⟩
  exact HandSPX.exc_get I1.kIn J T.ga T.gg T.exC (PySem.W.findObj_own T.hdC hno rfl (by rw [hl, hu])) (handed_of ru) ⟨v, H1, I1.tok _, ru, q⟩
end
end HG

set_option maxHeartbeats 4000000
/-! HR: own errors made as values: C(), C(x, ..), C(f = x, ..). -/
namespace HG
open PySem PySem.Spec PyProof.Rows L2 PySem.ErrX
theorem relO_fields : ∀ {l : List (Str × V)} {l' : List (Str × Value)}, Paired (fun (p : Str × V) (q : Str × Value) => p.1 = q.1 ∧ RelV p.2 q.2) l l' → ∀ f, RelO (l.lookup f) (l'.lookup f)
  | [], _, .nil, f => True.intro
  | p :: l, q :: l', .cons h t, f => by
    obtain ⟨a, x⟩ := p
    obtain ⟨b, y⟩ := q
    obtain ⟨h1, h2⟩ := h
    have e : a = b := h1
    subst e
    rw [List.lookup_cons, List.lookup_cons]
    cases (f == a) with
    | true => exact h2
    | false => exact relO_fields t f
theorem zip_fields : ∀ {fs : List Str} {vs : List V} {us : List Value}, Vals vs us → Paired (fun (p : Str × V) (q : Str × Value) => p.1 = q.1 ∧ RelV p.2 q.2) (fs.zip vs) (fs.zip us)
  | [], _, _, _ => by simp; exact .nil
  | f :: fs, _, _, .nil => by simp; exact .nil
  | f :: fs, _, _, .cons h t => .cons ⟨rfl, h⟩ (zip_fields t)
theorem paired_app {α β : Type} {R : α → β → Prop} : ∀ {a : List α} {b : List β} {c : List α} {d : List β}, Paired R a b → Paired R c d → Paired R (a ++ c) (b ++ d)
  | _, _, _, _, .nil, h => h
  | _, _, _, _, .cons x y, h => .cons x (paired_app y h)
theorem paired_rev {α β : Type} {R : α → β → Prop} : ∀ {a : List α} {b : List β}, Paired R a b → Paired R a.reverse b.reverse
  | _, _, .nil => .nil
  | _, _, .cons x y => by
    rw [List.reverse_cons, List.reverse_cons]
    exact paired_app (paired_rev y) (.cons x .nil)
section
variable {X : Cx} {C fI : Addr} {q : Str} {args : Arguments} {body : List Stmt} {scope : Scope} {fs : List Str}
theorem err_run {pins : List (Addr × Obj)} {σ : L2.St} {H1 : Hp} {s1 : Shared} {us : List Value} {vs : List V} {pos : List Value} {kw : List (Str × Value)} {Q : VK}
    (T : ErrT X.prog X.K C fI q args body scope fs) (hr : Room 1 X.A) (hms : X.mg "super" = none) (I1 : Inv X pins σ H1 s1) (r1 : Vals vs us) (hl : vs.length = fs.length) (hz : pos.length ≤ sizeLine)
    (hbd : ∀ (e : Value) (doc pm ct : Value) (an : Option Addr) (cda cc : Addr), bindArgs (PySem.W.ksFn "__init__" q args body scope .none .none doc pm an (.ref cda) ct cc) ⟨e :: pos, kw⟩ = pure ((("self" : Str), e) :: fs.zip us))
    (hq : ∀ a dx, H1 a = none → H1 dx = none → dx ≠ a → Q (.ref a) (errH H1 a dx C (fs.zip vs).reverse)) :
    wpAny (model X.prog X.w) X.A (call (.ref C) pos kw) (EP X pins σ Q) X.xe s1 := by
  have e0 := I1.env0
  obtain ⟨mb, hmb, hbb⟩ := e0.mod.blt
  have bk : ∀ b o, X.base.get? b = some o → s1.heap.get? b = some o := fun b o e => (e0.bs b o e).1
  obtain ⟨hp, g, dr, tk, os⟩ := s1
  refine err_make (g := g) (d := dr) (os := os) T I1.kIn hr (e0.mod.glob.keeps bk) hms (hmb.keeps bk) ((hbb _ (by decide)).trans PyProof.Rows.Boot.«super») (e0.mod.nolimit.keeps bk) (us := us) (by rw [← r1.length]; exact hl) hz hbd (fun h' tk' k hat => ?_)
  obtain ⟨L, _, at_⟩ := hat
  have ng : hp.get? (hp.objs.size + 1) = none := by
    cases z : hp.get? (hp.objs.size + 1) with
    | none => rfl
    | some o => exact absurd (Heap.lt_size z) (Nat.not_lt.mpr (Nat.le_succ _))
  have hn : H1 (hp.objs.size + 1) = none := I1.hok.gone ng
  have hrel := relO_fields (paired_rev (zip_fields (fs := fs) r1))
  rcases at_ with ⟨hnil, t1, ho⟩ | ⟨hne, t1, dx, ho, hns, _, hde, hdp⟩
  · have hv : (fs.zip vs).reverse = [] := by
      have e1 := congrArg List.length hnil
      rw [List.length_reverse, List.length_zip, ← r1.length, ← List.length_zip, List.length_nil] at e1
      rw [List.length_eq_zero_iff.mp e1]
      rfl
    have qq := hq (hp.objs.size + 1) (hp.objs.size + 2) hn (I1.hok.fresh (Nat.le_add_right _ 2)) (Nat.ne_of_gt (Nat.lt_succ_self _))
    rw [hv] at qq
    exact ⟨.ref _, _, I1.laidN (t' := tk') (o := exo (hp.objs.size + 1) C none) k ng hn (exo_ok ho), rfl, qq⟩
  · obtain ⟨G, g1, g2⟩ := restrict h' fun b => decide (b ≠ hp.objs.size + 1)
    have gk : ∀ b, b ≠ hp.objs.size + 1 → G.get? b = h'.get? b := fun b hb => g1 b (decide_eq_true hb)
    have ge : G.get? (hp.objs.size + 1) = none := g2 _ (by simp)
    have hnd : H1 dx = none := I1.hok.gone hdp
    have kG : ∀ b u, hp.get? b = some u → G.get? b = some u := fun b u z => by
      rw [gk b (fun y => by rw [y, ng] at z; cases z)]
      exact k b u z
    have kG2 : ∀ b u, G.get? b = some u → h'.get? b = some u := fun b u z => by
      by_cases hb : b = hp.objs.size + 1
      · rw [hb, ge] at z; cases z
      · rw [← gk b hb]; exact z
    have hnsG : G.Ns1 dx (fun y => (fs.zip us).reverse.lookup y) := hns.at fun o z => by rw [gk dx hde]; exact z
    have I2 := I1.laidN (t' := tk') (a := dx) (o := exd dx (fs.zip vs).reverse) kG hdp hnd (exd_ok hnsG hrel)
    have hn2 : (upd H1 dx (exd dx (fs.zip vs).reverse)) (hp.objs.size + 1) = none := by rw [upd_ne hde.symm]; exact hn
    have I3 := I2.laidN (t' := tk') (a := hp.objs.size + 1) (o := exo (hp.objs.size + 1) C (some dx)) (h' := h') kG2 ge hn2 (exo_ok ho)
    have qq := hq (hp.objs.size + 1) dx hn hnd hde
    refine ⟨.ref _, _, I3, rfl, ?_⟩
    cases e : (fs.zip vs).reverse with
    | nil =>
      exfalso
      apply hne
      have e1 := congrArg List.length e
      rw [List.length_reverse, List.length_zip, r1.length, ← List.length_zip, List.length_nil] at e1
      rw [List.length_eq_zero_iff.mp e1]
      rfl
    | cons p l =>
      rw [e] at qq
      exact qq
/-- an own error's class of the top -/
structure ErrC (P : Program) (K : PySem.W.Frag) (mg : Str → Option Value) (x : Str) (q : Str) (args : Arguments) (body : List Stmt) (scope : Scope) (fs : List Str) : Prop where
  t : ∃ fI, ErrT P K (He.ga K x) fI q args body scope fs
  gl : mg x = some (.ref (He.ga K x))
  sp : mg "super" = none
def tErr (C : Addr) (fs : List Str) (gV : List V → List V) (ta : TA) : TE := fun σ H Q => ta σ H fun vs H1 => (gV vs).length = fs.length ∧ vs.length ≤ 1000 ∧ ∀ a dx, H1 a = none → H1 dx = none → dx ≠ a → Q (.ref a) (errH H1 a dx C (fs.zip (gV vs)).reverse)
variable {x : Str} {p pos : Pos} {e : Expr} {es : List Expr} {t : TA} {kws : List Keyword}
theorem pe_err (E : ErrC X.prog X.K X.mg x q args body scope fs) (hr : Room 1 X.A) (hg : Gl X x) (ha : PA X (e :: es) t)
    (hb : ∀ (e : Value) (doc pm ct : Value) (an : Option Addr) (cda cc : Addr) (us : List Value), us.length = fs.length → bindArgs (PySem.W.ksFn "__init__" q args body scope .none .none doc pm an (.ref cda) ct cc) ⟨e :: us, []⟩ = pure ((("self" : Str), e) :: fs.zip us))
    (hdb : (x == ("__debug__" : Str)) = false := by decide) (he : starEach (e :: es) X.env = (false, eval e X.env) :: starEach es X.env := by rfl) (hpl : (backTo pos (starEach es X.env)).any (·.1) = false := by rfl) :
    PE X (.Call (.Name x p) (e :: es) [] pos) (tErr (He.ga X.K x) fs id t) := by
  obtain ⟨fI, T⟩ := E.t
  refine ⟨fun pins s σ H Q I h => ?_⟩
  refine wpAny_Call_Name_kw (ld_glob I hg E.gl ?_ hdb)
  refine PySem.W.callWith_K (h₀ := X.base) I.ok.mod.kin T.kC (thn (ha.run pos pins s σ H _ I h) fun us s1 ⟨vs, H1, I1, r1, hl, hz, q1⟩ => ⟨I1.kIn, ?_⟩) he hpl
  have hl' : us.length = fs.length := by rw [← r1.length]; exact hl
  exact err_run (vs := vs) T hr E.sp I1 r1 hl (show us.length ≤ sizeLine by rw [← r1.length]; exact Nat.le_trans hz (by decide)) (fun e doc pm ct an cda cc => hb e doc pm ct an cda cc us hl') q1
theorem pe_err0 (E : ErrC X.prog X.K X.mg x q args body scope []) (hr : Room 1 X.A) (hg : Gl X x)
    (hb : ∀ (e : Value) (doc pm ct : Value) (an : Option Addr) (cda cc : Addr), bindArgs (PySem.W.ksFn "__init__" q args body scope .none .none doc pm an (.ref cda) ct cc) ⟨[e], []⟩ = pure [(("self" : Str), e)])
    (hdb : (x == ("__debug__" : Str)) = false := by decide) :
    PE X (.Call (.Name x p) [] [] pos) (tErr (He.ga X.K x) [] id tNil) := by
  obtain ⟨fI, T⟩ := E.t
  refine ⟨fun pins s σ H Q I h => ?_⟩
  refine wpAny_Call_Name_kw (ld_glob I hg E.gl ?_ hdb)
  refine PySem.W.callWith_K0 I.kIn T.kC ?_
  obtain ⟨_, _, q1⟩ := h
  exact err_run (vs := []) T hr E.sp I .nil rfl (Nat.zero_le _) (fun e doc pm ct an cda cc => hb e doc pm ct an cda cc) q1
theorem pe_errK {ks : List Str} {g : List Value → List Value} {gV : List V → List V} (E : ErrC X.prog X.K X.mg x q args body scope fs) (hr : Room 1 X.A) (hg : Gl X x) (hkw : PK X kws t) (rel : ∀ {zs : List V} {ws : List Value}, Vals zs ws → Vals (gV zs) (g ws))
    (hb : ∀ (e : Value) (doc pm ct : Value) (an : Option Addr) (cda cc : Addr) (us : List Value), us.length = ks.length → bindArgs (PySem.W.ksFn "__init__" q args body scope .none .none doc pm an (.ref cda) ct cc) ⟨[e], ks.zip us⟩ = pure ((("self" : Str), e) :: fs.zip (g us)))
    (hkl : ∀ vs : List V, (gV vs).length = fs.length → vs.length = ks.length)
    (hall : (backToKw pos (keywordEach kws X.env)).all (·.1.isSome) = true := by rfl)
    (hks : (backToKw pos (keywordEach kws X.env)).filterMap (·.1) = ks := by rfl)
    (hdb : (x == ("__debug__" : Str)) = false := by decide)
    (hpl : ((backTo pos (starEach [] X.env)).any (·.1) || (backToKw pos (keywordEach kws X.env)).any (·.1.isNone)) = false := by rfl) :
    PE X (.Call (.Name x p) [] kws pos) (tErr (He.ga X.K x) fs gV t) := by
  obtain ⟨fI, T⟩ := E.t
  refine ⟨fun pins s σ H Q I h => ?_⟩
  refine wpAny_Call_Name_kw (ld_glob I hg E.gl ?_ hdb)
  refine PySem.W.callWith_KW0 (h₀ := X.base) I.ok.mod.kin T.kC hall (thn (hkw.run pos pins s σ H _ I h) ?_) hpl
  rintro ws s2 ⟨zs, H2, I2, rz, l2, hz, q2⟩
  rw [hks]
  refine ⟨I2.kIn, ?_⟩
  exact err_run (vs := gV zs) (us := g ws) T hr E.sp I2 (rel rz) l2 (Nat.zero_le _) (fun e doc pm ct an cda cc => hb e doc pm ct an cda cc ws (by rw [← rz.length]; exact hkl zs l2)) q2
end
end HG

set_option maxHeartbeats 4000000
/-! HS: a head's facts with own errors. -/
namespace HG
open PySem PySem.Spec PyProof.Rows L2 PySem.ErrX
abbrev ErrD : Type := Option (Str × Arguments × List Stmt × Scope)
def cellB (K : PySem.W.Frag) (cc C : Addr) : Bool := match K.lookup cc with
  | some ⟨_, _, .cell (some (.ref D)), _⟩ => D == C
  | _ => false
def fileB (K : PySem.W.Frag) (cda : Addr) (file : Str) : Bool := match K.lookup cda with
  | some ⟨_, _, .fields vs, _⟩ => (match (vs[2]? : Option Value) with | some (Value.str f _) => f == file | _ => false)
  | _ => false
/-- __init__ of the class x, as it is written -/
def errD (file : Str) (K : PySem.W.Frag) (x : Str) : ErrD := match PySem.W.findIn K (.ref (He.ga K x)) "__init__" with
  | some (some (.ref f)) => (match K.lookup f with
    | some ⟨_, _, .func ⟨n, q, a, .stmts b, sc, gl, [(c, cc)], .none, .none, _, _, _, .ref cda, _, bl⟩, _⟩ =>
      if (n == ("__init__" : Str) && (c == ("__class__" : Str) && (gl == mainGlobals && (bl == builtinsNs && (PySem.W.codeIn K (.ref cda) q && (cellB K cc (He.ga K x) && (fileB K cda file && decide (PySem.W.typeIn K (.ref f) = some (.type "function"))))))))) = true then some (q, a, b, sc) else none
    | _ => none)
  | _ => none
def clsEB (K : PySem.W.Frag) (C : Addr) : Bool := match K.lookup C with
  | some ⟨.type t, _, .cls cd, sl⟩ => (match cd.mro, sl.toList with
    | .ref C' :: bm, [_, _, _, _, some (.builtin n), _] => t == "type" && (C' == C && (n == "ValueError.__new__" && (!cd.hasDel && (PySem.HandSPX.refsVE bm && cd.hasDict))))
    | _, _ => false)
  | _ => false
theorem clsEB_ok {K : PySem.W.Frag} {C : Addr} (h : clsEB K C = true) : ∃ nm q N bs bm sn sub ab col dd k0 k1 k2 k3 k5, K.lookup C = some (excClassObj nm q C N bs bm true sn sub ab col dd k0 k1 k2 k3 k5 "ValueError.__new__") ∧ PySem.HandSPX.refsVE bm = true := by
  unfold clsEB at h
  split at h
  · rename_i t dd cd sl hl
    split at h
    · rename_i C' bm a0 a1 a2 a3 n a5 hm hsl
      simp only [Bool.and_eq_true, beq_iff_eq, Bool.not_eq_true'] at h
      obtain ⟨h0, h1, h2, h3, h4, h5⟩ := h
      subst h0 h1 h2
      obtain ⟨nm, bs, mro, ns, qn, hd, sn, sub, ab, col, del⟩ := cd
      dsimp only at hm h3 h5
      subst hm h3 h5
      have es : sl = #[a0, a1, a2, a3, some (.builtin "ValueError.__new__"), a5] := by
        rw [← Array.toList_inj, hsl]
      subst es
      exact ⟨nm, qn, ns, bs, bm, sn, sub, ab, col, dd, a0, a1, a2, a3, a5, hl, h4⟩
    · cases h
  · cases h
def excB (K : PySem.W.Frag) (C : Addr) : Bool :=
  decide (PySem.W.findIn K (.ref C) "__class__" = some (some (.builtin "object.__class__"))) && (decide (PySem.W.specialIn K (.builtin "object.__class__") "__get__" = some (some (.builtin "getset_descriptor.__get__"))) &&
    (decide (PySem.W.takesIn K (.builtin "object.__class__") = some true) && decide (PySem.W.mroIn K C (.type "object") = some true)))
def errB (K : PySem.W.Frag) (x : Str) (fs : List Str) : Bool :=
  clsEB K (He.ga K x) && (PySem.W.excInitIn K (He.ga K x) PySem.HandSPX.veTail "ValueError.__new__" && (decide (PySem.W.findIn K (.ref (He.ga K x)) "__setattr__" = some (some (.builtin "object.__setattr__"))) &&
    (decide (PySem.W.ks_superIn K (He.ga K x) (He.ga K x) "__init__" = some (some (.builtin "ValueError.__init__"))) && (decide (PySem.W.subIn K (.ref (He.ga K x)) (.type "ValueError") = some true) && (decide (PySem.W.mroIn K (He.ga K x) (.ref (He.ga K x)) = some true) &&
      (decide (PySem.W.nsIn K cStatics "thirdparty.any" = some none) && (fs.all (fun f => decide (PySem.W.findIn K (.ref (He.ga K x)) f = some none)) && (PySem.W.keepIn K (.ref (He.ga K x)) && (xfB K (He.ga K x) && (excB K (He.ga K x) &&
        decide (PySem.W.typeIn K (.ref (He.ga K x)) = some (.type "type"))))))))))))
/-- all that is known of such a class -/
structure ErrX (K : PySem.W.Frag) (x : Str) (fs : List Str) : Prop where
  xf : XfC K (He.ga K x)
  ex : ExcC K (He.ga K x)
  ty : PySem.W.typeIn K (.ref (He.ga K x)) = some (.type "type")
  no : ∀ f ∈ fs, PySem.W.findIn K (.ref (He.ga K x)) f = some none
theorem errX_of {K : PySem.W.Frag} {x : Str} {fs : List Str} (h : errB K x fs = true) : ErrX K x fs := by
  unfold errB at h
  simp only [Bool.and_eq_true] at h
  obtain ⟨h1, h2, h3, h4, h5, h6, h7, h8, h9, h10, h11, h12⟩ := h
  have xf := xfB_ok h10
  unfold excB at h11
  simp only [Bool.and_eq_true] at h11
  obtain ⟨a, b, c, d⟩ := h11
  exact ⟨xf, ⟨xf.ga, xf.gg, xf.exC, xf.hdC, of_decide_eq_true a, of_decide_eq_true b, of_decide_eq_true c, of_decide_eq_true d⟩, of_decide_eq_true h12, fun f hf => of_decide_eq_true (List.all_eq_true.mp h8 f hf)⟩
/-- what is asked of the program -/
structure PrgOk (file : Str) (P : Program) : Prop where
  file : ((P.main.file : Str) == file) = true
  top : (P.main.scope.names.lookup ("super" : Str)).isSome = false
theorem errC_mk {P : Program} {file : Str} {K : PySem.W.Frag} {mg : Str → Option Value} {x q : Str} {a : Arguments} {b : List Stmt} {sc : Scope} {fs : List Str} (hP : PrgOk file P) (hd : errD file K x = some (q, a, b, sc)) (hb : errB K x fs = true)
    (gl : mg x = some (.ref (He.ga K x))) (sp : mg "super" = none)
    (shape : ∃ (msg : Str) (p0 p1 p2 p3 p4 p5 : Pos) (k : Nat) (zs : List SetP), b = supS msg p0 p1 p2 p3 p4 p5 k :: zs.map setS ∧ zs.map SetP.f = fs ∧
      ∃ pl : Sem Bool, ∀ (L a cc : Addr) (cda : Value), eval (.Call (.Attribute (.Call (.Name "super" p0) [] [] p1) "__init__" p2) [.Constant (.str msg) k p3] [] p4) (PySem.W.ksEnv q sc L a cda cc) = (do
        let ov ← attributeBase (.Call (.Name "super" p0) [] [] p1) "__init__" (PySem.W.ksEnv q sc L a cda cc) (eval (.Call (.Name "super" p0) [] [] p1) (PySem.W.ksEnv q sc L a cda cc))
        standAt p2.atName
        let (f, first) ← holding [ov] (getMethod ov "__init__" pl)
        callWith p4 f first (backTo p4 (starEach [.Constant (.str msg) k p3] (PySem.W.ksEnv q sc L a cda cc))) []))
    (ar : ∃ ar : Arg, (a.posonlyargs ++ a.args).head? = some ar ∧ ar.arg = "self")
    (scK : sc.kind = .function) (scC : sc.isCoroutine = false) (scG : sc.isGenerator = false) (scS : sc.names.lookup ("super" : Str) = some .globalImplicit) (scL : sc.names.lookup ("__class__" : Str) = some .free) (scN : ∀ x ∈ sc.names, x.2 ≠ .cell)
    (scV : ∀ x ∈ ("self" : Str) :: fs, sc.names.lookup x = some .local) (nd : ((("self" : Str) :: fs)).Nodup ∧ (∀ x ∈ fs, (x == ("__debug__" : Str)) = false) ∧ fs.length ≤ 100) : ErrC P K mg x q a b sc fs := by
  unfold errB at hb
  simp only [Bool.and_eq_true] at hb
  obtain ⟨h1, h2, h3, h4, h5, h6, h7, h8, h9, h10, h11, h12⟩ := hb
  unfold errD at hd
  split at hd
  · rename_i f hf
    split at hd
    · rename_i oc od n q' a' b' sc' gl' c cc doc pm an cda ct bl osl hF
      split at hd
      · rename_i hc
        simp only [Bool.and_eq_true] at hc
        obtain ⟨c1, c2, c3, c4, c5, c6, c7, c8⟩ := hc
        obtain ⟨rfl, rfl, rfl, rfl⟩ : q' = q ∧ a' = a ∧ b' = b ∧ sc' = sc := by
          have e := Option.some.inj hd
          obtain ⟨e1, e⟩ := Prod.mk.inj e
          obtain ⟨e2, e⟩ := Prod.mk.inj e
          obtain ⟨e3, e4⟩ := Prod.mk.inj e
          exact ⟨e1, e2, e3, e4⟩
        have d1 := beq_iff_eq.mp c1
        have d2 := beq_iff_eq.mp c2
        have d3 := beq_iff_eq.mp c3
        have d4 := beq_iff_eq.mp c4
        subst d1 d2 d3 d4
        refine ⟨⟨f, ⟨clsEB_ok h1, h2, of_decide_eq_true h3, of_decide_eq_true h4, of_decide_eq_true h5, of_decide_eq_true h6, of_decide_eq_true h7, hf, of_decide_eq_true c8, fun g hg => of_decide_eq_true (List.all_eq_true.mp h8 g hg), h9, ?_, shape, ar, scK, scC, scG, scS, scL, scN, scV, nd, hP.top⟩⟩, gl, sp⟩
        unfold cellB at c6
        split at c6
        · rename_i cl cld D csl hcell
          have eD := beq_iff_eq.mp c6
          subst eD
          unfold fileB at c7
          split at c7
          · rename_i ccl cdd vs ccs hcode
            split at c7
            · rename_i fl tf hvs
              have ef := beq_iff_eq.mp c7
              subst ef
              exact ⟨oc, od, osl, doc, pm, ct, an, cda, cc, ccl, cl, cdd, cld, ccs, csl, vs, fl, tf, hF, c5, hcode, hvs, hP.file, hcell⟩
            · cases c7
          · cases c7
        · cases c6
      · cases hd
    · cases hd
  · cases hd
/-! ### the Hook -/
abbrev AlE : Type := AlB × List ErrD
def obsE (file : Str) (fa : List He.Fa) (fn : List He.DefD) (ts : List He.Tab) (bx : PySem.W.Frag → Bool) (es : List Str) (K : PySem.W.Frag) : AlE := (obsB fa fn ts bx K, es.map (errD file K))
def obsEG (n : Nat) (file : Str) (fa : List He.Fa) (fn : List He.DefD) (ts : List He.Tab) (bx : PySem.W.Frag → Bool) (es : List Str) (g : Addr → Option Obj) : AlE := obsE file fa fn ts bx es (He.frG g (cStatics :: He.asD g n))
structure SaysE (file : Str) (fa : List He.Fa) (fn : List He.DefD) (ts : List He.Tab) (bx : PySem.W.Frag → Bool) (es : List Str) (ev : List ErrD) (w : World) (K : PySem.W.Frag) : Prop where
  q : obsE file fa fn ts bx es K = ((He.valT fn ts w, true), ev)
def hookE (n : Nat) (file : Str) (fa : List He.Fa) (fn : List He.DefD) (ts : List He.Tab) (bx : PySem.W.Frag → Bool) (es : List Str) (ev : List ErrD) : PySem.W.Hook where
  α := AlE
  obs := fun s => obsEG n file fa fn ts bx es s.heap.get?
  val := fun w => ((He.valT fn ts w, true), ev)
  says := fun w h => ∃ K : PySem.W.Frag, K.In h ∧ SaysE file fa fn ts bx es ev w K
  of := fun _ _ e => ⟨_, He.frG_in, ⟨e⟩⟩
  keeps := fun _ _ _ ⟨K, hK, c⟩ k => ⟨K, PySem.W.Frag.In.keeps hK k, c⟩
theorem obsEG_eq {n : Nat} {file : Str} {fa : List He.Fa} {fn : List He.DefD} {ts : List He.Tab} {bx : PySem.W.Frag → Bool} {es : List Str} {ev : List ErrD} {g : Addr → Option Obj} {s : Shared} (h : ∀ a, g a = s.heap.get? a) :
    obsEG n file fa fn ts bx es g = (hookE n file fa fn ts bx es ev).obs s := by
  have e : g = s.heap.get? := funext h
  rw [e]
  rfl
section
variable {file : Str} {fa : List He.Fa} {fn : List He.DefD} {ts : List He.Tab} {bx : PySem.W.Frag → Bool} {es : List Str} {ev : List ErrD} {w : World} {K : PySem.W.Frag}
theorem SaysE.s (c : SaysE file fa fn ts bx es ev w K) : SaysB fa fn ts bx w K := congrArg (fun z : AlE => z.1) c.q
theorem SaysE.e (c : SaysE file fa fn ts bx es ev w K) (i : Nat) {x : Str} {d : ErrD} (h1 : es[i]? = some x) (h2 : ev[i]? = some d) : errD file K x = d := by
  have h : es.map (errD file K) = ev := congrArg (fun z : AlE => z.2) c.q
  rw [← h, List.getElem?_map, h1] at h2
  exact Option.some.inj h2
end
end HG

set_option maxHeartbeats 4000000
/-! HSel: the head's look at a part of the heap only: what named globals reach (a text of many defs that are not walked). -/
namespace HG
open PySem PySem.Spec PyProof.Rows L2
/-- one more round of what objects name, the module's names left out -/
def selN (g : Addr → Option Obj) : Nat → List Addr → List Addr
  | 0, _ => []
  | n + 1, as => as ++ selN g n ((as.flatMap fun a => match g a with
    | some o => He.refsD o
    | none => []).filter fun a => !(a == mainGlobals)).eraseDups
def selD (g : Addr → Option Obj) (pk : List Str) (n : Nat) : List Addr := mainGlobals :: selN g n (pk.map fun x => He.ga (He.frG g [mainGlobals]) x)
def obsEP (pk : List Str) (n : Nat) (file : Str) (fa : List He.Fa) (fn : List He.DefD) (ts : List He.Tab) (bx : PySem.W.Frag → Bool) (es : List Str) (g : Addr → Option Obj) : AlE := obsE file fa fn ts bx es (He.frG g (cStatics :: selD g pk n))
def hookEP (pk : List Str) (n : Nat) (file : Str) (fa : List He.Fa) (fn : List He.DefD) (ts : List He.Tab) (bx : PySem.W.Frag → Bool) (es : List Str) (ev : List ErrD) : PySem.W.Hook where
  α := AlE
  obs := fun s => obsEP pk n file fa fn ts bx es s.heap.get?
  val := fun w => ((He.valT fn ts w, true), ev)
  says := fun w h => ∃ K : PySem.W.Frag, K.In h ∧ SaysE file fa fn ts bx es ev w K
  of := fun _ _ e => ⟨_, He.frG_in, ⟨e⟩⟩
  keeps := fun _ _ _ ⟨K, hK, c⟩ k => ⟨K, PySem.W.Frag.In.keeps hK k, c⟩
theorem obsEP_eq {pk : List Str} {n : Nat} {file : Str} {fa : List He.Fa} {fn : List He.DefD} {ts : List He.Tab} {bx : PySem.W.Frag → Bool} {es : List Str} {ev : List ErrD} {g : Addr → Option Obj} {s : Shared} (h : ∀ a, g a = s.heap.get? a) :
    obsEP pk n file fa fn ts bx es g = (hookEP pk n file fa fn ts bx es ev).obs s := by
  have e : g = s.heap.get? := funext h
  rw [e]
  rfl
end HG

set_option maxHeartbeats 4000000
/-! HSel2: as HSel, and sys.modules is looked at, too. -/
namespace HG
open PySem PySem.Spec PyProof.Rows L2
def obsES (pk : List Str) (n : Nat) (file : Str) (fa : List He.Fa) (fn : List He.DefD) (ts : List He.Tab) (bx : PySem.W.Frag → Bool) (es : List Str) (g : Addr → Option Obj) : AlE := obsE file fa fn ts bx es (He.frG g (sysModules :: cStatics :: selD g pk n))
def hookES (pk : List Str) (n : Nat) (file : Str) (fa : List He.Fa) (fn : List He.DefD) (ts : List He.Tab) (bx : PySem.W.Frag → Bool) (es : List Str) (ev : List ErrD) : PySem.W.Hook where
  α := AlE
  obs := fun s => obsES pk n file fa fn ts bx es s.heap.get?
  val := fun w => ((He.valT fn ts w, true), ev)
  says := fun w h => ∃ K : PySem.W.Frag, K.In h ∧ SaysE file fa fn ts bx es ev w K
  of := fun _ _ e => ⟨_, He.frG_in, ⟨e⟩⟩
  keeps := fun _ _ _ ⟨K, hK, c⟩ k => ⟨K, PySem.W.Frag.In.keeps hK k, c⟩
theorem obsES_eq {pk : List Str} {n : Nat} {file : Str} {fa : List He.Fa} {fn : List He.DefD} {ts : List He.Tab} {bx : PySem.W.Frag → Bool} {es : List Str} {ev : List ErrD} {g : Addr → Option Obj} {s : Shared} (h : ∀ a, g a = s.heap.get? a) :
    obsES pk n file fa fn ts bx es g = (hookES pk n file fa fn ts bx es ev).obs s := by
  have e : g = s.heap.get? := funext h
  rw [e]
  rfl
end HG

set_option maxHeartbeats 0
namespace K48
open PySem PySem.Spec PyProof.Rows L2 HG
def top (i : Nat) : Stmt := PySem.Challenge.pw_wholeapart_k48_stores_that_nobody_reads.main.body.getD i (.Pass ⟨0, 0, 0, 0⟩)
def dd (x : Str) (i : Nat) : He.DefD := ⟨(x, none), x, x, defArgs (top i), defBody (top i), defScope (top i), [], []⟩
def dm (C m q : Str) (i j : Nat) : He.DefD := ⟨(C, some m), m, q, defArgs (inClass (top i) j), defBody (inClass (top i) j), defScope (inClass (top i) j), [], []⟩
def fn : List He.DefD := [dd "size_of" 34, dd "is_integer" 39, dd "is_word" 40, dd "answer_fits" 55, dd "known_answer" 56, dd "is_within" 58, dd "is_needless" 67, dd "without_stores" 68, dd "is_rewrite" 136, dd "changed_by" 137, ⟨("rewritten", none), "rewritten", "rewritten", defArgs (top 138), defBody (top 138), defScope (top 138), [.non, .non], []⟩, dd "_law_deck" 140, dd "_law_draw" 141, dd "_law_pick" 142, dd "_law_names" 143, dd "_law_world" 144, dd "_law_word" 145, dd "_law_operand" 146, dd "_law_first" 147, dd "_law_other_row" 148, dd "_law_row" 149, dd "_law_end" 150, dd "_law_graph" 151, dd "_law_more_stores" 152, dd "_law_facts" 153, dd "_law_goes" 154, dd "_law_due" 155, dd "_law_same" 156, ⟨("_law_told", none), "_law_told", "_law_told", defArgs (top 157), defBody (top 157), defScope (top 157), [.non], []⟩, dd "_law_right" 158, dd "law" 159]
def fa : List He.Fa := [.int "GREATEST_WORD" (65535), .int "UNKNOWN" (-1), .int "MOST_INSTRUCTIONS" (2000), .free "ValueError", .free "all", .free "bool", .free "dict", .free "enumerate", .free "int", .free "isinstance", .free "len", .free "list", .free "max", .free "min", .free "range", .free "repr", .free "set", .free "sorted", .free "str", .free "sum", .free "super", .free "tuple", .free "zip", .glo "size_of", .glo "is_integer", .glo "is_word", .glo "answer_fits", .glo "known_answer", .glo "is_within", .glo "is_needless", .glo "without_stores", .glo "is_rewrite", .glo "changed_by", .glo "rewritten", .glo "_law_deck", .glo "_law_draw", .glo "_law_pick", .glo "_law_names", .glo "_law_world", .glo "_law_word", .glo "_law_operand", .glo "_law_first", .glo "_law_other_row", .glo "_law_row", .glo "_law_end", .glo "_law_graph", .glo "_law_more_stores", .glo "_law_facts", .glo "_law_goes", .glo "_law_due", .glo "_law_same", .glo "_law_told", .glo "_law_right", .glo "law", .glo "YES_OR_NO", .glo "NAME_TUPLES", .glo "WORD_OR_NONE", .glo "PARTS", .glo "InvalidRewrite", .glo "WholeError", .glo "Conflict", .glo "Disagreement", .glo "Incompatible", .glo "InvalidCommand", .glo "InvalidModule", .glo "InvalidObject", .glo "InvalidText", .glo "Missing", .glo "NoEntry", .glo "NoImage", .glo "Outdated", .glo "Rejected", .glo "Stale", .glo "Undefined", .glo "UnknownModule"]
def ts : List He.Tab := [(fun K => He.ga K "PARTS", ["inline", "devirtualize", "fold", "propagate", "eliminate", "drop_stores", "tidy", "drop_arguments", "drop_result"])]
def bx (K : PySem.W.Frag) : Bool := tupB K "YES_OR_NO" [.str "live", .str "taken", .str "prints", .str "traps", .str "ends", .str "pure", .str "recursive", .str "unread", .str "unused", .str "pure_by"] && (tupB K "NAME_TUPLES" [.str "targets", .str "writes", .str "writes_by", .str "importable"] && (tupB K "WORD_OR_NONE" [.str "result", .str "argument"] && (He.valsB K (He.ga K "PARTS") [("inline", .int 3), ("devirtualize", .int 3), ("fold", .int 2), ("propagate", .int 2), ("eliminate", .int 2), ("drop_stores", .int 2), ("tidy", .int 1), ("drop_arguments", .int 1), ("drop_result", .int 1)] && (decide (PySem.W.exmOne K (.ref (He.ga K "InvalidRewrite")) (.ref (He.ga K "WholeError")) = some true) && (decide (PySem.W.kitOne K (.ref (He.ga K "InvalidRewrite")) (.ref (He.ga K "InvalidRewrite")) = some true) && (decide (PySem.W.kitOne K (.ref (He.ga K "InvalidRewrite")) (.type "ValueError") = some true) && (decide (PySem.W.kitAny K (.ref (He.ga K "InvalidRewrite")) [.ref (He.ga K "Conflict"), .ref (He.ga K "Disagreement"), .ref (He.ga K "Incompatible"), .ref (He.ga K "InvalidCommand"), .ref (He.ga K "InvalidModule"), .ref (He.ga K "InvalidObject")] = some false) && (decide (PySem.W.kitAny K (.ref (He.ga K "InvalidRewrite")) [.ref (He.ga K "InvalidText"), .ref (He.ga K "Missing"), .ref (He.ga K "NoEntry"), .ref (He.ga K "NoImage"), .ref (He.ga K "Outdated"), .ref (He.ga K "Rejected"), .ref (He.ga K "Stale"), .ref (He.ga K "Undefined"), .ref (He.ga K "UnknownModule")] = some false) && (sysB K && (errB K "InvalidRewrite" [] && (true)))))))))))
abbrev R : PySem.W.OpenRow := PySem.W.OpenLaw.row PySem.Challenge.rw_wholeapart_k48_stores_that_nobody_reads
abbrev s_InvalidRewrite___init__ : Stmt := inClass (top 8) 0
abbrev file : Str := PySem.Challenge.pw_wholeapart_k48_stores_that_nobody_reads.main.file
def es : List Str := ["InvalidRewrite"]
def ev : List ErrD := [some ("InvalidRewrite.__init__", defArgs s_InvalidRewrite___init__, defBody s_InvalidRewrite___init__, defScope s_InvalidRewrite___init__)]
def pk : List Str := (["size_of", "is_integer", "is_word", "answer_fits", "known_answer", "is_within", "is_needless", "without_stores", "is_rewrite", "changed_by", "rewritten", "_law_deck", "_law_draw", "_law_pick", "_law_names", "_law_world", "_law_word", "_law_operand", "_law_first", "_law_other_row", "_law_row", "_law_end", "_law_graph", "_law_more_stores", "_law_facts", "_law_goes", "_law_due", "_law_same", "_law_told", "_law_right"] : List Str) ++ (["law", "YES_OR_NO", "NAME_TUPLES", "WORD_OR_NONE", "PARTS", "InvalidRewrite", "WholeError", "Conflict", "Disagreement", "Incompatible", "InvalidCommand", "InvalidModule", "InvalidObject", "InvalidText", "Missing", "NoEntry", "NoImage", "Outdated", "Rejected", "Stale", "Undefined", "UnknownModule"] : List Str)
abbrev hk : PySem.W.Hook := hookES pk 4 file fa fn ts bx es ev
def ob (s : PySem.W.SharedT) : AlE := obsES pk 4 file fa fn ts bx es (HandSHeadRun.getT s)
theorem ob_eq (s : PySem.W.SharedT) : ob s = hk.obs s.abs := obsES_eq (HandSHeadRun.getT_eq s)
def loose : List Str := (["WholeError", "InvalidText", "InvalidModule", "Undefined", "Incompatible", "Conflict", "NoEntry", "InvalidRewrite", "InvalidObject", "Outdated", "Stale", "Rejected", "Missing", "Disagreement", "UnknownModule", "InvalidCommand", "NoImage", "SETTERS", "WORDS", "computed", "set_by", "operands_of", "with_operands", "with_set", "operands_of_end", "end_with_operands", "targets", "retargeted", "used_variables", "variables_of"] : List Str) ++ (["variable_count", "reachable", "size_of", "LETTERS", "LONGEST_NAME", "GREATEST_WORD", "is_integer", "is_word", "is_name", "YES_OR_NO", "NAME_TUPLES", "WORD_OR_NONE", "UNKNOWN", "is_full_name", "is_function_value", "is_value", "is_array_content", "is_ascending", "is_ascending_questions", "is_name_tuple", "is_signature", "answer_fits", "known_answer", "is_within", "is_harmless", "used_before", "used_at_end", "without_unused", "are_claims", "are_claims_eliminating"] : List Str) ++ (["eliminated", "is_needless", "without_stores", "with_kept_arguments", "without_arguments", "without_results", "PLAIN", "CALLS", "PAIR_PARTS", "known_fact", "value_of", "word_of", "with_word", "function_called", "loaded", "read_item", "result_of", "written", "without_globals", "with_value", "known_after", "known_at_end", "ways_on", "known_at_entry", "is_key", "are_pairs", "are_claims", "are_claims_folding", "are_known", "do_hold"] : List Str) ++ (["do_hold_folding", "folded_call", "folded_instruction", "folded_block", "folded", "is_number_below", "instruction_at", "set_to", "moved_operand", "moved_instruction", "moved_block", "inlined", "devirtualized", "LEAST_CLASS", "Classes", "classes_at_end", "is_ascending", "is_ascending_propagating", "is_class", "are_classes", "do_hold", "do_hold_propagating", "propagated_block", "propagated", "renumbered", "is_passage", "lasts_of", "shortened", "lead_counts", "follower"] : List Str) ++ (["appended", "preorder", "tidied", "MOST_INSTRUCTIONS", "PARTS", "is_rewrite", "changed_by", "rewritten", "_law_deck", "_law_draw", "_law_pick", "_law_names", "_law_world", "_law_word", "_law_operand", "_law_first", "_law_other_row", "_law_row", "_law_end", "_law_graph", "_law_more_stores", "_law_facts", "_law_goes", "_law_due", "_law_same", "_law_told", "_law_right"] : List Str)
theorem split_eq {α β γ δ : Type _} {o : Option α} {f : α → β} {g : α → γ} {h : α → δ} {b : β} {c : γ} {d : δ} (e1 : (o.map fun s => (f s, g s)) = some (b, c)) (e2 : o.map h = some d) : (o.map fun s => (f s, g s, h s)) = some (b, c, d) := by
  cases o with
  | none => cases e1
  | some s =>
    simp only [Option.map_some, Option.some.injEq, Prod.mk.injEq] at e1 e2 ⊢
    exact ⟨e1.1, e1.2, e2⟩
open PySem.W HandSHeadRun in
theorem runFa (w : World) : ∀ os, ((HandSHeadRun.endF (HandSHeadRun.stepQ (HandSHeadRun.denQ HandSHeadRun.tabQ) R.prog (w.withFollow "special-get-raises" false)) 9000 R.prog (w.withFollow "special-get-raises" false) os).map fun s => (HandSHeadRun.looksF R.prog (boot_heap (w.withFollow "special-get-raises" false).params) s.abs, HandSHeadRun.seenQ (PySem.W.view R.prog [159]) loose (importedModules R.prog.main.body) (fun s => PySem.W.xlAt (PySem.W.view R.prog [159]) [] s && PySem.W.recOk R.toRowW.records s) s.abs)) = some (true, PySem.W.openGood (PySem.W.view R.prog [159]) loose) := by
  intro os
  kernel_rfl
open PySem.W HandSHeadRun in
theorem runFb (w : World) : ∀ os, (HandSHeadRun.endF (HandSHeadRun.stepQ (HandSHeadRun.denQ HandSHeadRun.tabQ) R.prog (w.withFollow "special-get-raises" false)) 9000 R.prog (w.withFollow "special-get-raises" false) os).map ob = some (hk.val (w.withFollow "special-get-raises" false)) := by
  intro os
  kernel_rfl
theorem runF (w : World) : HandSHeadRun.RunEq R (PySem.W.view R.prog [159]) hk ob 9000 loose (w.withFollow "special-get-raises" false) := fun os => split_eq (runFa w os) (runFb w os)
open PySem.W HandSHeadRun in
theorem runTa (w : World) : ∀ os, ((HandSHeadRun.endF (HandSHeadRun.stepQ (HandSHeadRun.denQ HandSHeadRun.tabQ) R.prog (w.withFollow "special-get-raises" true)) 9000 R.prog (w.withFollow "special-get-raises" true) os).map fun s => (HandSHeadRun.looksF R.prog (boot_heap (w.withFollow "special-get-raises" true).params) s.abs, HandSHeadRun.seenQ (PySem.W.view R.prog [159]) loose (importedModules R.prog.main.body) (fun s => PySem.W.xlAt (PySem.W.view R.prog [159]) [] s && PySem.W.recOk R.toRowW.records s) s.abs)) = some (true, PySem.W.openGood (PySem.W.view R.prog [159]) loose) := by
  intro os
  kernel_rfl
open PySem.W HandSHeadRun in
theorem runTb (w : World) : ∀ os, (HandSHeadRun.endF (HandSHeadRun.stepQ (HandSHeadRun.denQ HandSHeadRun.tabQ) R.prog (w.withFollow "special-get-raises" true)) 9000 R.prog (w.withFollow "special-get-raises" true) os).map ob = some (hk.val (w.withFollow "special-get-raises" true)) := by
  intro os
  kernel_rfl
theorem runT (w : World) : HandSHeadRun.RunEq R (PySem.W.view R.prog [159]) hk ob 9000 loose (w.withFollow "special-get-raises" true) := fun os => split_eq (runTa w os) (runTb w os)
theorem run (w : World) : HandSHeadRun.RunEq R (PySem.W.view R.prog [159]) hk ob 9000 loose w := PySem.W.byRow2 "special-get-raises" (P := fun w => HandSHeadRun.RunEq R (PySem.W.view R.prog [159]) hk ob 9000 loose w) runF runT w
abbrev FnP (K : PySem.W.Frag) (x : Str) (st : Stmt) : Prop := ∃ fd, FunD K x x (defArgs st) (defBody st) (defScope st) [] [] (He.ga K x) fd
abbrev s_size_of : Stmt := top 34
abbrev N_size_of : List Str := ["graph", "instructions", "terminator"]
theorem sc_size_of : FnScope N_size_of ["graph"] (defScope s_size_of) := ⟨rfl, rfl, rfl, by decide +kernel, rfl, by decide +kernel, by decide +kernel⟩
abbrev s_is_integer : Stmt := top 39
abbrev N_is_integer : List Str := ["thing"]
theorem sc_is_integer : FnScope N_is_integer ["thing"] (defScope s_is_integer) := ⟨rfl, rfl, rfl, by decide +kernel, rfl, by decide +kernel, by decide +kernel⟩
abbrev s_is_word : Stmt := top 40
abbrev N_is_word : List Str := ["thing"]
theorem sc_is_word : FnScope N_is_word ["thing"] (defScope s_is_word) := ⟨rfl, rfl, rfl, by decide +kernel, rfl, by decide +kernel, by decide +kernel⟩
abbrev s_answer_fits : Stmt := top 55
abbrev N_answer_fits : List Str := ["question", "answer", "kind"]
theorem sc_answer_fits : FnScope N_answer_fits ["question", "answer"] (defScope s_answer_fits) := ⟨rfl, rfl, rfl, by decide +kernel, rfl, by decide +kernel, by decide +kernel⟩
abbrev s_known_answer : Stmt := top 56
abbrev N_known_answer : List Str := ["facts", "question", "answer"]
theorem sc_known_answer : FnScope N_known_answer ["facts", "question"] (defScope s_known_answer) := ⟨rfl, rfl, rfl, by decide +kernel, rfl, by decide +kernel, by decide +kernel⟩
abbrev s_is_within : Stmt := top 58
abbrev N_is_within : List Str := ["index", "array", "facts", "length"]
theorem sc_is_within : FnScope N_is_within ["index", "array", "facts"] (defScope s_is_within) := ⟨rfl, rfl, rfl, by decide +kernel, rfl, by decide +kernel, by decide +kernel⟩
abbrev s_is_needless : Stmt := top 67
abbrev N_is_needless : List Str := ["instruction", "name", "facts"]
theorem sc_is_needless : FnScope N_is_needless ["instruction", "name", "facts"] (defScope s_is_needless) := ⟨rfl, rfl, rfl, by decide +kernel, rfl, by decide +kernel, by decide +kernel⟩
abbrev s_without_stores : Stmt := top 68
abbrev N_without_stores : List Str := ["graph", "name", "facts", "blocks", "instructions", "terminator", "kept", "instruction"]
theorem sc_without_stores : FnScope N_without_stores ["graph", "name", "facts"] (defScope s_without_stores) := ⟨rfl, rfl, rfl, by decide +kernel, rfl, by decide +kernel, by decide +kernel⟩
abbrev s_is_rewrite : Stmt := top 136
abbrev N_is_rewrite : List Str := ["thing"]
theorem sc_is_rewrite : FnScope N_is_rewrite ["thing"] (defScope s_is_rewrite) := ⟨rfl, rfl, rfl, by decide +kernel, rfl, by decide +kernel, by decide +kernel⟩
abbrev s_changed_by : Stmt := top 137
abbrev N_changed_by : List Str := ["graph", "rewrite", "name", "facts", "graphs", "signatures", "word"]
theorem sc_changed_by : FnScope N_changed_by ["graph", "rewrite", "name", "facts", "graphs", "signatures"] (defScope s_changed_by) := ⟨rfl, rfl, rfl, by decide +kernel, rfl, by decide +kernel, by decide +kernel⟩
abbrev s_rewritten : Stmt := top 138
abbrev N_rewritten : List Str := ["graph", "rewrite", "name", "facts", "graphs", "signatures", "found"]
theorem sc_rewritten : FnScope N_rewritten ["graph", "rewrite", "name", "facts", "graphs", "signatures"] (defScope s_rewritten) := ⟨rfl, rfl, rfl, by decide +kernel, rfl, by decide +kernel, by decide +kernel⟩
abbrev s__law_deck : Stmt := top 140
abbrev N__law_deck : List Str := ["_law_script", "_law_cells", "_law_total", "_law_cell"]
theorem sc__law_deck : FnScope N__law_deck ["_law_script"] (defScope s__law_deck) := ⟨rfl, rfl, rfl, by decide +kernel, rfl, by decide +kernel, by decide +kernel⟩
abbrev s__law_draw : Stmt := top 141
abbrev N__law_draw : List Str := ["_law_deck_here", "_law_many", "_law_turn", "_law_cell", "_law_mixed"]
theorem sc__law_draw : FnScope N__law_draw ["_law_deck_here", "_law_many"] (defScope s__law_draw) := ⟨rfl, rfl, rfl, by decide +kernel, rfl, by decide +kernel, by decide +kernel⟩
abbrev s__law_pick : Stmt := top 142
abbrev N__law_pick : List Str := ["_law_deck_here", "_law_some"]
theorem sc__law_pick : FnScope N__law_pick ["_law_deck_here", "_law_some"] (defScope s__law_pick) := ⟨rfl, rfl, rfl, by decide +kernel, rfl, by decide +kernel, by decide +kernel⟩
abbrev s__law_names : Stmt := top 143
abbrev N__law_names : List Str := ["_law_deck_here", "_law_many", "_law_words", "_law_found", "_law_k", "_law_word_here"]
theorem sc__law_names : FnScope N__law_names ["_law_deck_here", "_law_many"] (defScope s__law_names) := ⟨rfl, rfl, rfl, by decide +kernel, rfl, by decide +kernel, by decide +kernel⟩
abbrev s__law_world : Stmt := top 144
abbrev N__law_world : List Str := ["_law_deck_here", "_law_w", "_law_some", "_law_lengths"]
theorem sc__law_world : FnScope N__law_world ["_law_deck_here"] (defScope s__law_world) := ⟨rfl, rfl, rfl, by decide +kernel, rfl, by decide +kernel, by decide +kernel⟩
abbrev s__law_word : Stmt := top 145
abbrev N__law_word : List Str := ["_law_deck_here"]
theorem sc__law_word : FnScope N__law_word ["_law_deck_here"] (defScope s__law_word) := ⟨rfl, rfl, rfl, by decide +kernel, rfl, by decide +kernel, by decide +kernel⟩
abbrev s__law_operand : Stmt := top 146
abbrev N__law_operand : List Str := ["_law_deck_here", "_law_kit"]
theorem sc__law_operand : FnScope N__law_operand ["_law_deck_here", "_law_kit"] (defScope s__law_operand) := ⟨rfl, rfl, rfl, by decide +kernel, rfl, by decide +kernel, by decide +kernel⟩
abbrev s__law_first : Stmt := top 147
abbrev N__law_first : List Str := ["_law_deck_here", "_law_world_here", "_law_kit", "_law_rows", "_law_v"]
theorem sc__law_first : FnScope N__law_first ["_law_deck_here", "_law_world_here", "_law_kit"] (defScope s__law_first) := ⟨rfl, rfl, rfl, by decide +kernel, rfl, by decide +kernel, by decide +kernel⟩
abbrev s__law_other_row : Stmt := top 148
abbrev N__law_other_row : List Str := ["_law_deck_here", "_law_world_here", "_law_kit", "_law_one", "_law_two", "_law_way", "_law_f", "_law_g", "_law_some"]
theorem sc__law_other_row : FnScope N__law_other_row ["_law_deck_here", "_law_world_here", "_law_kit", "_law_one", "_law_two"] (defScope s__law_other_row) := ⟨rfl, rfl, rfl, by decide +kernel, rfl, by decide +kernel, by decide +kernel⟩
abbrev s__law_row : Stmt := top 149
abbrev N__law_row : List Str := ["_law_deck_here", "_law_world_here", "_law_kit", "_law_way", "_law_one", "_law_two", "_law_v", "_law_f", "_law_row_here", "_law_name", "_law_size"]
theorem sc__law_row : FnScope N__law_row ["_law_deck_here", "_law_world_here", "_law_kit"] (defScope s__law_row) := ⟨rfl, rfl, rfl, by decide +kernel, rfl, by decide +kernel, by decide +kernel⟩
abbrev s__law_end : Stmt := top 150
abbrev N__law_end : List Str := ["_law_deck_here", "_law_kit", "_law_many", "_law_way", "_law_one", "_law_some"]
theorem sc__law_end : FnScope N__law_end ["_law_deck_here", "_law_kit", "_law_many"] (defScope s__law_end) := ⟨rfl, rfl, rfl, by decide +kernel, rfl, by decide +kernel, by decide +kernel⟩
abbrev s__law_graph : Stmt := top 151
abbrev N__law_graph : List Str := ["_law_deck_here", "_law_world_here", "_law_most", "_law_count", "_law_kit", "_law_many", "_law_blocks", "_law_number", "_law_rows", "_law_k"]
theorem sc__law_graph : FnScope N__law_graph ["_law_deck_here", "_law_world_here", "_law_most"] (defScope s__law_graph) := ⟨rfl, rfl, rfl, by decide +kernel, rfl, by decide +kernel, by decide +kernel⟩
abbrev s__law_more_stores : Stmt := top 152
abbrev N__law_more_stores : List Str := ["_law_deck_here", "_law_world_here", "_law_graph_here", "_law_blocks", "_law_spots", "_law_rows", "_law_end_here", "_law_k", "_law_at", "_law_row_here", "_law_name", "_law_size"]
theorem sc__law_more_stores : FnScope N__law_more_stores ["_law_deck_here", "_law_world_here", "_law_graph_here"] (defScope s__law_more_stores) := ⟨rfl, rfl, rfl, by decide +kernel, rfl, by decide +kernel, by decide +kernel⟩
abbrev s__law_facts : Stmt := top 153
abbrev N__law_facts : List Str := ["_law_deck_here", "_law_world_here", "_law_known", "_law_name", "_law_rare", "_law_handed", "_law_question", "_law_way", "_law_size"]
theorem sc__law_facts : FnScope N__law_facts ["_law_deck_here", "_law_world_here"] (defScope s__law_facts) := ⟨rfl, rfl, rfl, by decide +kernel, rfl, by decide +kernel, by decide +kernel⟩
abbrev s__law_goes : Stmt := top 154
abbrev N__law_goes : List Str := ["_law_row_here", "_law_name", "_law_known"]
theorem sc__law_goes : FnScope N__law_goes ["_law_row_here", "_law_name", "_law_known"] (defScope s__law_goes) := ⟨rfl, rfl, rfl, by decide +kernel, rfl, by decide +kernel, by decide +kernel⟩
abbrev s__law_due : Stmt := top 155
abbrev N__law_due : List Str := ["_law_graph_here", "_law_name", "_law_known", "_law_blocks", "_law_rows", "_law_end_here", "_law_row_here"]
theorem sc__law_due : FnScope N__law_due ["_law_graph_here", "_law_name", "_law_known"] (defScope s__law_due) := ⟨rfl, rfl, rfl, by decide +kernel, rfl, by decide +kernel, by decide +kernel⟩
abbrev s__law_same : Stmt := top 156
abbrev N__law_same : List Str := ["_law_found", "_law_due_here", "_law_k"]
theorem sc__law_same : FnScope N__law_same ["_law_found", "_law_due_here"] (defScope s__law_same) := ⟨rfl, rfl, rfl, by decide +kernel, rfl, by decide +kernel, by decide +kernel⟩
abbrev s__law_told : Stmt := top 157
abbrev N__law_told : List Str := ["_law_graph_here", "_law_rewrite", "_law_handed", "_law_others", "_law_found", "e"]
theorem sc__law_told : FnScope N__law_told ["_law_graph_here", "_law_rewrite", "_law_handed", "_law_others"] (defScope s__law_told) := ⟨rfl, rfl, rfl, by decide +kernel, rfl, by decide +kernel, by decide +kernel⟩
abbrev s__law_right : Stmt := top 158
abbrev N__law_right : List Str := ["_law_graph_here", "_law_name", "_law_known", "_law_handed", "_law_due_here", "_law_kept", "_law_turn"]
theorem sc__law_right : FnScope N__law_right ["_law_graph_here", "_law_name", "_law_known", "_law_handed"] (defScope s__law_right) := ⟨rfl, rfl, rfl, by decide +kernel, rfl, by decide +kernel, by decide +kernel⟩
abbrev s_law : Stmt := top 159
abbrev N_law : List Str := ["_law_script", "_law_deck_here", "_law_turn", "_law_world_here", "_law_graph_here", "_law_known", "_law_handed", "_law_some", "_law_name", "_law_odd", "_law_rewrite", "_law_size"]
theorem sc_law : FnScope N_law ["_law_script"] (defScope s_law) := ⟨rfl, rfl, rfl, by decide +kernel, rfl, by decide +kernel, by decide +kernel⟩
def gnames : List Str := (["size_of", "is_integer", "is_word", "answer_fits", "known_answer", "is_within", "is_needless", "without_stores", "is_rewrite", "changed_by", "rewritten", "_law_deck", "_law_draw", "_law_pick", "_law_names", "_law_world", "_law_word", "_law_operand", "_law_first", "_law_other_row", "_law_row", "_law_end", "_law_graph", "_law_more_stores", "_law_facts", "_law_goes", "_law_due", "_law_same", "_law_told", "_law_right"] : List Str) ++ (["law", "YES_OR_NO", "NAME_TUPLES", "WORD_OR_NONE", "PARTS", "InvalidRewrite", "WholeError", "Conflict", "Disagreement", "Incompatible", "InvalidCommand", "InvalidModule", "InvalidObject", "InvalidText", "Missing", "NoEntry", "NoImage", "Outdated", "Rejected", "Stale", "Undefined", "UnknownModule"] : List Str)
structure Txt (w : World) (K : PySem.W.Frag) (mg : Str → Option Value) : Prop where
  d_size_of : FnP K "size_of" s_size_of
  d_is_integer : FnP K "is_integer" s_is_integer
  d_is_word : FnP K "is_word" s_is_word
  d_answer_fits : FnP K "answer_fits" s_answer_fits
  d_known_answer : FnP K "known_answer" s_known_answer
  d_is_within : FnP K "is_within" s_is_within
  d_is_needless : FnP K "is_needless" s_is_needless
  d_without_stores : FnP K "without_stores" s_without_stores
  d_is_rewrite : FnP K "is_rewrite" s_is_rewrite
  d_changed_by : FnP K "changed_by" s_changed_by
  d_rewritten : ∃ fd, FunD K "rewritten" "rewritten" (defArgs s_rewritten) (defBody s_rewritten) (defScope s_rewritten) [V.non, V.non] [] (He.ga K "rewritten") fd
  d__law_deck : FnP K "_law_deck" s__law_deck
  d__law_draw : FnP K "_law_draw" s__law_draw
  d__law_pick : FnP K "_law_pick" s__law_pick
  d__law_names : FnP K "_law_names" s__law_names
  d__law_world : FnP K "_law_world" s__law_world
  d__law_word : FnP K "_law_word" s__law_word
  d__law_operand : FnP K "_law_operand" s__law_operand
  d__law_first : FnP K "_law_first" s__law_first
  d__law_other_row : FnP K "_law_other_row" s__law_other_row
  d__law_row : FnP K "_law_row" s__law_row
  d__law_end : FnP K "_law_end" s__law_end
  d__law_graph : FnP K "_law_graph" s__law_graph
  d__law_more_stores : FnP K "_law_more_stores" s__law_more_stores
  d__law_facts : FnP K "_law_facts" s__law_facts
  d__law_goes : FnP K "_law_goes" s__law_goes
  d__law_due : FnP K "_law_due" s__law_due
  d__law_same : FnP K "_law_same" s__law_same
  d__law_told : ∃ fd, FunD K "_law_told" "_law_told" (defArgs s__law_told) (defBody s__law_told) (defScope s__law_told) [V.non] [] (He.ga K "_law_told") fd
  d__law_right : FnP K "_law_right" s__law_right
  d_law : FnP K "law" s_law
  c_GREATEST_WORD : ∃ t, mg "GREATEST_WORD" = some (.int (65535) t)
  u_YES_OR_NO : ∀ H, SqT K H (He.ga K "YES_OR_NO") [.str "live", .str "taken", .str "prints", .str "traps", .str "ends", .str "pure", .str "recursive", .str "unread", .str "unused", .str "pure_by"]
  u_NAME_TUPLES : ∀ H, SqT K H (He.ga K "NAME_TUPLES") [.str "targets", .str "writes", .str "writes_by", .str "importable"]
  u_WORD_OR_NONE : ∀ H, SqT K H (He.ga K "WORD_OR_NONE") [.str "result", .str "argument"]
  c_UNKNOWN : ∃ t, mg "UNKNOWN" = some (.int (-1) t)
  c_MOST_INSTRUCTIONS : ∃ t, mg "MOST_INSTRUCTIONS" = some (.int (2000) t)
  t_PARTS : KTab K w (He.ga K "PARTS") [("inline", .int 3), ("devirtualize", .int 3), ("fold", .int 2), ("propagate", .int 2), ("eliminate", .int 2), ("drop_stores", .int 2), ("tidy", .int 1), ("drop_arguments", .int 1), ("drop_result", .int 1)]
  exm : PySem.W.exmOne K (.ref (He.ga K "InvalidRewrite")) (.ref (He.ga K "WholeError")) = some true
  isR : PySem.W.kitOne K (.ref (He.ga K "InvalidRewrite")) (.ref (He.ga K "InvalidRewrite")) = some true
  isV : PySem.W.kitOne K (.ref (He.ga K "InvalidRewrite")) (.type "ValueError") = some true
  isO1 : PySem.W.kitAny K (.ref (He.ga K "InvalidRewrite")) [.ref (He.ga K "Conflict"), .ref (He.ga K "Disagreement"), .ref (He.ga K "Incompatible"), .ref (He.ga K "InvalidCommand"), .ref (He.ga K "InvalidModule"), .ref (He.ga K "InvalidObject")] = some false
  isO2 : PySem.W.kitAny K (.ref (He.ga K "InvalidRewrite")) [.ref (He.ga K "InvalidText"), .ref (He.ga K "Missing"), .ref (He.ga K "NoEntry"), .ref (He.ga K "NoImage"), .ref (He.ga K "Outdated"), .ref (He.ga K "Rejected"), .ref (He.ga K "Stale"), .ref (He.ga K "Undefined"), .ref (He.ga K "UnknownModule")] = some false
  sysm : SysD K
  x_InvalidRewrite : ErrX K "InvalidRewrite" []
  e_InvalidRewrite : ∀ {P : Program}, PrgOk file P → ErrC P K mg "InvalidRewrite" "InvalidRewrite.__init__" (defArgs s_InvalidRewrite___init__) (defBody s_InvalidRewrite___init__) (defScope s_InvalidRewrite___init__) []
  n_ValueError : mg "ValueError" = none
  n_all : mg "all" = none
  n_bool : mg "bool" = none
  n_dict : mg "dict" = none
  n_enumerate : mg "enumerate" = none
  n_int : mg "int" = none
  n_isinstance : mg "isinstance" = none
  n_len : mg "len" = none
  n_list : mg "list" = none
  n_max : mg "max" = none
  n_min : mg "min" = none
  n_range : mg "range" = none
  n_repr : mg "repr" = none
  n_set : mg "set" = none
  n_sorted : mg "sorted" = none
  n_str : mg "str" = none
  n_sum : mg "sum" = none
  n_super : mg "super" = none
  n_tuple : mg "tuple" = none
  n_zip : mg "zip" = none
  g : ∀ x ∈ gnames, mg x = some (.ref (He.ga K x))
theorem glos {K : PySem.W.Frag} {h : Heap} {mg : Str → Option Value} (X : K.In h) (G : h.Ns mainGlobals mg) : ∀ {l : List Str}, (∀ x ∈ l, (He.Fa.glo x).ok K = true) → ∀ x ∈ l, mg x = some (.ref (He.ga K x)) := fun h x hx => He.glo_ok X G (h x hx)
theorem txt0 {w : World} {K : PySem.W.Frag} {h : Heap} {mg : Str → Option Value} (X : K.In h) (G : h.Ns mainGlobals mg) (c : SaysB fa fn ts bx w K) (c0 : SaysE file fa fn ts bx es ev w K) : Txt w K mg where
  d_size_of := c.d.def_ 0 (d := dd "size_of" 34) rfl
  d_is_integer := c.d.def_ 1 (d := dd "is_integer" 39) rfl
  d_is_word := c.d.def_ 2 (d := dd "is_word" 40) rfl
  d_answer_fits := c.d.def_ 3 (d := dd "answer_fits" 55) rfl
  d_known_answer := c.d.def_ 4 (d := dd "known_answer" 56) rfl
  d_is_within := c.d.def_ 5 (d := dd "is_within" 58) rfl
  d_is_needless := c.d.def_ 6 (d := dd "is_needless" 67) rfl
  d_without_stores := c.d.def_ 7 (d := dd "without_stores" 68) rfl
  d_is_rewrite := c.d.def_ 8 (d := dd "is_rewrite" 136) rfl
  d_changed_by := c.d.def_ 9 (d := dd "changed_by" 137) rfl
  d_rewritten := c.d.def_ 10 (d := ⟨("rewritten", none), "rewritten", "rewritten", defArgs (top 138), defBody (top 138), defScope (top 138), [.non, .non], []⟩) rfl
  d__law_deck := c.d.def_ 11 (d := dd "_law_deck" 140) rfl
  d__law_draw := c.d.def_ 12 (d := dd "_law_draw" 141) rfl
  d__law_pick := c.d.def_ 13 (d := dd "_law_pick" 142) rfl
  d__law_names := c.d.def_ 14 (d := dd "_law_names" 143) rfl
  d__law_world := c.d.def_ 15 (d := dd "_law_world" 144) rfl
  d__law_word := c.d.def_ 16 (d := dd "_law_word" 145) rfl
  d__law_operand := c.d.def_ 17 (d := dd "_law_operand" 146) rfl
  d__law_first := c.d.def_ 18 (d := dd "_law_first" 147) rfl
  d__law_other_row := c.d.def_ 19 (d := dd "_law_other_row" 148) rfl
  d__law_row := c.d.def_ 20 (d := dd "_law_row" 149) rfl
  d__law_end := c.d.def_ 21 (d := dd "_law_end" 150) rfl
  d__law_graph := c.d.def_ 22 (d := dd "_law_graph" 151) rfl
  d__law_more_stores := c.d.def_ 23 (d := dd "_law_more_stores" 152) rfl
  d__law_facts := c.d.def_ 24 (d := dd "_law_facts" 153) rfl
  d__law_goes := c.d.def_ 25 (d := dd "_law_goes" 154) rfl
  d__law_due := c.d.def_ 26 (d := dd "_law_due" 155) rfl
  d__law_same := c.d.def_ 27 (d := dd "_law_same" 156) rfl
  d__law_told := c.d.def_ 28 (d := ⟨("_law_told", none), "_law_told", "_law_told", defArgs (top 157), defBody (top 157), defScope (top 157), [.non], []⟩) rfl
  d__law_right := c.d.def_ 29 (d := dd "_law_right" 158) rfl
  d_law := c.d.def_ 30 (d := dd "law" 159) rfl
  c_GREATEST_WORD := He.int_ok X G (c.d.fact 0 (f := .int "GREATEST_WORD" (65535)) rfl)
  u_YES_OR_NO := fun H => tupB_ok (ds := [.str "live", .str "taken", .str "prints", .str "traps", .str "ends", .str "pure", .str "recursive", .str "unread", .str "unused", .str "pure_by"]) (He.ba c.b).1 H
  u_NAME_TUPLES := fun H => tupB_ok (ds := [.str "targets", .str "writes", .str "writes_by", .str "importable"]) (He.ba (He.ba c.b).2).1 H
  u_WORD_OR_NONE := fun H => tupB_ok (ds := [.str "result", .str "argument"]) (He.ba (He.ba (He.ba c.b).2).2).1 H
  c_UNKNOWN := He.int_ok X G (c.d.fact 1 (f := .int "UNKNOWN" (-1)) rfl)
  c_MOST_INSTRUCTIONS := He.int_ok X G (c.d.fact 2 (f := .int "MOST_INSTRUCTIONS" (2000)) rfl)
  t_PARTS := ktab_mk c 0 (kvs := [("inline", .int 3), ("devirtualize", .int 3), ("fold", .int 2), ("propagate", .int 2), ("eliminate", .int 2), ("drop_stores", .int 2), ("tidy", .int 1), ("drop_arguments", .int 1), ("drop_result", .int 1)]) rfl rfl (He.ba (He.ba (He.ba (He.ba c.b).2).2).2).1
  exm := of_decide_eq_true (He.ba (He.ba (He.ba (He.ba (He.ba c.b).2).2).2).2).1
  isR := of_decide_eq_true (He.ba (He.ba (He.ba (He.ba (He.ba (He.ba c.b).2).2).2).2).2).1
  isV := of_decide_eq_true (He.ba (He.ba (He.ba (He.ba (He.ba (He.ba (He.ba c.b).2).2).2).2).2).2).1
  isO1 := of_decide_eq_true (He.ba (He.ba (He.ba (He.ba (He.ba (He.ba (He.ba (He.ba c.b).2).2).2).2).2).2).2).1
  isO2 := of_decide_eq_true (He.ba (He.ba (He.ba (He.ba (He.ba (He.ba (He.ba (He.ba (He.ba c.b).2).2).2).2).2).2).2).2).1
  sysm := sysB_ok (He.ba (He.ba (He.ba (He.ba (He.ba (He.ba (He.ba (He.ba (He.ba (He.ba c.b).2).2).2).2).2).2).2).2).2).1
  x_InvalidRewrite := errX_of (He.ba (He.ba (He.ba (He.ba (He.ba (He.ba (He.ba (He.ba (He.ba (He.ba (He.ba c.b).2).2).2).2).2).2).2).2).2).2).1
  e_InvalidRewrite := fun hP => errC_mk hP (c0.e 0 rfl rfl) (He.ba (He.ba (He.ba (He.ba (He.ba (He.ba (He.ba (He.ba (He.ba (He.ba (He.ba c.b).2).2).2).2).2).2).2).2).2).2).1 (He.glo_ok X G (c.d.fact 58 (f := .glo "InvalidRewrite") rfl)) (He.free_ok X G (c.d.fact 20 (f := .free "super") rfl)) ⟨_, _, _, _, _, _, _, _, [], rfl, rfl, _, fun _ _ _ _ => rfl⟩ ⟨_, rfl, rfl⟩ rfl rfl rfl rfl rfl (by decide +kernel) (by decide +kernel) ⟨by decide +kernel, by decide +kernel, by decide⟩
  n_ValueError := He.free_ok X G (c.d.fact 3 (f := .free "ValueError") rfl)
  n_all := He.free_ok X G (c.d.fact 4 (f := .free "all") rfl)
  n_bool := He.free_ok X G (c.d.fact 5 (f := .free "bool") rfl)
  n_dict := He.free_ok X G (c.d.fact 6 (f := .free "dict") rfl)
  n_enumerate := He.free_ok X G (c.d.fact 7 (f := .free "enumerate") rfl)
  n_int := He.free_ok X G (c.d.fact 8 (f := .free "int") rfl)
  n_isinstance := He.free_ok X G (c.d.fact 9 (f := .free "isinstance") rfl)
  n_len := He.free_ok X G (c.d.fact 10 (f := .free "len") rfl)
  n_list := He.free_ok X G (c.d.fact 11 (f := .free "list") rfl)
  n_max := He.free_ok X G (c.d.fact 12 (f := .free "max") rfl)
  n_min := He.free_ok X G (c.d.fact 13 (f := .free "min") rfl)
  n_range := He.free_ok X G (c.d.fact 14 (f := .free "range") rfl)
  n_repr := He.free_ok X G (c.d.fact 15 (f := .free "repr") rfl)
  n_set := He.free_ok X G (c.d.fact 16 (f := .free "set") rfl)
  n_sorted := He.free_ok X G (c.d.fact 17 (f := .free "sorted") rfl)
  n_str := He.free_ok X G (c.d.fact 18 (f := .free "str") rfl)
  n_sum := He.free_ok X G (c.d.fact 19 (f := .free "sum") rfl)
  n_super := He.free_ok X G (c.d.fact 20 (f := .free "super") rfl)
  n_tuple := He.free_ok X G (c.d.fact 21 (f := .free "tuple") rfl)
  n_zip := He.free_ok X G (c.d.fact 22 (f := .free "zip") rfl)
  g := by
    refine glos X G (l := gnames) ?_
    intro x hx
    obtain ⟨i, hi⟩ := List.getElem?_of_mem hx
    have e : fa[23 + i]? = some (He.Fa.glo x) := by
      have : (gnames.map He.Fa.glo)[i]? = some (He.Fa.glo x) := by rw [List.getElem?_map, hi]; rfl
      have h2 : fa.drop 23 = gnames.map He.Fa.glo := rfl
      rw [← h2, List.getElem?_drop] at this
      exact this
    exact c.d.fact (23 + i) e
theorem txt {w : World} {K : PySem.W.Frag} {h : Heap} {mg : Str → Option Value} (X : K.In h) (G : h.Ns mainGlobals mg) (c : SaysE file fa fn ts bx es ev w K) : Txt w K mg := txt0 X G c.s c
end K48

set_option maxHeartbeats 4000000
/-! HA: texts of signs below 128, and what repr shows of data. -/
namespace HG
open PySem PySem.Spec PyProof.Rows L2
open TL (numL tl_num numL_digits numL_ne numL_inj numL_val numL_len)
def asc (z : Str) : Prop := ∀ c ∈ cp z, c < 128
theorem asc_app {a b : Str} (ha : asc a) (hb : asc b) : asc (a ++ b) := fun c hc => by
  rw [cp_app] at hc
  exact (List.mem_append.mp hc).elim (ha c) (hb c)
theorem asc_ok {z : Str} (h : asc z) : PyData.strOk z = true := by
  unfold PyData.strOk
  rw [← Array.all_toList]
  refine List.all_eq_true.mpr fun c hc => ?_
  have := h c hc
  exact decide_eq_true (by omega)
theorem asc_repr {z : Str} (h : asc z) : asc (reprText z) := by
  have hq : reprQuote z = 39 ∨ reprQuote z = 34 := by
    unfold reprQuote
    split
    · exact .inr rfl
    · exact .inl rfl
  have sm : ∀ q, q = 39 ∨ q = 34 → ∀ c, c < 128 → ∀ d ∈ Builtin.Str.reprChar q c, d < 128 := by
    have h1 : ∀ c : Nat, c < 128 → ∀ d ∈ Builtin.Str.reprChar 39 c, d < 128 := by decide +kernel
    have h2 : ∀ c : Nat, c < 128 → ∀ d ∈ Builtin.Str.reprChar 34 c, d < 128 := by decide +kernel
    rintro q (rfl | rfl)
    · exact h1
    · exact h2
  have key : ∀ (l : List Nat) (acc : Array Nat), (∀ c ∈ l, c < 128) → (∀ d ∈ acc.toList, d < 128) → ∀ d ∈ (l.foldl (fun out c => out ++ (Builtin.Str.reprChar (reprQuote z) c).toArray) acc).toList, d < 128 := by
    intro l
    induction l with
    | nil => intro acc _ ha; exact ha
    | cons c r ih =>
      intro acc hl ha
      rw [List.foldl_cons]
      refine ih _ (fun x hx => hl x (List.mem_cons_of_mem _ hx)) fun d hd => ?_
      rw [Array.toList_append] at hd
      rcases List.mem_append.mp hd with z | z
      · exact ha d z
      · exact sm _ hq c (hl c List.mem_cons_self) d z
  intro d hd
  unfold cp reprText at hd
  rw [Array.toList_push, ← Array.foldl_toList] at hd
  have q128 : reprQuote z < 128 := by rcases hq with e | e <;> rw [e] <;> decide
  rcases List.mem_append.mp hd with y | y
  · refine key _ _ h (fun x hx => ?_) d y
    have : x = reprQuote z := by simpa using hx
    rw [this]
    exact q128
  · rw [List.mem_singleton.mp y]
    exact q128
theorem asc_join : ∀ {l : List Str}, (∀ z ∈ l, asc z) → asc (Str.join ", " l)
  | [], _ => fun c hc => nomatch hc
  | [x], h => h x List.mem_cons_self
  | x :: y :: r, h => by
    show asc (x ++ ", " ++ Str.join ", " (y :: r))
    exact asc_app (asc_app (h x List.mem_cons_self) (by unfold asc; decide +kernel)) (asc_join fun z hz => h z (List.mem_cons_of_mem _ hz))
theorem asc_from : ∀ {l : List Str} (k : Nat) (acc : Str), asc acc → (∀ z ∈ l, asc z) → asc (textFrom k acc l)
  | [], _, _, h, _ => h
  | t :: ts, k, acc, h, hl => by
    show asc (textFrom (k + 1) (acc ++ (if k > 0 then ", " else "" : String) ++ t) ts)
    refine asc_from (k + 1) _ (asc_app (asc_app h ?_) (hl t List.mem_cons_self)) fun z hz => hl z (List.mem_cons_of_mem _ hz)
    split
    · unfold asc; decide +kernel
    · unfold asc; decide +kernel
theorem asc_list {l : List Str} (h : ∀ z ∈ l, asc z) : asc (listText l) := asc_app (asc_from 0 _ (by unfold asc; decide +kernel) h) (by unfold asc; decide +kernel)
theorem asc_tuple {l : List Str} (h : ∀ z ∈ l, asc z) : asc (tupleText l) := by
  refine asc_app (asc_app (by unfold asc; decide +kernel) (asc_join h)) ?_
  split
  · unfold asc; decide +kernel
  · unfold asc; decide +kernel
theorem asc_nat (n : Nat) : asc (Str.ofString (toString ((n : Nat) : Int))) := fun c hc => by
  have e : cp (Str.ofString (toString ((n : Nat) : Int))) = numL n := tl_num n
  rw [e] at hc
  have := numL_digits n c hc
  omega
theorem asc_int (i : Int) : asc (Str.ofString (toString i)) := by
  by_cases h : i < 0
  · rw [toString_neg h]
    obtain ⟨n, hn⟩ := Int.eq_ofNat_of_zero_le (show 0 ≤ 0 - i by omega)
    rw [hn]
    have e2 : cp (Str.ofString ("-" ++ toString ((n : Nat) : Int))) = 45 :: cp (Str.ofString (toString ((n : Nat) : Int))) := by
      unfold cp
      rw [Str.ofString_eq_toList, Str.ofString_eq_toList, String.toList_append, List.map_append]
      rfl
    intro c hc
    rw [e2] at hc
    rcases List.mem_cons.mp hc with rfl | hc
    · decide
    · exact asc_nat n c hc
  · obtain ⟨n, rfl⟩ := Int.eq_ofNat_of_zero_le (Int.not_lt.mp h)
    exact asc_nat n
theorem asc_all : ∀ {ds : List PyData}, (∀ d ∈ ds, asc d.shown) → ∀ z ∈ PyData.shownAll ds, asc z
  | [], _, z, hz => by simp only [PyData.shownAll] at hz; exact nomatch hz
  | d :: ds, h, z, hz => by
    simp only [PyData.shownAll] at hz
    rcases List.mem_cons.mp hz with rfl | hz
    · exact h d List.mem_cons_self
    · exact asc_all (fun e he => h e (List.mem_cons_of_mem _ he)) z hz
end HG

set_option maxHeartbeats 4000000
namespace K48
open PySem PySem.Spec PyProof.Rows L2 HG
/-! ### the deck: a dict of three -/
abbrev kC : Key := Sum.inr "cells"
abbrev kM : Key := Sum.inr "total"
abbrev kN : Key := Sum.inr "draws"
def deckD (c : Addr) (m t : Int) : List (Key × V) := [(kC, .ref c), (kM, .int m), (kN, .int t)]
structure Deck (d c : Addr) (n : Nat) (H : Hp) : Prop where
  ex : ∃ (ns : List Int) (m t : Int), H d = some (.dK (deckD c m t)) ∧ H c = some (.lst (ns.map V.int)) ∧ 0 ≤ t ∧ t ≤ n ∧ ns.length ≤ 63
theorem Deck.ne {d c : Addr} {n : Nat} {H : Hp} (D : Deck d c n H) : d ≠ c := fun e => by
  obtain ⟨ns, m, t, h1, h2, _⟩ := D.ex
  rw [e, h2] at h1
  cases h1
theorem Deck.up {d c : Addr} {n m : Nat} {H : Hp} (D : Deck d c n H) (h : n ≤ m) : Deck d c m H := by
  obtain ⟨ns, x, t, h1, h2, h4, h5, h6⟩ := D.ex
  exact ⟨ns, x, t, h1, h2, h4, by omega, h6⟩
theorem Deck.upd {d c p : Addr} {n : Nat} {H : Hp} {o : HO} (D : Deck d c n H) (h1 : p ≠ d) (h2 : p ≠ c) : Deck d c n (upd H p o) := by
  obtain ⟨ns, m, t, e1, e2, r⟩ := D.ex
  exact ⟨ns, m, t, by rw [upd_ne h1.symm]; exact e1, by rw [upd_ne h2.symm]; exact e2, r⟩
theorem Deck.has {d c p : Addr} {n : Nat} {H : Hp} (D : Deck d c n H) (hp : H p = none) : p ≠ d ∧ p ≠ c := by
  obtain ⟨ns, m, t, e1, e2, r⟩ := D.ex
  exact ⟨(ne_of_none e1 hp).symm, (ne_of_none e2 hp).symm⟩
theorem Deck.new {d c p : Addr} {n : Nat} {H : Hp} {o : HO} (D : Deck d c n H) (hp : H p = none) : Deck d c n (L2.upd H p o) := D.upd (D.has hp).1 (D.has hp).2
theorem Deck.same {d c : Addr} {n : Nat} {H H' : Hp} (D : Deck d c n H) (s : Same H H') : Deck d c n H' := by
  obtain ⟨ns, m, t, e1, e2, r⟩ := D.ex
  exact ⟨ns, m, t, s _ _ e1, s _ _ e2, r⟩
section
variable {d c : Addr} {m t : Int} {H : Hp}
theorem get_c (h : H d = some (.dK (deckD c m t))) : DGet H d (.str "cells") (some (.ref c)) := DGet.k (k := kC) h
theorem get_m (h : H d = some (.dK (deckD c m t))) : DGet H d (.str "total") (some (.int m)) := DGet.k (k := kM) h
theorem get_t (h : H d = some (.dK (deckD c m t))) : DGet H d (.str "draws") (some (.int t)) := DGet.k (k := kN) h
theorem put_t {x : Int} (h : H d = some (.dK (deckD c m t))) : DPut H d (.str "draws") (.int x) (upd H d (.dK (deckD c m x))) := DPut.k (k := kN) h (by show 3 < sizeLine; decide)
end
section
variable {P : Program} {w : World} {K : PySem.W.Frag} {mg : Str → Option Value} {base : Heap}
/-! ### _law_draw -/
def spDraw : Sp := fun vs H Q _ => ∃ (d c : Addr) (n : Nat) (many : Int), vs = [.ref d, .int many] ∧ 0 < many ∧ many < 10 ^ 40 ∧ n < 2 ^ 60 ∧ Deck d c n H ∧
  ∀ (r : Int) (H' : Hp), 0 ≤ r → r < many → Deck d c (n + 1) H' → Ext d c H H' → Q (.int r) H'
theorem many_small {many : Int} (h0 : 0 < many) (h : many < 10 ^ 40) : many.natAbs < 2 ^ 200 := by
  have e : (10 : Int) ^ 40 < 2 ^ 200 := by decide
  omega
theorem mod_small (x : Int) {m : Int} (h0 : 0 < m) (hm : m < 2 ^ 63) : -(2 ^ 64) < x % m ∧ x % m < 2 ^ 64 := by
  have h1 := Int.emod_nonneg x (show m ≠ 0 by omega)
  have h2 := Int.emod_lt_of_pos x h0
  omega
set_option pp.maxSteps 600 in
theorem c_draw (T : Txt w K mg) : Cal P w K mg base "_law_draw" 1 ["_law_deck_here", "_law_many"] spDraw := by
  obtain ⟨fd, F⟩ := T.d__law_draw
  refine ⟨⟨fd, F.ok sc__law_draw (fun vs H Q E h => ?_) (fun cdv A outer s H vs Q E hr h => ?_), F.bindsN fun _ _ _ _ _ _ us hl => match us, hl with | [_, _], _ => rfl⟩, T.g _ (by decide), F.kp⟩
  · obtain ⟨d, c, n, many, rfl, _⟩ := h
    rfl
  obtain ⟨d, c, n, many, rfl, hm0, hm1, hn, D, q⟩ := h
  obtain ⟨ns, m, t, hd, hc, ht, htn, hns⟩ := D.ex
  have hu := hu_of hr
  have ndc := D.ne
  refine ⟨_, PSs.nox (pss_cons (ps_par (i := 2) (j := 3) rfl sc__law_draw.nd rfl rfl (by decide) rfl rfl (pa_cons (pe_op op_add (pe_dget hu (pv 0) pe_str (fun _ _ => rfl)) pe_int) (pa_cons (pe_dget hu (pv 0) pe_str (fun _ _ => rfl)) pa_nil)) (by rfl))
      (pss_cons (ps_dput hu (pv 0) pe_str (pv 2) rfl)
      (pss_cons (ps_if (pt_cmpR (op_neDK (K := K) rfl hr.units) (pe_dget hu (pv 0) pe_str (fun _ _ => rfl)) (pe_lst pa_nil) (nomark _)) (pss_cons (ps_set (i := 3) sc__law_draw.nd rfl (.inl rfl) (pe_bm0 PySem.F.plainAttrs_list PySem.F.slot_list_pop PySem.F.type_list_pop mt_pop (pe_dget hu (pv 0) pe_str (fun _ _ => rfl))))
      (pss_cons (ps_if (pt_cmpR op_ge (pv 3) (pe_op op_pow pe_int pe_int) (nomark _)) (pss_cons (ps_expr (pe_bm PySem.F.plainAttrs_list PySem.F.slot_list_append PySem.F.type_list_append mt_append (pe_dget hu (pv 0) pe_str (fun _ _ => rfl)) (pa_cons (pe_op op_fdivW (pv 3) (pv 1)) pa_nil)))
      (pss_one (ps_ret (pe_op op_mod (pv 3) (pv 1))))) pss_nil)
      (pss_one (ps_set (i := 3) sc__law_draw.nd rfl (.inl rfl) (pe_op op_add (pv 3) (pe_dget hu (pv 0) pe_str (fun _ _ => rfl))))))) pss_nil)
      (pss_cons (ps_set (i := 4) sc__law_draw.nd rfl (.inl rfl) (pe_op op_mod (pe_op op_mul (pe_op op_add (pe_op op_add (pe_op op_mod (pv 3) pe_int) (pe_op op_mul (pe_op op_mul pe_int (pv 2)) (pv 2))) pe_int) pe_int) pe_int))
      (pss_cons (ps_set (i := 4) sc__law_draw.nd rfl (.inl rfl) (pe_op op_mod (pe_op op_add (pe_op op_add (pe_op op_mul (pv 4) (pv 4)) (pe_op op_mul pe_int (pv 2))) pe_int) pe_int))
      (pss_one (ps_ret (pe_op op_mod (pe_op op_fdiv (pe_op op_mod (pe_op op_mul (pv 4) pe_int) pe_int) pe_int) (pv 1))))))))), ?_⟩
  refine ⟨.ref d, rfl, d, .int t, rfl, get_t hd, t, 1, rfl, rfl, .ref d, rfl, d, .int m, rfl, get_m hd, ?_⟩
  refine ⟨_, _, rfl, .int (t + 1), rfl, .ref d, rfl, d, _, rfl, put_t hd, ?_⟩
  have hd1 : (upd H d (.dK (deckD c m (t + 1)))) d = some (.dK (deckD c m (t + 1))) := upd_same
  have hc1 : (upd H d (.dK (deckD c m (t + 1)))) c = some (.lst (ns.map V.int)) := by rw [upd_ne ndc.symm]; exact hc
  have x1 : Ext d c H (upd H d (.dK (deckD c m (t + 1)))) := Ext.d
  generalize upd H d (.dK (deckD c m (t + 1))) = H1 at hd1 hc1 x1 ⊢
  -- if d['cells'] != []
  refine ⟨.ref d, rfl, d, .ref c, rfl, get_c hd1, Nat.zero_le _, fun p hp => ?_⟩
  have hd2 := upd_get (o := .lst []) hp hd1
  have hc2 := upd_get (o := .lst []) hp hc1
  have x2 : Ext d c H (upd H1 p (.lst [])) := x1.trans (Ext.new hp)
  have hp2 : (upd H1 p (.lst [])) p = some (.lst []) := upd_same
  generalize upd H1 p (.lst []) = H2 at hd2 hc2 x2 hp2 ⊢
  refine ⟨.list (ns.map PyData.int), .list [], .lst (.inl (.inl hc2)) (dpInts ns), .lst (.inl (.inl hp2)) .nil, shaped_ints ns, shaped_ints [], _, rfl, ?_⟩
  have dk : ∀ (H3 : Hp) (ns' : List Int), H3 d = some (.dK (deckD c m (t + 1))) → H3 c = some (.lst (ns'.map V.int)) → ns'.length ≤ 63 → Deck d c (n + 1) H3 :=
    fun H3 ns' a1 a2 a4 => ⟨ns', m, t + 1, a1, a2, by omega, by omega, a4⟩
  cases ns with
  | nil =>
    refine iteF ?_
    exact ⟨.int m, rfl, m, _, rfl, rfl, (by decide : (0 : Int) < 2147483629), .int (t + 1), rfl, _, _, rfl, rfl, .inl ⟨by decide, by decide⟩, .int (t + 1), rfl, _, _, rfl, rfl, .inr ⟨by omega, by omega⟩, _, _, rfl, rfl, _, _, rfl, rfl, _, _, rfl, rfl, .inr ⟨by decide, by decide⟩, _, _, rfl, rfl, (by decide : (0 : Int) < 2147483647),
      _, rfl, _, rfl, _, _, rfl, rfl, .inl (mod_small _ (by decide) (by decide)), .int (t + 1), rfl, _, _, rfl, rfl, .inl ⟨by decide, by decide⟩, _, _, rfl, rfl, _, _, rfl, rfl, _, _, rfl, rfl, (by decide : (0 : Int) < 2147483587),
      _, rfl, _, _, rfl, rfl, .inr ⟨by decide, by decide⟩, _, _, rfl, rfl, (by decide : (0 : Int) < 2147483563), _, _, rfl, rfl, ⟨by decide, by decide⟩, .int many, rfl, _, _, rfl, rfl, hm0,
      q _ _ (Int.emod_nonneg _ (by omega)) (Int.emod_lt_of_pos _ hm0) (dk H2 [] hd2 hc2 hns) x2⟩
  | cons x r =>
    refine iteT ?_
    obtain ⟨y, hy⟩ : ∃ y, (x :: r)[(x :: r).length - 1]? = some y := ⟨_, List.getElem?_eq_getElem (by simp)⟩
    refine ⟨.ref d, rfl, d, .ref c, rfl, get_c hd2, .inl ⟨rfl, _, .inl (.inl hc2)⟩, c, _, .int y, rfl, rfl, hc2, ?_, ?_⟩
    · rw [List.length_map, List.getElem?_map, hy]
      rfl
    have er : ((x :: r).map V.int).dropLast = ((x :: r).dropLast).map V.int := (List.map_dropLast ..).symm
    rw [er]
    have hr1 : ((x :: r).dropLast).length ≤ 62 := by rw [List.length_dropLast]; omega
    generalize (x :: r).dropLast = rs at hr1 ⊢
    generalize eH : upd H2 c (.lst (rs.map V.int)) = H3
    have hd3 : H3 d = some (.dK (deckD c m (t + 1))) := by rw [← eH, upd_ne ndc]; exact hd2
    have hc3 : H3 c = some (.lst (rs.map V.int)) := by rw [← eH]; exact upd_same
    have x3 : Ext d c H H3 := by rw [← eH]; exact x2.trans Ext.c
    refine ⟨.int y, rfl, _, _, rfl, rfl, ⟨by decide, by decide, by decide⟩, _, _, rfl, rfl, _, rfl, ite2 (fun e1 => ?_) (fun e1 => ?_)⟩
    · have wx : CDivW y many := wide_div hm0 (many_small hm0 hm1) (by decide) (by decide)
      refine ⟨.ref d, rfl, d, .ref c, rfl, get_c hd3, .inl ⟨rfl, _, .inl (.inl hc3)⟩, .int y, rfl, .int many, rfl, y, many, rfl, rfl, wx, c, _, _, rfl, rfl, hc3, ?_, ?_⟩
      · rw [List.length_map]
        exact Nat.lt_of_le_of_lt hr1 (by decide)
      refine ⟨.int y, rfl, .int many, rfl, y, many, rfl, rfl, hm0, ?_⟩
      refine q _ _ (Int.emod_nonneg _ (by omega)) (Int.emod_lt_of_pos _ hm0) (dk _ (rs ++ [y / many]) ?_ ?_ ?_) (x3.trans Ext.c)
      · rw [upd_ne ndc]; exact hd3
      · rw [upd_same, List.map_append]; rfl
      · rw [List.length_append]
        show rs.length + 1 ≤ 63
        omega
    refine ⟨.int y, rfl, .ref d, rfl, d, .int m, rfl, get_m hd3, y, m, rfl, rfl, ?_⟩
    exact ⟨.int (y + m), rfl, (y + m), _, rfl, rfl, (by decide : (0 : Int) < 2147483629), .int (t + 1), rfl, _, _, rfl, rfl, .inl ⟨by decide, by decide⟩, .int (t + 1), rfl, _, _, rfl, rfl, .inr ⟨by omega, by omega⟩, _, _, rfl, rfl, _, _, rfl, rfl, _, _, rfl, rfl, .inr ⟨by decide, by decide⟩, _, _, rfl, rfl, (by decide : (0 : Int) < 2147483647),
      _, rfl, _, rfl, _, _, rfl, rfl, .inl (mod_small _ (by decide) (by decide)), .int (t + 1), rfl, _, _, rfl, rfl, .inl ⟨by decide, by decide⟩, _, _, rfl, rfl, _, _, rfl, rfl, _, _, rfl, rfl, (by decide : (0 : Int) < 2147483587),
      _, rfl, _, _, rfl, rfl, .inr ⟨by decide, by decide⟩, _, _, rfl, rfl, (by decide : (0 : Int) < 2147483563), _, _, rfl, rfl, ⟨by decide, by decide⟩, .int many, rfl, _, _, rfl, rfl, hm0,
      q _ _ (Int.emod_nonneg _ (by omega)) (Int.emod_lt_of_pos _ hm0) (dk H3 rs hd3 hc3 (by omega)) x3⟩
/-! ### _law_deck -/
theorem cut_to (xs : List V) (k : Nat) : cutV xs none (some (k : Int)) = xs.take k := by
  unfold cutV
  rw [HT.sIx_none, HT.sIx_nat, Nat.sub_zero, List.drop_zero]
  by_cases h : k ≤ xs.length
  · rw [Nat.min_eq_left h]
  · rw [Nat.min_eq_right (by omega), List.take_length, List.take_of_length_le (by omega)]
theorem cut63 {ns : List Int} (h : ns.length ≤ 63) : cutV (ns.map V.int) none (some 63) = ns.map V.int := by
  have e := cut_to (ns.map V.int) 63
  rw [List.take_of_length_le (by rw [List.length_map]; exact h)] at e
  exact e
def spDeck (K : PySem.W.Frag) : Sp := fun vs H Q _ => ∃ (a : Addr) (ns : List Int), vs = [.ref a] ∧ SqL K H a (ns.map V.int) ∧ ns.length ≤ 63 ∧ ∀ (d c : Addr) (H' : Hp), Same H H' → Deck d c 0 H' → Q (.ref d) H'
set_option pp.maxSteps 600 in
theorem c_deck (T : Txt w K mg) : Cal P w K mg base "_law_deck" 1 ["_law_script"] (spDeck K) := by
  obtain ⟨fd, F⟩ := T.d__law_deck
  refine ⟨⟨fd, F.ok sc__law_deck (fun vs H Q E h => ?_) (fun cdv A outer s H vs Q E hr h => ?_), F.bindsN fun _ _ _ _ _ _ us hl => match us, hl with | [_], _ => rfl⟩, T.g _ (by decide), F.kp⟩
  · obtain ⟨a, ns, rfl, _⟩ := h
    rfl
  obtain ⟨a, ns, rfl, hS, hn, q⟩ := h
  refine ⟨_, PSs.nox (pss_cons (ps_par (i := 1) (j := 2) rfl sc__law_deck.nd rfl rfl (by decide) rfl rfl (pa_cons (pe_callTy call_list_of (by rfl) T.n_list (by decide +kernel) (pa_cons (pe_slice (sl_listK (K := K) rfl) (pv 0) po_none (po_some pe_int)) pa_nil)) (pa_cons pe_int pa_nil)) (by rfl))
      (pss_cons (ps_for PassesOwn.never rfl (pi_list (pv 1)) (pg_name (i := 3) sc__law_deck.nd rfl (.inl rfl)) (pss_one (ps_set (i := 2) sc__law_deck.nd rfl (.inl rfl) (pe_op op_mod (pe_op op_add (pe_op op_add (pe_op op_mul (pv 2) pe_int) (pe_op op_mod (pv 3) pe_int)) pe_int) pe_int))))
      (pss_one (ps_ret (pe_disp (pps_cons pe_str (pe_revL (pv 1)) (pps_cons pe_str (pv 2) (pps_cons pe_str pe_int pps_nil))) (by rfl) (by rfl) (fun z => by cases z) (by decide)))))), ?_⟩
  refine ⟨.ref a, rfl, 63, rfl, a, _, rfl, hS, fun p1 hp1 => ?_⟩
  rw [cut63 hn]
  have s1 : Same H (upd H p1 (.lst (ns.map V.int))) := fun b o h => upd_get hp1 h
  have h1 : (upd H p1 (.lst (ns.map V.int))) p1 = some (.lst (ns.map V.int)) := upd_same
  generalize upd H p1 (.lst (ns.map V.int)) = H1 at s1 h1 ⊢
  refine ⟨p1, _, rfl, .inl (.inl (.inl h1)), fun c0 hc0 => ?_⟩
  have s2 : Same H1 (upd H1 c0 (.lst (ns.map V.int))) := fun b o h => upd_get hc0 h
  have h2 : (upd H1 c0 (.lst (ns.map V.int))) c0 = some (.lst (ns.map V.int)) := upd_same
  have s02 := s1.trans s2
  generalize upd H1 c0 (.lst (ns.map V.int)) = H2 at s2 s02 h2 ⊢
  refine ⟨_, _, rfl, .ref c0, rfl, c0, rfl, ⟨_, .inl (.inl h2)⟩, ?_⟩
  refine for_list (xs := ns.map V.int) (fun i σ H3 => ∃ m x3, σ = [some (.ref a), some (.ref c0), some (.int m), x3] ∧ H3 = H2) ⟨_, _, rfl, rfl⟩ ?_ ?_ ?_
  · rintro i σ H3 _ ⟨m, x3, rfl, rfl⟩
    exact .inl (.inl h2)
  · rintro i x σ H3 hx ⟨m, x3, rfl, rfl⟩
    rw [List.getElem?_map] at hx
    obtain ⟨z, hz, rfl⟩ := Option.map_eq_some_iff.mp hx
    exact ⟨.int m, rfl, _, _, rfl, rfl, .inr ⟨by decide, by decide⟩, .int z, rfl, _, _, rfl, rfl, (by decide : (0 : Int) < 2147483563 + 66), _, _, rfl, rfl, _, _, rfl, rfl, _, _, rfl, rfl, (by decide : (0 : Int) < 2147483587), _, _, rfl, rfl⟩
  · rintro σ H3 ⟨m, x3, rfl, rfl⟩
    intro d hd
    have s3 : Same H3 (upd H3 d (.dK [])) := fun b o h => upd_get hd h
    have h3 : (upd H3 d (.dK [])) d = some (.dK []) := upd_same
    generalize upd H3 d (.dK []) = H4 at s3 h3 ⊢
    refine ⟨.ref c0, rfl, c0, _, rfl, .inl (.inl (s3 _ _ h2)), fun c hc => ?_⟩
    rw [← List.map_reverse]
    have s4 : Same H4 (upd H4 c (.lst (ns.reverse.map V.int))) := fun b o h => upd_get hc h
    have h4 : (upd H4 c (.lst (ns.reverse.map V.int))) c = some (.lst (ns.reverse.map V.int)) := upd_same
    generalize upd H4 c (.lst (ns.reverse.map V.int)) = H5 at s4 h4 ⊢
    have hd5 : H5 d = some (.dK []) := s4 _ _ h3
    refine ⟨.int m, rfl, hd5, [(kC, .ref c), (kM, .int m), (kN, .int 0)], rfl, (by show 3 ≤ 15; decide), ?_⟩
    have ndc : c ≠ d := fun e => by rw [e, hd5] at h4; cases h4
    refine q d c _ (fun b o h => ?_) ⟨ns.reverse, m, 0, upd_same, by rw [upd_ne ndc]; exact h4, by decide, by decide, by rw [List.length_reverse]; exact hn⟩
    have hb := s02 _ _ h
    rw [upd_ne (ne_of_none hb hd)]
    exact s4 _ _ (s3 _ _ hb)
/-! ### _law_pick -/
def spPick (K : PySem.W.Frag) : Sp := fun vs H Q _ => ∃ (d c a : Addr) (n : Nat) (xs : List V), vs = [.ref d, .ref a] ∧ Deck d c n H ∧ n < 2 ^ 60 ∧ SqL K (off d c H) a xs ∧ 0 < xs.length ∧ xs.length ≤ 1000 ∧ ∀ (j : Nat) (y : V) (H' : Hp), xs[j]? = some y → Deck d c (n + 1) H' → Ext d c H H' → Q y H'
theorem c_pick (T : Txt w K mg) : Cal P w K mg base "_law_pick" 2 ["_law_deck_here", "_law_some"] (spPick K) := by
  obtain ⟨fd, F⟩ := T.d__law_pick
  have C__law_draw := c_draw (P := P) (w := w) (base := base) T
  refine ⟨⟨fd, F.ok sc__law_pick (fun vs H Q E h => ?_) (fun cdv A outer s H vs Q E hr h => ?_), F.bindsN fun _ _ _ _ _ _ us hl => match us, hl with | [_, _], _ => rfl⟩, T.g _ (by decide), F.kp⟩
  · obtain ⟨d, c, a, n, xs, rfl, _⟩ := h
    rfl
  obtain ⟨d, c, a, n, xs, rfl, D, hn, hS, h0, h1, q⟩ := h
  refine ⟨_, PSs.nox (pss_one (ps_ret (pe_ix (ix_listK (K := K) rfl) (pv 1) (pe_cal C__law_draw (hr.mono (by omega)) (by rfl) (pa_cons (pv 0) (pa_cons (pe_callB (lenK (K := K) rfl) (by rfl) T.n_len (by decide +kernel) (pa_cons (pv 1) pa_nil)) pa_nil))) (fun _ _ => rfl)))), ?_⟩
  refine ⟨.ref a, rfl, .ref d, rfl, .ref a, rfl, .ref a, xs.length, rfl, .inl ⟨xs, offL hS, rfl⟩, d, c, n, xs.length, rfl, by omega, ?_, hn, D, fun r H' r0 r1 D' X => ?_⟩
  · have : (1000 : Int) < 10 ^ 40 := by decide
    omega
  · obtain ⟨j, rfl⟩ := Int.eq_ofNat_of_zero_le r0
    have hj : j < xs.length := by omega
    exact ⟨a, xs, j, xs[j], rfl, rfl, offL (X.sqL hS), atI_nat (List.getElem?_eq_getElem hj), q j _ _ (List.getElem?_eq_getElem hj) D' X⟩
end
end K48

set_option maxHeartbeats 4000000
/-! P54: objects as data: what is_object says. -/
namespace P54
open PySem HG
abbrev byName : List Str := ["definer", "body", "length", "live", "taken", "writes", "prints", "traps", "ends", "pure", "recursive", "constant", "unread", "result", "signature", "importable"]
abbrev byNum : List Str := ["targets", "writes_by", "pure_by"]
abbrev byPar : List Str := ["unused", "argument"]
def isN : PyData → Bool
  | .int _ => true
  | _ => false
def isNat : PyData → Bool
  | .int i => decide (0 ≤ i)
  | _ => false
def items : PyData → List PyData
  | .tuple ds => ds
  | _ => []
def at_ (d : PyData) (i : Nat) : PyData := (items d).getD i .none
/-- is_question -/
def isQ : PyData → Bool
  | .tuple [.str a, x] => if a ∈ byNum then isN x else decide (a ∈ byName) && isS x
  | .tuple [.str a, y, x] => decide (a ∈ byPar) && (isS y && isN x)
  | _ => false
/-- one key of a question's tuple -/
def key : PyData → L2.Key
  | .int i => Sum.inl i
  | .str z => Sum.inr z
  | _ => Sum.inl 0
def keys (d : PyData) : List L2.Key := (items d).map key
def ltK : L2.Key → L2.Key → Bool
  | .inl i, .inl j => decide (i < j)
  | .inr x, .inr y => decide (x.cps.toList < y.cps.toList)
  | _, _ => false
def lexB : List L2.Key → List L2.Key → Bool
  | [], [] => false
  | [], _ :: _ => true
  | _ :: _, [] => false
  | a :: r, b :: s => if a = b then lexB r s else ltK a b
/-- the three orders that are asked -/
def ltD : PyData → PyData → Bool
  | .int i, .int j => decide (i < j)
  | .str x, .str y => decide (x.cps.toList < y.cps.toList)
  | .tuple xs, .tuple ys => lexB (xs.map key) (ys.map key)
  | _, _ => false
def asc : List PyData → Bool
  | a :: b :: r => ltD a b && asc (b :: r)
  | _ => true
def isSig : PyData → Bool
  | .tuple [.tuple ds, b] => ds.all isNat && (asc ds && isB b)
  | _ => false
def isNamed (n : Nat) (d : PyData) : Bool := isT d && (decide ((items d).length = n) && (isS (at_ d 0) && isSig (at_ d 1)))
def isDer : PyData → Bool
  | .tuple [.tuple _, .tuple _] => true
  | _ => false
def areNamed (n : Nat) (d : PyData) : Bool := isT d && ((items d).all (isNamed n) && asc ((items d).map fun e => at_ e 0))
def areDefs (d : PyData) : Bool := areNamed 4 d && (items d).all fun e => isDer (at_ e 3)
def isFact (d : PyData) : Bool := isT d && (decide ((items d).length = 2) && isQ (at_ d 0))
def areFacts (d : PyData) : Bool := isT d && ((items d).all isFact && asc ((items d).map fun e => at_ e 0))
def isObj (d : PyData) : Bool := isT d && (decide ((items d).length = 5) && (isS (at_ d 0) && (isS (at_ d 1) && (areDefs (at_ d 2) && (areNamed 2 (at_ d 3) && areFacts (at_ d 4))))))
/-! ### questions and their order -/
inductive QS : PyData → Prop
  | num {a : Str} {i : Int} : a ∈ byNum → QS (.tuple [.str a, .int i])
  | name {a z : Str} : a ∈ byName → QS (.tuple [.str a, .str z])
  | par {a z : Str} {i : Int} : a ∈ byPar → QS (.tuple [.str a, .str z, .int i])
theorem qs_of {d : PyData} (h : isQ d = true) : QS d := by
  unfold isQ at h
  split at h
  · rename_i a x
    split at h
    · rename_i ha
      cases x with
      | int i => exact .num ha
      | none => simp [isN] at h
      | bool _ => simp [isN] at h
      | str _ => simp [isN] at h
      | list _ => simp [isN] at h
      | tuple _ => simp [isN] at h
      | dict _ => simp [isN] at h
    · simp only [Bool.and_eq_true, decide_eq_true_eq] at h
      cases x with
      | str z => exact .name h.1
      | none => simp [isS] at h
      | bool _ => simp [isS] at h
      | int _ => simp [isS] at h
      | list _ => simp [isS] at h
      | tuple _ => simp [isS] at h
      | dict _ => simp [isS] at h
  · rename_i a y x
    simp only [Bool.and_eq_true, decide_eq_true_eq] at h
    obtain ⟨ha, hy, hx⟩ := h
    cases y <;> simp [isS] at hy
    cases x <;> simp [isN] at hx
    exact .par ha
  · cases h
theorem isQ_of {d : PyData} (h : QS d) : isQ d = true := by
  cases h with
  | num ha => simp only [isQ, if_pos ha, isN]
  | @name a z ha =>
    have : a ∉ byNum := by
      intro h2
      revert a
      decide +kernel
    simp only [isQ, if_neg this, isS, decide_eq_true ha, Bool.and_self]
  | par ha => simp only [isQ, isS, isN, decide_eq_true ha, Bool.and_self]
theorem num_name {a : Str} (h : a ∈ byNum) : a ∉ byName := by
  revert a
  decide +kernel
theorem num_par {a : Str} (h : a ∈ byNum) : a ∉ byPar := by
  revert a
  decide +kernel
theorem name_par {a : Str} (h : a ∈ byName) : a ∉ byPar := by
  revert a
  decide +kernel
theorem lex_int (i j : Int) (r : List L2.Key) : LexR (Sum.inl i :: r) (Sum.inl j :: r) (lexB (Sum.inl i :: r) (Sum.inl j :: r)) ∨ r ≠ [] := by
  by_cases hr : r = []
  · subst hr
    left
    by_cases h : i = j
    · subst h
      have : lexB [Sum.inl i] [Sum.inl i] = false := by simp [lexB]
      rw [this]
      exact .eq .nn
    · have : lexB [Sum.inl i] [Sum.inl j] = decide (i < j) := by simp [lexB, h, ltK]
      rw [this]
      exact .ii h
  · exact .inr hr
theorem lex_head {a b : Str} (h : a ≠ b) (r s : List L2.Key) : LexR (Sum.inr a :: r) (Sum.inr b :: s) (lexB (Sum.inr a :: r) (Sum.inr b :: s)) := by
  have : lexB (Sum.inr a :: r) (Sum.inr b :: s) = decide (a.cps.toList < b.cps.toList) := by simp [lexB, h, ltK]
  rw [this]
  exact .ss h
theorem lex_eq {a : L2.Key} {r s : List L2.Key} (h : LexR r s (lexB r s)) : LexR (a :: r) (a :: s) (lexB (a :: r) (a :: s)) := by
  have : lexB (a :: r) (a :: s) = lexB r s := by simp [lexB]
  rw [this]
  exact .eq h
theorem lex_i {i j : Int} : LexR [Sum.inl i] [Sum.inl j] (lexB [Sum.inl i] [Sum.inl j]) := (lex_int i j []).resolve_right (fun h => h rfl)
theorem lex_s {x y : Str} {r s : List L2.Key} (h : x = y → LexR r s (lexB r s)) : LexR (Sum.inr x :: r) (Sum.inr y :: s) (lexB (Sum.inr x :: r) (Sum.inr y :: s)) := by
  by_cases e : x = y
  · subst e
    exact lex_eq (h rfl)
  · exact lex_head e r s
theorem lex_nil : LexR [] [] (lexB [] []) := .nn
/-- any two questions may be compared -/
theorem q_lex {d e : PyData} (hd : QS d) (he : QS e) : LexR (keys d) (keys e) (ltD d e) := by
  cases hd with
  | @num a i ha =>
    cases he with
    | @num b j hb => exact lex_s fun _ => lex_i
    | @name b z hb => exact lex_s fun e => absurd hb (num_name (e ▸ ha))
    | @par b z j hb => exact lex_s fun e => absurd hb (num_par (e ▸ ha))
  | @name a y ha =>
    cases he with
    | @num b j hb => exact lex_s fun e => absurd ha (num_name (e ▸ hb))
    | @name b z hb => exact lex_s fun _ => lex_s fun _ => lex_nil
    | @par b z j hb => exact lex_s fun e => absurd hb (name_par (e ▸ ha))
  | @par a y i ha =>
    cases he with
    | @num b j hb => exact lex_s fun e => absurd ha (num_par (e ▸ hb))
    | @name b z hb => exact lex_s fun e => absurd ha (name_par (e ▸ hb))
    | @par b z j hb => exact lex_s fun _ => lex_s fun _ => lex_i
end P54

set_option maxHeartbeats 4000000
/-! P54W: how much data show; places in data. -/
namespace P54
open PySem HG PyProof.Rows
mutual
def Sm (k : Nat) : PyData → Prop
  | .none => True
  | .bool _ => True
  | .int i => -(10 ^ 39 + (k : Int)) ≤ i ∧ i ≤ 10 ^ 39 + (k : Int)
  | .str z => OkS (2000 + k) z
  | .tuple ds => SmAll k ds
  | .list ds => SmAll k ds
  | .dict _ => False
def SmAll (k : Nat) : List PyData → Prop
  | [] => True
  | d :: ds => Sm k d ∧ SmAll k ds
end
mutual
def wt : PyData → Nat
  | .tuple ds => 5 + wtAll ds
  | .list ds => 5 + wtAll ds
  | .none => 5
  | .bool _ => 6
  | .int i => (PyData.shown (.int i)).length + 1
  | .str z => (PyData.shown (.str z)).length + 1
  | .dict _ => 0
def wtAll : List PyData → Nat
  | [] => 0
  | d :: ds => wt d + 2 + wtAll ds
end
structure Fine (k W d : Nat) (D : PyData) : Prop where
  sm : Sm k D
  wt : wt D ≤ W
  dp : D.depth ≤ d
theorem smAll_mem {k : Nat} : ∀ {ds : List PyData}, SmAll k ds ↔ ∀ d ∈ ds, Sm k d
  | [] => by simp [SmAll]
  | d :: ds => by
    simp only [SmAll, smAll_mem (ds := ds), List.mem_cons]
    constructor
    · rintro ⟨a, b⟩ x (rfl | hx)
      · exact a
      · exact b x hx
    · exact fun h => ⟨h d (.inl rfl), fun x hx => h x (.inr hx)⟩
theorem wtAll_mem : ∀ {ds : List PyData} {d : PyData}, d ∈ ds → wt d + 2 ≤ wtAll ds
  | e :: ds, d, h => by
    simp only [wtAll]
    rcases List.mem_cons.mp h with rfl | h
    · omega
    · have := wtAll_mem h
      omega
theorem wtAll_len : ∀ ds : List PyData, ds.length ≤ wtAll ds
  | [] => Nat.zero_le _
  | d :: ds => by
    have := wtAll_len ds
    simp only [wtAll, List.length_cons]
    omega
theorem wtAll_app : ∀ ds es : List PyData, wtAll (ds ++ es) = wtAll ds + wtAll es
  | [], es => by simp [wtAll]
  | d :: ds, es => by
    have := wtAll_app ds es
    simp only [List.cons_append, wtAll]
    omega
theorem depthAll_mem : ∀ {ds : List PyData} {d : PyData}, d ∈ ds → d.depth ≤ PyData.depthAll ds
  | e :: ds, d, h => by
    simp only [PyData.depthAll]
    rcases List.mem_cons.mp h with rfl | h
    · omega
    · have := depthAll_mem h
      omega
theorem depthAll_le {n : Nat} : ∀ {ds : List PyData}, (∀ d ∈ ds, d.depth ≤ n) → PyData.depthAll ds ≤ n
  | [], _ => by simp [PyData.depthAll]
  | d :: ds, h => by
    have h1 := h d List.mem_cons_self
    have h2 := depthAll_le (ds := ds) fun x hx => h x (List.mem_cons_of_mem _ hx)
    simp only [PyData.depthAll]
    omega
theorem dp_tup (ds : List PyData) : (PyData.tuple ds).depth = PyData.depthAll ds + 1 := by simp only [PyData.depth]
theorem dp_lst (ds : List PyData) : (PyData.list ds).depth = PyData.depthAll ds + 1 := by simp only [PyData.depth]
theorem wt_tup (ds : List PyData) : wt (.tuple ds) = 5 + wtAll ds := by simp only [wt]
theorem wt_lst (ds : List PyData) : wt (.list ds) = 5 + wtAll ds := by simp only [wt]
theorem sm_tup {k : Nat} {ds : List PyData} : Sm k (.tuple ds) ↔ ∀ d ∈ ds, Sm k d := by simp only [Sm]; exact smAll_mem
theorem sm_lst {k : Nat} {ds : List PyData} : Sm k (.list ds) ↔ ∀ d ∈ ds, Sm k d := by simp only [Sm]; exact smAll_mem
theorem Fine.mem {k W d : Nat} {ds : List PyData} (h : Fine k W d (.tuple ds)) : ∀ e ∈ ds, Fine k W d e := fun e he => by
  refine ⟨sm_tup.mp h.sm e he, ?_, ?_⟩
  · have := wtAll_mem he
    have := h.wt
    rw [wt_tup] at this
    omega
  · have := depthAll_mem he
    have := h.dp
    rw [dp_tup] at this
    omega
mutual
theorem Sm.up {k m : Nat} (hk : k ≤ m) : ∀ {D : PyData}, Sm k D → Sm m D
  | .none, _ => by simp only [Sm]
  | .bool _, _ => by simp only [Sm]
  | .int i, h => by
    simp only [Sm] at h ⊢
    omega
  | .str z, h => by
    simp only [Sm] at h ⊢
    exact h.up (by omega)
  | .tuple ds, h => by
    simp only [Sm] at h ⊢
    exact SmAll.up hk h
  | .list ds, h => by
    simp only [Sm] at h ⊢
    exact SmAll.up hk h
  | .dict _, h => by simp only [Sm] at h
theorem SmAll.up {k m : Nat} (hk : k ≤ m) : ∀ {ds : List PyData}, SmAll k ds → SmAll m ds
  | [], _ => by simp only [SmAll]
  | d :: ds, h => by
    simp only [SmAll] at h ⊢
    exact ⟨Sm.up hk h.1, SmAll.up hk h.2⟩
end
theorem Fine.up {k W d k' W' d' : Nat} {D : PyData} (h : Fine k W d D) (h1 : k ≤ k') (h2 : W ≤ W') (h3 : d ≤ d') : Fine k' W' d' D :=
  ⟨h.sm.up h1, Nat.le_trans h.wt h2, Nat.le_trans h.dp h3⟩
/-! ### what is shown -/
theorem log_small {i : Int} {k : Nat} (hk : k ≤ 1000) (h1 : -(10 ^ 39 + (k : Int)) ≤ i) (h2 : i ≤ 10 ^ 39 + (k : Int)) : i.natAbs.log2 < 1920 := by
  have h : i.natAbs < 2 ^ 200 := by
    have e : (10 : Int) ^ 39 + 1000 < 2 ^ 200 := by decide
    omega
  exact Nat.lt_of_lt_of_le (PySem.Flt.log2_lt_of (by decide) h) (by decide)
mutual
theorem shown_len {k : Nat} (hk : k ≤ 1000) : ∀ {D : PyData}, Sm k D → D.showable = true ∧ D.shown.length ≤ wt D
  | .none, _ => ⟨by simp only [PyData.showable], by decide⟩
  | .bool b, _ => ⟨by simp only [PyData.showable], by cases b <;> decide⟩
  | .int i, h => by
    simp only [Sm] at h
    exact ⟨by simp only [PyData.showable]; exact decide_eq_true (log_small hk h.1 h.2), by simp only [wt]; omega⟩
  | .str z, h => ⟨by simp only [PyData.showable], by simp only [wt]; omega⟩
  | .tuple ds, h => by
    simp only [Sm] at h
    obtain ⟨a, c, e⟩ := shownAll_len hk h
    have h3 := tupleText_len_le (PyData.shownAll ds)
    refine ⟨by simp only [PyData.showable, a], ?_⟩
    simp only [PyData.shown, wt]
    omega
  | .list ds, h => by
    simp only [Sm] at h
    obtain ⟨a, c, e⟩ := shownAll_len hk h
    have h3 := listText_len_le (PyData.shownAll ds)
    refine ⟨by simp only [PyData.showable, a], ?_⟩
    simp only [PyData.shown, wt]
    omega
  | .dict _, h => by simp only [Sm] at h
theorem shownAll_len {k : Nat} (hk : k ≤ 1000) : ∀ {ds : List PyData}, SmAll k ds → PyData.showableAll ds = true ∧ ((PyData.shownAll ds).map (·.length)).sum + 2 * (PyData.shownAll ds).length ≤ wtAll ds ∧ (PyData.shownAll ds).length = ds.length
  | [], _ => ⟨by simp only [PyData.showableAll], by simp only [PyData.shownAll, List.map_nil, List.sum_nil, wtAll, List.length_nil]; omega, by simp only [PyData.shownAll, List.length_nil]⟩
  | d :: ds, h => by
    simp only [SmAll] at h
    obtain ⟨a, c, e⟩ := shownAll_len hk h.2
    obtain ⟨q1, q2⟩ := shown_len hk h.1
    refine ⟨by simp only [PyData.showableAll, q1, a, Bool.and_self], ?_, by simp only [PyData.shownAll, List.length_cons, e]⟩
    simp only [PyData.shownAll, List.map_cons, List.sum_cons, List.length_cons, wtAll]
    omega
end
/-! ### atoms -/
theorem Fine.none (k d : Nat) : Fine k 100 d .none := ⟨by simp only [Sm], by decide, by simp only [PyData.depth]; omega⟩
theorem Fine.bool (k d : Nat) (b : Bool) : Fine k 100 d (.bool b) := ⟨by simp only [Sm], by simp only [P54.wt]; omega, by simp only [PyData.depth]; omega⟩
theorem Fine.int {k : Nat} (d : Nat) {i : Int} (hk : k ≤ 1000) (h1 : -(10 ^ 39 + (k : Int)) ≤ i) (h2 : i ≤ 10 ^ 39 + (k : Int)) : Fine k 2000 d (.int i) := by
  refine ⟨by simp only [Sm]; exact ⟨h1, h2⟩, ?_, by simp only [PyData.depth]; omega⟩
  have e := int_text_len_1921 (log_small hk h1 h2)
  simp only [P54.wt, PyData.shown]
  omega
theorem Fine.str {k m : Nat} (d : Nat) {z : Str} (h : OkS m z) (hm : m ≤ 2000 + k) : Fine k (10 * m + 3) d (.str z) := by
  refine ⟨by simp only [Sm]; exact h.up hm, ?_, by simp only [PyData.depth]; omega⟩
  have e := h.repr
  simp only [P54.wt, PyData.shown]
  omega
theorem wt_pos {D : PyData} {k : Nat} (h : Sm k D) : 1 ≤ wt D := by
  cases D with
  | dict _ => simp only [Sm] at h
  | _ => simp only [wt]; omega
/-! ### tuples -/
theorem wtAll_le {W n : Nat} : ∀ {ds : List PyData}, (∀ e ∈ ds, wt e ≤ W) → ds.length ≤ n → wtAll ds ≤ n * (W + 2)
  | [], _, _ => by simp only [wtAll]; omega
  | d :: ds, h, hn => by
    obtain ⟨m, rfl⟩ : ∃ m, n = m + 1 := ⟨n - 1, by rw [List.length_cons] at hn; omega⟩
    have h1 := h d List.mem_cons_self
    have h2 := wtAll_le (W := W) (n := m) (ds := ds) (fun x hx => h x (List.mem_cons_of_mem _ hx)) (by rw [List.length_cons] at hn; omega)
    simp only [wtAll]
    rw [Nat.add_mul, Nat.one_mul]
    omega
theorem Fine.tupN {k W d n : Nat} {ds : List PyData} (h : ∀ e ∈ ds, Fine k W d e) (hn : ds.length ≤ n) : Fine k (5 + n * (W + 2)) (d + 1) (.tuple ds) := by
  refine ⟨sm_tup.mpr fun e he => (h e he).sm, ?_, ?_⟩
  · rw [wt_tup]
    have := wtAll_le (W := W) (n := n) (fun e he => (h e he).wt) hn
    omega
  · rw [dp_tup]
    have := depthAll_le fun e he => (h e he).dp
    omega
theorem Fine.tup1 {k W d : Nat} {D : PyData} (h : Fine k W d D) : Fine k (W + 7) (d + 1) (.tuple [D]) := by
  refine ⟨sm_tup.mpr fun e he => by rw [List.mem_singleton.mp he]; exact h.sm, ?_, ?_⟩
  · rw [wt_tup]
    have := h.wt
    simp only [wtAll]
    omega
  · have := h.dp
    simp only [PyData.depth, PyData.depthAll]
    omega
theorem Fine.lst1 {k W d : Nat} {D : PyData} (h : Fine k W d D) : Fine k (W + 7) (d + 1) (.list [D]) := by
  refine ⟨sm_lst.mpr fun e he => by rw [List.mem_singleton.mp he]; exact h.sm, ?_, ?_⟩
  · rw [wt_lst]
    have := h.wt
    simp only [wtAll]
    omega
  · have := h.dp
    simp only [PyData.depth, PyData.depthAll]
    omega
theorem Fine.lst {k W d : Nat} {ds : List PyData} (h : Fine k W d (.tuple ds)) : Fine k W d (.list ds) :=
  ⟨sm_lst.mpr (sm_tup.mp h.sm), by have := h.wt; rw [wt_tup] at this; rw [wt_lst]; exact this, by have := h.dp; rw [dp_tup] at this; rw [dp_lst]; exact this⟩
/-- a tuple made of parts of a tuple -/
theorem Fine.sub {k W d : Nat} {ds es : List PyData} (h : Fine k W d (.tuple ds)) (hm : ∀ e ∈ es, e ∈ ds) (hw : wtAll es ≤ wtAll ds) : Fine k W d (.tuple es) := by
  refine ⟨sm_tup.mpr fun e he => sm_tup.mp h.sm e (hm e he), ?_, ?_⟩
  · have := h.wt
    rw [wt_tup] at this ⊢
    omega
  · have h1 := h.dp
    rw [dp_tup] at h1 ⊢
    have : PyData.depthAll es ≤ PyData.depthAll ds := depthAll_le fun e he => depthAll_mem (hm e he)
    omega
/-! ### places -/
mutual
def places : PyData → List (List Nat)
  | .tuple ds => [] :: placesAll 0 ds
  | _ => [[]]
def placesAll (i : Nat) : List PyData → List (List Nat)
  | [] => []
  | d :: ds => (places d).map (i :: ·) ++ placesAll (i + 1) ds
end
def getAt : PyData → List Nat → PyData
  | D, [] => D
  | D, i :: p => getAt (at_ D i) p
def putAt : PyData → List Nat → PyData → PyData
  | _, [], P => P
  | D, i :: p, P => .tuple ((items D).take i ++ [putAt (at_ D i) p P] ++ (items D).drop (i + 1))
def valid : PyData → List Nat → Prop
  | _, [] => True
  | D, i :: p => (∃ ds, D = .tuple ds ∧ i < ds.length) ∧ valid (at_ D i) p
theorem placesAll_len : ∀ (i : Nat) (ds : List PyData), (∀ d ∈ ds, (places d).length ≤ wt d) → (placesAll i ds).length ≤ wtAll ds
  | _, [], _ => by simp [placesAll]
  | i, d :: ds, h => by
    have h1 := h d List.mem_cons_self
    have h2 := placesAll_len (i + 1) ds fun x hx => h x (List.mem_cons_of_mem _ hx)
    simp only [placesAll, List.length_append, List.length_map, wtAll]
    omega
mutual
theorem places_len {k : Nat} : ∀ {D : PyData}, Sm k D → (places D).length ≤ wt D
  | .none, _ => by decide
  | .bool _, _ => by simp only [places, wt, List.length_singleton]; omega
  | .int _, _ => by simp only [places, wt, List.length_singleton]; omega
  | .str _, _ => by simp only [places, wt, List.length_singleton]; omega
  | .list ds, _ => by simp only [places, wt, List.length_singleton]; omega
  | .dict _, h => by simp only [Sm] at h
  | .tuple ds, h => by
    simp only [Sm] at h
    have := placesAll_lenS (i := 0) h
    simp only [places, wt, List.length_cons]
    omega
theorem placesAll_lenS {k i : Nat} : ∀ {ds : List PyData}, SmAll k ds → (placesAll i ds).length ≤ wtAll ds
  | [], _ => by simp [placesAll]
  | d :: ds, h => by
    simp only [SmAll] at h
    have h1 := places_len h.1
    have h2 := placesAll_lenS (i := i + 1) h.2
    simp only [placesAll, List.length_append, List.length_map, wtAll]
    omega
end
theorem placesAll_mem {i : Nat} {p : List Nat} : ∀ {ds : List PyData}, p ∈ placesAll i ds → ∃ j q d, p = (i + j) :: q ∧ ds[j]? = some d ∧ q ∈ places d
  | [], h => by simp [placesAll] at h
  | d :: ds, h => by
    simp only [placesAll, List.mem_append, List.mem_map] at h
    rcases h with ⟨q, hq, rfl⟩ | h
    · exact ⟨0, q, d, rfl, rfl, hq⟩
    · obtain ⟨j, q, e, rfl, he, hq⟩ := placesAll_mem (i := i + 1) h
      exact ⟨j + 1, q, e, by rw [Nat.add_assoc, Nat.add_comm 1], by simpa using he, hq⟩
theorem at_get {ds : List PyData} {j : Nat} {d : PyData} (h : ds[j]? = some d) : at_ (.tuple ds) j = d := by
  show ds.getD j .none = d
  rw [List.getD_eq_getElem?_getD, h]
  rfl
theorem places_valid : ∀ {p : List Nat} {D : PyData}, p ∈ places D → valid D p
  | [], _, _ => by simp only [valid]
  | i :: p, D, h => by
    cases D with
    | tuple ds =>
      simp only [places, List.mem_cons] at h
      rcases h with h | h
      · cases h
      · obtain ⟨j, q, d, e, hd, hq⟩ := placesAll_mem h
        injection e with e1 e2
        subst e2
        have : i = j := by omega
        subst this
        simp only [valid]
        refine ⟨⟨ds, rfl, (List.getElem?_eq_some_iff.mp hd).1⟩, ?_⟩
        rw [at_get hd]
        exact places_valid hq
    | none => simp [places] at h
    | bool _ => simp [places] at h
    | int _ => simp [places] at h
    | str _ => simp [places] at h
    | list _ => simp [places] at h
    | dict _ => simp [places] at h
theorem valid_len : ∀ {p : List Nat} {D : PyData}, valid D p → p.length ≤ D.depth
  | [], _, _ => Nat.zero_le _
  | i :: p, D, h => by
    simp only [valid] at h
    obtain ⟨⟨ds, rfl, hi⟩, hv⟩ := h
    have h1 := valid_len hv
    have hm : at_ (.tuple ds) i ∈ ds := by
      rw [at_get (List.getElem?_eq_getElem hi)]
      exact List.getElem_mem hi
    have := depthAll_mem hm
    rw [dp_tup, List.length_cons]
    omega
theorem getAt_fine {k W d : Nat} : ∀ {p : List Nat} {D : PyData}, valid D p → Fine k W d D → Fine k W d (getAt D p)
  | [], _, _, h => h
  | i :: p, D, hv, h => by
    simp only [valid] at hv
    obtain ⟨⟨ds, rfl, hi⟩, hv⟩ := hv
    simp only [getAt]
    refine getAt_fine hv ?_
    rw [at_get (List.getElem?_eq_getElem hi)]
    exact h.mem _ (List.getElem_mem hi)
theorem take_drop {ds : List PyData} {i : Nat} (hi : i < ds.length) : ds = ds.take i ++ [at_ (.tuple ds) i] ++ ds.drop (i + 1) := by
  rw [at_get (List.getElem?_eq_getElem hi)]
  simp
theorem putAt_fine {k W d U e : Nat} {P : PyData} (hP : Fine k U e P) : ∀ {p : List Nat} {D : PyData}, valid D p → Fine k W d D → Fine k (W + U) (d + e) (putAt D p P)
  | [], _, _, _ => hP.up (Nat.le_refl _) (by omega) (by omega)
  | i :: p, D, hv, h => by
    simp only [valid] at hv
    obtain ⟨⟨ds, rfl, hi⟩, hv⟩ := hv
    have hm : at_ (.tuple ds) i ∈ ds := by
      rw [at_get (List.getElem?_eq_getElem hi)]
      exact List.getElem_mem hi
    have hw := h.wt
    have hd := h.dp
    rw [wt_tup] at hw
    rw [dp_tup] at hd
    have ew : wtAll ds = wtAll (ds.take i) + (wt (at_ (.tuple ds) i) + 2) + wtAll (ds.drop (i + 1)) := by
      conv => lhs; rw [take_drop hi]
      rw [wtAll_app, wtAll_app]
      simp only [wtAll]
    have ih := putAt_fine (W := wt (at_ (.tuple ds) i)) (d := d - 1) hP hv ⟨sm_tup.mp h.sm _ hm, Nat.le_refl _, by have := depthAll_mem hm; omega⟩
    simp only [putAt, items]
    refine ⟨sm_tup.mpr fun x hx => ?_, ?_, ?_⟩
    · simp only [List.mem_append, List.mem_singleton] at hx
      rcases hx with (hx | rfl) | hx
      · exact sm_tup.mp h.sm x (List.mem_of_mem_take hx)
      · exact ih.sm
      · exact sm_tup.mp h.sm x (List.mem_of_mem_drop hx)
    · rw [wt_tup, wtAll_app, wtAll_app]
      have := ih.wt
      simp only [wtAll]
      omega
    · rw [dp_tup]
      have : PyData.depthAll (ds.take i ++ [putAt (at_ (.tuple ds) i) p P] ++ ds.drop (i + 1)) ≤ d - 1 + e := depthAll_le fun x hx => by
        simp only [List.mem_append, List.mem_singleton] at hx
        rcases hx with (hx | rfl) | hx
        · have := depthAll_mem (List.mem_of_mem_take hx)
          omega
        · exact ih.dp
        · have := depthAll_mem (List.mem_of_mem_drop hx)
          omega
      omega
end P54

set_option maxHeartbeats 4000000
/-! P52: graphs as data, and what the code of one is. -/
namespace P52
open PySem HG
inductive Opd where
  | w (i : Int)
  | v (n : Nat)
  deriving DecidableEq
abbrev vD (n : Nat) : PyData := .tuple [.str "var", .int (n : Int)]
def oD : Opd → PyData
  | .w i => .int i
  | .v n => vD n
def ovD : Option Nat → PyData
  | none => .none
  | some n => .int (n : Int)
inductive Rw where
  | cw (v : Nat) (i : Int)
  | cf (v : Nat) (x : Str)
  | cp (v u : Nat)
  | op (v : Nat) (x : Str) (a b : Opd)
  | ld (v : Nat) (x : Str)
  | rd (v : Nat) (x : Str) (a : Opd)
  | ca (v : Option Nat) (x : Str) (as : List Opd)
  | ap (v : Option Nat) (f : Nat) (as : List Opd)
  | st (x : Str) (a : Opd)
  | pr (a : Opd)
  | wr (x : Str) (a b : Opd)
def Rw.word : Rw → Str
  | .cw .. => "const"
  | .cf .. => "const"
  | .cp .. => "copy"
  | .op .. => "op"
  | .ld .. => "load"
  | .rd .. => "read"
  | .ca .. => "call"
  | .ap .. => "apply"
  | .st .. => "store"
  | .pr .. => "print"
  | .wr .. => "write"
def Rw.rest : Rw → List PyData
  | .cw v i => [.int v, .int i]
  | .cf v x => [.int v, .tuple [.str "func", .str x]]
  | .cp v u => [.int v, .int u]
  | .op v x a b => [.int v, .str x, oD a, oD b]
  | .ld v x => [.int v, .str x]
  | .rd v x a => [.int v, .str x, oD a]
  | .ca v x as => [ovD v, .str x, .tuple (as.map oD)]
  | .ap v f as => [ovD v, .int f, .tuple (as.map oD)]
  | .st x a => [.str x, oD a]
  | .pr a => [oD a]
  | .wr x a b => [.str x, oD a, oD b]
abbrev Rw.L (R : Rw) : List PyData := .str R.word :: R.rest
abbrev Rw.D (R : Rw) : PyData := .tuple R.L
def Rw.ops : Rw → List Opd
  | .cw .. => []
  | .cf .. => []
  | .cp _ u => [.v u]
  | .op _ _ a b => [a, b]
  | .ld .. => []
  | .rd _ _ a => [a]
  | .ca _ _ as => as
  | .ap _ f as => .v f :: as
  | .st _ a => [a]
  | .pr a => [a]
  | .wr _ a b => [a, b]
def Rw.set : Rw → Option Nat
  | .cw v _ => some v
  | .cf v _ => some v
  | .cp v _ => some v
  | .op v _ _ _ => some v
  | .ld v _ => some v
  | .rd v _ _ => some v
  | .ca v _ _ => v
  | .ap v _ _ => v
  | .st .. => none
  | .pr .. => none
  | .wr .. => none
/-! ### in slots -/
abbrev sv (S : List PyData) (n : Nat) : PyData := S.getD n .none
def oS (S : List PyData) : Opd → PyData
  | .w i => .int i
  | .v n => .tuple [.str "var", sv S n]
def ovS (S : List PyData) : Option Nat → PyData
  | none => .none
  | some n => sv S n
/-- with the operands in slots -/
def Rw.wo (S : List PyData) : Rw → List PyData
  | .cw v i => [.str "const", .int v, .int i]
  | .cf v x => [.str "const", .int v, .tuple [.str "func", .str x]]
  | .cp v u => [.str "copy", .int v, sv S u]
  | .op v x a b => [.str "op", .int v, .str x, oS S a, oS S b]
  | .ld v x => [.str "load", .int v, .str x]
  | .rd v x a => [.str "read", .int v, .str x, oS S a]
  | .ca v x as => [.str "call", ovD v, .str x, .tuple (as.map (oS S))]
  | .ap v f as => [.str "apply", ovD v, sv S f, .tuple (as.map (oS S))]
  | .st x a => [.str "store", .str x, oS S a]
  | .pr a => [.str "print", oS S a]
  | .wr x a b => [.str "write", .str x, oS S a, oS S b]
def Rw.S (S : List PyData) : Rw → List PyData
  | .cw v i => [.str "const", sv S v, .int i]
  | .cf v x => [.str "const", sv S v, .tuple [.str "func", .str x]]
  | .cp v u => [.str "copy", sv S v, sv S u]
  | .op v x a b => [.str "op", sv S v, .str x, oS S a, oS S b]
  | .ld v x => [.str "load", sv S v, .str x]
  | .rd v x a => [.str "read", sv S v, .str x, oS S a]
  | .ca v x as => [.str "call", ovS S v, .str x, .tuple (as.map (oS S))]
  | .ap v f as => [.str "apply", ovS S v, sv S f, .tuple (as.map (oS S))]
  | .st x a => [.str "store", .str x, oS S a]
  | .pr a => [.str "print", oS S a]
  | .wr x a b => [.str "write", .str x, oS S a, oS S b]
/-! ### ends -/
inductive Stp where
  | jp (n : Nat)
  | br (a : Opd) (n m : Nat)
  | rt (a : Option Opd)
  | ht (i : Int)
def ooD : Option Opd → PyData
  | none => .none
  | some a => oD a
def ooS (S : List PyData) : Option Opd → PyData
  | none => .none
  | some a => oS S a
def Stp.word : Stp → Str
  | .jp _ => "jump"
  | .br .. => "branch"
  | .rt _ => "return"
  | .ht _ => "halt"
def Stp.rest : Stp → List PyData
  | .jp n => [.int n]
  | .br a n m => [oD a, .int n, .int m]
  | .rt a => [ooD a]
  | .ht i => [.int i]
abbrev Stp.L (E : Stp) : List PyData := .str E.word :: E.rest
abbrev Stp.D (E : Stp) : PyData := .tuple E.L
def Stp.ops : Stp → List Opd
  | .jp _ => []
  | .br a _ _ => [a]
  | .rt none => []
  | .rt (some a) => [a]
  | .ht _ => []
def Stp.S (S : List PyData) : Stp → List PyData
  | .jp n => [.str "jump", .int n]
  | .br a n m => [.str "branch", oS S a, .int n, .int m]
  | .rt a => [.str "return", ooS S a]
  | .ht i => [.str "halt", .int i]
/-- the instructions of an end; the next block is k -/
def Stp.code (S : List PyData) (k : Nat) : Stp → List (List PyData)
  | .jp n => if n = k then [] else [[.str "jump", .int n]]
  | .br a n m => if m = k then [[.str "branch", oS S a, .int n]] else if n = k then [[.str "unless", oS S a, .int m]] else [[.str "branch", oS S a, .int n], [.str "jump", .int m]]
  | .rt a => [[.str "return", ooS S a]]
  | .ht i => [[.str "halt", .int i]]
def Stp.to : Stp → List Nat
  | .jp n => [n]
  | .br _ n m => [n, m]
  | .rt _ => []
  | .ht _ => []
/-! ### blocks, graphs -/
structure Blk where
  rows : List Rw
  stop : Stp
abbrev Blk.D (b : Blk) : PyData := .tuple [.tuple (b.rows.map Rw.D), b.stop.D]
structure Gr where
  count : Nat
  blocks : List Blk
abbrev Gr.D (g : Gr) : PyData := .tuple [.int (g.count : Int), .tuple (g.blocks.map Blk.D)]
def Blk.code (S : List PyData) (k : Nat) (b : Blk) : List (List PyData) := b.rows.map (Rw.S S) ++ b.stop.code S (k + 1)
def partsFrom (S : List PyData) : Nat → List Blk → List (List (List PyData))
  | _, [] => []
  | k, b :: r => b.code S k :: partsFrom S (k + 1) r
abbrev Gr.parts (S : List PyData) (g : Gr) : List (List (List PyData)) := partsFrom S 0 g.blocks
/-- where each part begins -/
def startsFrom : Nat → List (List (List PyData)) → List Nat
  | _, [] => []
  | n, p :: r => n :: startsFrom (n + p.length) r
def isJ (x : Str) : Bool := L2.inV (.str x) [.str "jump", .str "branch", .str "unless"]
def place (ps : List Nat) : List PyData → List PyData
  | .str x :: ds => if isJ x = true then (.str x :: ds).dropLast ++ [match ((PyData.str x :: ds).getLast?) with
      | some (.int i) => .int ((ps.getD i.toNat 0 : Nat) : Int)
      | _ => .none] else .str x :: ds
  | ds => ds
def Gr.code (S : List PyData) (g : Gr) : List (List PyData) := (g.parts S).flatten.map (place (startsFrom 0 (g.parts S)))
/-! ### variables -/
def Opd.vars : Opd → List Nat
  | .w _ => []
  | .v n => [n]
def opsVars (l : List Opd) : List Nat := l.flatMap Opd.vars
def Rw.vars (R : Rw) : List Nat := opsVars R.ops ++ R.set.toList
def Blk.vars (b : Blk) : List Nat := opsVars b.stop.ops ++ b.rows.flatMap Rw.vars
def Gr.vars (g : Gr) : List Nat := g.blocks.flatMap Blk.vars
/-- its variables and its places are there -/
structure Gr.Ok (g : Gr) (S : List PyData) : Prop where
  vars : ∀ n ∈ g.vars, n < S.length
  to : ∀ b ∈ g.blocks, ∀ n ∈ b.stop.to, n < g.blocks.length
end P52

set_option maxHeartbeats 4000000
/-! P52C: parts and their starts, block by block. -/
namespace P52
open PySem HG
theorem partsFrom_snoc (S : List PyData) (b : Blk) : ∀ (k : Nat) (l : List Blk), partsFrom S k (l ++ [b]) = partsFrom S k l ++ [b.code S (k + l.length)]
  | k, [] => rfl
  | k, x :: l => by
    rw [List.cons_append]
    simp only [partsFrom]
    rw [partsFrom_snoc S b (k + 1) l, List.length_cons, List.cons_append, Nat.add_assoc, Nat.add_comm 1]
theorem startsFrom_snoc (q : List (List PyData)) : ∀ (n : Nat) (l : List (List (List PyData))), startsFrom n (l ++ [q]) = startsFrom n l ++ [n + l.flatten.length]
  | n, [] => rfl
  | n, x :: l => by
    rw [List.cons_append]
    simp only [startsFrom]
    rw [startsFrom_snoc q (n + x.length) l, List.flatten_cons, List.length_append, List.cons_append, Nat.add_assoc]
theorem parts_take {S : List PyData} {bs : List Blk} {i : Nat} {b : Blk} (h : bs[i]? = some b) : partsFrom S 0 (bs.take (i + 1)) = partsFrom S 0 (bs.take i) ++ [b.code S i] := by
  have hi := (List.getElem?_eq_some_iff.mp h).1
  rw [List.take_add_one, h]
  show partsFrom S 0 (bs.take i ++ [b]) = _
  rw [partsFrom_snoc, List.length_take, Nat.zero_add, Nat.min_eq_left (by omega)]
theorem partsFrom_len (S : List PyData) : ∀ (k : Nat) (l : List Blk), (partsFrom S k l).length = l.length
  | _, [] => rfl
  | k, b :: l => by simp only [partsFrom, List.length_cons, partsFrom_len S (k + 1) l]
theorem startsFrom_len : ∀ (n : Nat) (l : List (List (List PyData))), (startsFrom n l).length = l.length
  | _, [] => rfl
  | n, p :: l => by simp only [startsFrom, List.length_cons, startsFrom_len (n + p.length) l]
theorem partsFrom_mem {S : List PyData} {p : List (List PyData)} : ∀ {k : Nat} {l : List Blk}, p ∈ partsFrom S k l → ∃ b ∈ l, ∃ j, p = b.code S j
  | k, [], h => by cases h
  | k, b :: l, h => by
    simp only [partsFrom] at h
    rcases List.mem_cons.mp h with z | z
    · exact ⟨b, List.mem_cons_self, k, z⟩
    · obtain ⟨b', h1, h2⟩ := partsFrom_mem z
      exact ⟨b', List.mem_cons_of_mem _ h1, h2⟩
theorem code_len (S : List PyData) (k : Nat) (E : Stp) : (E.code S k).length ≤ 2 := by
  cases E with
  | jp n =>
    simp only [Stp.code]
    split <;> simp
  | br a n m =>
    simp only [Stp.code]
    split
    · simp
    · split <;> simp
  | rt a => simp [Stp.code]
  | ht i => simp [Stp.code]
theorem flat_len {S : List PyData} {m : Nat} : ∀ {k : Nat} {l : List Blk}, (∀ b ∈ l, b.rows.length ≤ m) → (partsFrom S k l).flatten.length ≤ l.length * (m + 2)
  | _, [], _ => by simp [partsFrom]
  | k, b :: l, h => by
    have h1 := flat_len (S := S) (k := k + 1) (l := l) fun b hb => h b (List.mem_cons_of_mem _ hb)
    have h2 := h b List.mem_cons_self
    have h3 := code_len S (k + 1) b.stop
    simp only [partsFrom, List.flatten_cons, List.length_append, List.length_cons, Blk.code, List.length_map]
    rw [Nat.add_mul, Nat.one_mul]
    omega
/-- its variables are there, its places too; it is not too great -/
structure Gr.In (g : Gr) (S : List PyData) : Prop where
  ops : ∀ b ∈ g.blocks, ∀ R ∈ b.rows, ∀ a ∈ R.ops, ∀ n ∈ a.vars, n < S.length
  set : ∀ b ∈ g.blocks, ∀ R ∈ b.rows, ∀ n, R.set = some n → n < S.length
  end_ : ∀ b ∈ g.blocks, ∀ a ∈ b.stop.ops, ∀ n ∈ a.vars, n < S.length
  to : ∀ b ∈ g.blocks, ∀ n ∈ b.stop.to, n < g.blocks.length
  len : ∀ b ∈ g.blocks, ∀ R ∈ b.rows, R.ops.length ≤ 1000
  rows : ∀ b ∈ g.blocks, b.rows.length ≤ 100
  many : g.blocks.length ≤ 100
end P52

set_option maxHeartbeats 4000000
/-! P52G: graphs as they are drawn: their variables are below N; they are small. -/
namespace P52
open PySem HG P54
abbrev Nm (x : Str) : Prop := OkS 12 x
def OpdOk (N : Nat) : Opd → Prop
  | .w i => 0 ≤ i ∧ i < 65536
  | .v n => n < N
def optOk (N : Nat) (v : Option Nat) : Prop := ∀ n, v = some n → n < N
def RwOk (N : Nat) : Rw → Prop
  | .cw v i => v < N ∧ 0 ≤ i ∧ i < 65536
  | .cf v x => v < N ∧ Nm x
  | .cp v u => v < N ∧ u < N
  | .op v x a b => v < N ∧ Nm x ∧ OpdOk N a ∧ OpdOk N b
  | .ld v x => v < N ∧ Nm x
  | .rd v x a => v < N ∧ Nm x ∧ OpdOk N a
  | .ca v x as => optOk N v ∧ Nm x ∧ as.length ≤ 2 ∧ ∀ a ∈ as, OpdOk N a
  | .ap v f as => optOk N v ∧ f < N ∧ as.length ≤ 2 ∧ ∀ a ∈ as, OpdOk N a
  | .st x a => Nm x ∧ OpdOk N a
  | .pr a => OpdOk N a
  | .wr x a b => Nm x ∧ OpdOk N a ∧ OpdOk N b
def StpOk (N B : Nat) : Stp → Prop
  | .jp n => n < B
  | .br a n m => OpdOk N a ∧ n < B ∧ m < B
  | .rt a => ∀ o, a = some o → OpdOk N o
  | .ht i => 0 ≤ i ∧ i < 65536
structure BkOk (N B : Nat) (b : Blk) : Prop where
  rows : ∀ R ∈ b.rows, RwOk N R
  stop : StpOk N B b.stop
  len : b.rows.length ≤ 15
structure GrOk (N : Nat) (g : Gr) : Prop where
  count : g.count ≤ 3
  cN : g.count ≤ N
  small : N ≤ 10
  pos : 0 < g.blocks.length
  many : g.blocks.length ≤ 9
  blk : ∀ b ∈ g.blocks, BkOk N g.blocks.length b
theorem OpdOk.vars {N : Nat} {a : Opd} (h : OpdOk N a) : ∀ n ∈ a.vars, n < N := by
  cases a with
  | w i => intro n hn; cases hn
  | v m =>
    intro n hn
    rw [List.mem_singleton.mp hn]
    exact h
theorem RwOk.ops {N : Nat} {R : Rw} (h : RwOk N R) : ∀ a ∈ R.ops, OpdOk N a := by
  cases R <;> simp only [RwOk] at h <;> intro a ha <;> simp only [Rw.ops, List.mem_cons, List.not_mem_nil, or_false] at ha
  case cp v u => subst ha; exact h.2
  case op v x p q =>
    rcases ha with rfl | rfl
    · exact h.2.2.1
    · exact h.2.2.2
  case rd v x p => subst ha; exact h.2.2
  case ca v x as => exact h.2.2.2 a ha
  case ap v f as =>
    rcases ha with rfl | ha
    · exact h.2.1
    · exact h.2.2.2 a ha
  case st x p => subst ha; exact h.2
  case pr p => subst ha; exact h
  case wr x p q =>
    rcases ha with rfl | rfl
    · exact h.2.1
    · exact h.2.2
theorem RwOk.set {N : Nat} {R : Rw} (h : RwOk N R) : ∀ n, R.set = some n → n < N := by
  intro n hn
  cases R <;> simp only [RwOk] at h <;> simp only [Rw.set] at hn
  case cw v i => cases hn; exact h.1
  case cf v i => cases hn; exact h.1
  case cp v i => cases hn; exact h.1
  case op v x a b => cases hn; exact h.1
  case ld v x => cases hn; exact h.1
  case rd v x a => cases hn; exact h.1
  case ca v x as => exact h.1 n hn
  case ap v x as => exact h.1 n hn
  case st => cases hn
  case pr => cases hn
  case wr => cases hn
theorem RwOk.len {N : Nat} {R : Rw} (h : RwOk N R) : R.ops.length ≤ 3 := by
  cases R <;> simp only [RwOk] at h <;> simp only [Rw.ops, List.length_cons, List.length_nil] <;> omega
theorem StpOk.ops {N B : Nat} {E : Stp} (h : StpOk N B E) : ∀ a ∈ E.ops, OpdOk N a := by
  cases E with
  | jp n => intro a ha; cases ha
  | br o n m =>
    intro a ha
    rw [List.mem_singleton.mp ha]
    exact h.1
  | rt o =>
    cases o with
    | none => intro a ha; cases ha
    | some o =>
      intro a ha
      rw [List.mem_singleton.mp ha]
      exact h o rfl
  | ht i => intro a ha; cases ha
theorem StpOk.to {N B : Nat} {E : Stp} (h : StpOk N B E) : ∀ n ∈ E.to, n < B := by
  cases E with
  | jp m =>
    intro n hn
    rw [List.mem_singleton.mp hn]
    exact h
  | br o m k =>
    intro n hn
    simp only [Stp.to, List.mem_cons, List.not_mem_nil, or_false] at hn
    rcases hn with rfl | rfl
    · exact h.2.1
    · exact h.2.2
  | rt o => intro n hn; cases hn
  | ht i => intro n hn; cases hn
/-! ### small -/
theorem fnI {i : Int} (d : Nat) (h0 : 0 ≤ i) (h : i < 10 ^ 9) : Fine 0 2000 d (.int i) := by
  have e : (10 : Int) ^ 9 < 10 ^ 39 := by decide
  exact Fine.int d (by decide) (by omega) (by omega)
theorem fnN {n : Nat} (d : Nat) (h : n < 1000000) : Fine 0 2000 d (.int (n : Int)) := by
  have e : (1000000 : Int) < 10 ^ 9 := by decide
  exact fnI d (by omega) (by omega)
theorem fnS {x : Str} (d : Nat) (h : Nm x) : Fine 0 2000 d (.str x) := (Fine.str d h (by decide)).up (Nat.le_refl _) (by decide) (Nat.le_refl _)
theorem fnO {N : Nat} {a : Opd} (hN : N ≤ 10) (h : OpdOk N a) : Fine 0 4100 1 (oD a) := by
  cases a with
  | w i =>
    have : (65536 : Int) < 10 ^ 9 := by decide
    exact (fnI 1 h.1 (by have := h.2; omega)).up (Nat.le_refl _) (by decide) (Nat.le_refl _)
  | v n =>
    have hv : Nm ("var" : Str) := ⟨by decide +kernel, by decide +kernel⟩
    have h' : n < N := h
    refine (Fine.tupN (n := 2) (d := 0) (W := 2000) (ds := [.str "var", .int (n : Int)]) (fun e he => ?_) (Nat.le_refl 2)).up (Nat.le_refl _) (by decide) (Nat.le_refl _)
    simp only [List.mem_cons, List.not_mem_nil, or_false] at he
    rcases he with rfl | rfl
    · exact fnS 0 hv
    · exact fnN 0 (by omega)
theorem fnV {N : Nat} {v : Option Nat} (d : Nat) (hN : N ≤ 10) (h : optOk N v) : Fine 0 2000 d (ovD v) := by
  cases v with
  | none => exact (Fine.none 0 d).up (Nat.le_refl _) (by decide) (Nat.le_refl _)
  | some n => exact fnN d (by have := h n rfl; omega)
theorem word_nm (R : Rw) : Nm R.word := by cases R <;> exact ⟨by dsimp only [Rw.word]; decide +kernel, by dsimp only [Rw.word]; decide +kernel⟩
theorem fnAs {N : Nat} {as : List Opd} (hN : N ≤ 10) (hl : as.length ≤ 2) (h : ∀ a ∈ as, OpdOk N a) : Fine 0 8300 2 (.tuple (as.map oD)) := by
  refine (Fine.tupN (n := 2) (d := 1) (W := 4100) (fun e he => ?_) (by rw [List.length_map]; exact hl)).up (Nat.le_refl _) (by decide) (Nat.le_refl _)
  obtain ⟨a, ha, rfl⟩ := List.mem_map.mp he
  exact fnO hN (h a ha)
theorem fnR {N : Nat} {R : Rw} (hN : N ≤ 10) (h : RwOk N R) : Fine 0 42000 3 R.D := by
  have key : R.L.length ≤ 5 ∧ ∀ e ∈ R.L, Fine 0 8300 2 e := by
    have hw : Fine 0 8300 2 (.str R.word) := (fnS 2 (word_nm R)).up (Nat.le_refl _) (by decide) (Nat.le_refl _)
    have o : ∀ {a : Opd}, OpdOk N a → Fine 0 8300 2 (oD a) := fun h => (fnO hN h).up (Nat.le_refl _) (by decide) (by decide)
    have s : ∀ {x : Str}, Nm x → Fine 0 8300 2 (.str x) := fun h => (fnS 2 h).up (Nat.le_refl _) (by decide) (Nat.le_refl _)
    have n : ∀ {m : Nat}, m < N → Fine 0 8300 2 (.int (m : Int)) := fun {m} h => (fnN 2 (by omega)).up (Nat.le_refl _) (by decide) (Nat.le_refl _)
    refine ⟨by cases R <;> exact Nat.le_of_ble_eq_true rfl, fun e he => ?_⟩
    have he2 := List.mem_cons.mp he
    clear he
    rcases he2 with rfl | he
    · exact hw
    cases R <;> simp only [RwOk] at h <;> simp only [Rw.rest, List.mem_cons, List.not_mem_nil, or_false] at he
    case cw v i =>
      rcases he with rfl | rfl
      · exact n h.1
      · have : (65536 : Int) < 10 ^ 9 := by decide
        exact (fnI 2 h.2.1 (by omega)).up (Nat.le_refl _) (by decide) (Nat.le_refl _)
    case cf v x =>
      rcases he with rfl | rfl
      · exact n h.1
      · have hf : Nm ("func" : Str) := ⟨by decide +kernel, by decide +kernel⟩
        refine (Fine.tupN (n := 2) (d := 1) (W := 2000) (ds := [.str "func", .str x]) (fun e he => ?_) (Nat.le_refl 2)).up (Nat.le_refl _) (by decide) (Nat.le_refl _)
        simp only [List.mem_cons, List.not_mem_nil, or_false] at he
        rcases he with rfl | rfl
        · exact fnS 1 hf
        · exact fnS 1 h.2
    case cp v u =>
      rcases he with rfl | rfl
      · exact n h.1
      · exact n h.2
    case op v x a b =>
      rcases he with rfl | rfl | rfl | rfl
      · exact n h.1
      · exact s h.2.1
      · exact o h.2.2.1
      · exact o h.2.2.2
    case ld v x =>
      rcases he with rfl | rfl
      · exact n h.1
      · exact s h.2
    case rd v x a =>
      rcases he with rfl | rfl | rfl
      · exact n h.1
      · exact s h.2.1
      · exact o h.2.2
    case ca v x as =>
      rcases he with rfl | rfl | rfl
      · exact (fnV 2 hN h.1).up (Nat.le_refl _) (by decide) (Nat.le_refl _)
      · exact s h.2.1
      · exact fnAs hN h.2.2.1 h.2.2.2
    case ap v f as =>
      rcases he with rfl | rfl | rfl
      · exact (fnV 2 hN h.1).up (Nat.le_refl _) (by decide) (Nat.le_refl _)
      · exact n h.2.1
      · exact fnAs hN h.2.2.1 h.2.2.2
    case st x a =>
      rcases he with rfl | rfl
      · exact s h.1
      · exact o h.2
    case pr a => subst he; exact o h
    case wr x a b =>
      rcases he with rfl | rfl | rfl
      · exact s h.1
      · exact o h.2.1
      · exact o h.2.2
  exact (Fine.tupN (n := 5) (d := 2) (W := 8300) key.2 key.1).up (Nat.le_refl _) (by decide) (Nat.le_refl _)
theorem fnE {N B : Nat} {E : Stp} (hN : N ≤ 10) (hB : B ≤ 9) (h : StpOk N B E) : Fine 0 42000 3 E.D := by
  have hw : Nm E.word := by cases E <;> exact ⟨by dsimp only [Stp.word]; decide +kernel, by dsimp only [Stp.word]; decide +kernel⟩
  have o : ∀ {a : Opd}, OpdOk N a → Fine 0 8300 2 (oD a) := fun h => (fnO hN h).up (Nat.le_refl _) (by decide) (by decide)
  have n : ∀ {m : Nat}, m < B → Fine 0 8300 2 (.int (m : Int)) := fun {m} h => (fnN 2 (by omega)).up (Nat.le_refl _) (by decide) (Nat.le_refl _)
  refine (Fine.tupN (n := 5) (d := 2) (W := 8300) (fun e he => ?_) (by cases E <;> exact Nat.le_of_ble_eq_true rfl)).up (Nat.le_refl _) (by decide) (Nat.le_refl _)
  rcases List.mem_cons.mp he with rfl | he
  · exact (fnS 2 hw).up (Nat.le_refl _) (by decide) (Nat.le_refl _)
  cases E with
  | jp m =>
    simp only [Stp.rest, List.mem_cons, List.not_mem_nil, or_false] at he
    subst he
    exact n h
  | br a m k =>
    simp only [Stp.rest, List.mem_cons, List.not_mem_nil, or_false] at he
    rcases he with rfl | rfl | rfl
    · exact o h.1
    · exact n h.2.1
    · exact n h.2.2
  | rt a =>
    simp only [Stp.rest, List.mem_cons, List.not_mem_nil, or_false] at he
    subst he
    cases a with
    | none => exact (Fine.none 0 2).up (Nat.le_refl _) (by decide) (Nat.le_refl _)
    | some a => exact o (h a rfl)
  | ht i =>
    simp only [Stp.rest, List.mem_cons, List.not_mem_nil, or_false] at he
    subst he
    have : (65536 : Int) < 10 ^ 9 := by decide
    exact (fnI 2 h.1 (by have := h.2; omega)).up (Nat.le_refl _) (by decide) (Nat.le_refl _)
theorem fnB {N B : Nat} {b : Blk} (hN : N ≤ 10) (hB : B ≤ 9) (h : BkOk N B b) : Fine 0 700000 5 b.D := by
  have f1 : Fine 0 631000 4 (.tuple (b.rows.map Rw.D)) := by
    refine (Fine.tupN (n := 15) (d := 3) (W := 42000) (fun e he => ?_) (by rw [List.length_map]; exact h.len)).up (Nat.le_refl _) (by decide) (Nat.le_refl _)
    obtain ⟨R, hR, rfl⟩ := List.mem_map.mp he
    exact fnR hN (h.rows R hR)
  have f2 := fnE hN hB h.stop
  refine ⟨?_, ?_, ?_⟩
  · rw [sm_tup]
    intro d hd
    simp only [List.mem_cons, List.not_mem_nil, or_false] at hd
    rcases hd with rfl | rfl
    · exact f1.sm
    · exact f2.sm
  · have h1 := f1.wt
    have h2 := f2.wt
    simp only [Blk.D]
    rw [wt_tup]
    simp only [wtAll] at *
    omega
  · have h1 := f1.dp
    have h2 := f2.dp
    simp only [Blk.D]
    rw [dp_tup]
    simp only [PyData.depthAll] at *
    omega
theorem fnG {N : Nat} {g : Gr} (h : GrOk N g) : Fine 0 6400000 7 g.D := by
  have f1 : Fine 0 6310000 6 (.tuple (g.blocks.map Blk.D)) := by
    refine (Fine.tupN (n := 9) (d := 5) (W := 700000) (fun e he => ?_) (by rw [List.length_map]; exact h.many)).up (Nat.le_refl _) (by decide) (Nat.le_refl _)
    obtain ⟨b, hb, rfl⟩ := List.mem_map.mp he
    exact fnB h.small h.many (h.blk b hb)
  have f2 : Fine 0 2000 0 (.int (g.count : Int)) := fnN 0 (by have := h.count; omega)
  refine ⟨?_, ?_, ?_⟩
  · rw [sm_tup]
    intro d hd
    simp only [List.mem_cons, List.not_mem_nil, or_false] at hd
    rcases hd with rfl | rfl
    · exact f2.sm
    · exact f1.sm
  · have h1 := f1.wt
    have h2 := f2.wt
    simp only [Gr.D]
    rw [wt_tup]
    simp only [wtAll] at *
    omega
  · have h1 := f1.dp
    have h2 := f2.dp
    simp only [Gr.D]
    rw [dp_tup]
    simp only [PyData.depthAll] at *
    omega
end P52

set_option maxHeartbeats 4000000
/-! HI: lists made of data by comprehensions. -/
namespace HG
open PySem PySem.Spec PyProof.Rows L2
abbrev LcC (J : It) (g : TG) (tt : TT) (te : TE) (vs : List Nat) (σ : L2.St) (H1 : Hp) (D : Addr) (Qd : Hp → Prop) : Prop :=
  ∃ W : Nat → Nat → Hp → Prop, (∃ m, W 0 m (upd H1 D (.lst []))) ∧ ∀ i m H, W i m H → (J.stop i H ∧ Qd H) ∨ (J.go i H ∧ ∃ Nx : Hp → Prop, (∀ H', Nx H' → ∃ m', m' < m ∧ W (i + 1) m' H') ∧ ∀ x H', J.yld i H x H' →
    g x (wipe σ vs) H' fun σ2 H2 => wipe σ2 vs = wipe σ vs ∧ tt σ2 H2 fun b H3 => if b = true then te σ2 H3 fun y H4 => ∃ acc, H4 D = some (.lst acc) ∧ acc.length < sizeLine ∧ Nx (upd H4 D (.lst (acc ++ [y]))) else Nx H3)
theorem small_line {n : Nat} (h : n ≤ 1000000) : n < sizeLine := by rw [sizeLine_eq]; omega
theorem sqT_same {K : PySem.W.Frag} {H H' : Hp} {a : Addr} {xs : List V} (s : Same H H') (h : SqT K H a xs) : SqT K H' a xs := sqT_kt (KT.of s) h
theorem dpAll_map_get {K : PySem.W.Frag} {H : Hp} {α : Type} {f : α → PyData} {xs : List V} {as : List α} {i : Nat} {x : V} (h : DpAll K H xs (as.map f)) (hx : xs[i]? = some x) : ∃ a, as[i]? = some a ∧ Dp K H x (f a) := by
  obtain ⟨d, hd, hxd⟩ := dpAll_get h hx
  rw [List.getElem?_map] at hd
  obtain ⟨a, ha, rfl⟩ := Option.map_eq_some_iff.mp hd
  exact ⟨a, ha, hxd⟩
theorem noLAll_map {α : Type} {f : α → PyData} {as : List α} (h : ∀ a ∈ as, noL (f a) = true) : noLAll (as.map f) = true := noLAll_mem.mpr fun d hd => by
  obtain ⟨a, ha, rfl⟩ := List.mem_map.mp hd
  exact h a ha
section
variable {K : PySem.W.Frag} {H : Hp} {a D : Addr} {xs : List V} {α : Type} {as : List α} {g0 f : α → PyData} {g : TG} {tt : TT} {te : TE} {vs : List Nat} {σ : L2.St} {Qd : Hp → Prop}
/-- one more of new data -/
theorem mk_step {H3 H4 : Hp} {ys : List V} {ds : List PyData} {y : V} {d : PyData} (hD : H D = none) (hD3 : H3 D = some (.lst ys)) (hY : DpAll K H3 ys ds) (hn : noLAll ds = true) (s3 : Same H H3) (s4 : Same H3 H4) (hy : Dp K H4 y d) (hnd : noL d = true) :
    H4 D = some (.lst ys) ∧ DpAll K (upd H4 D (.lst (ys ++ [y]))) (ys ++ [y]) (ds ++ [d]) ∧ Same H (upd H4 D (.lst (ys ++ [y]))) := by
  have hD4 := s4 _ _ hD3
  refine ⟨hD4, dpAll_app (dpAll_kt ((KT.of s4).trans (KT.lst hD4)) _ _ hn hY) (.cons (dp_kt (KT.lst hD4) _ _ hnd hy) .nil), fun b o h => ?_⟩
  rw [upd_ne (ne_of_none h hD)]
  exact s4 _ _ (s3 _ _ h)
/-- [f(x) for x in tuple] -/
theorem lc_mk (sq : SqT K H a xs) (hA : DpAll K H xs (as.map g0)) (hl : as.length ≤ 1000000) (hD : H D = none) (hn : ∀ e ∈ as, noL (f e) = true)
    (hs : ∀ (x : V) (e : α) (H3 : Hp) (QQ : VK) (R : Hp → Prop), e ∈ as → Dp K H x (g0 e) → Same H H3 → (∀ y H4, Dp K H4 y (f e) → Same H3 H4 → QQ y H4) →
      g x (wipe σ vs) H3 fun σ2 H2 => wipe σ2 vs = wipe σ vs ∧ tt σ2 H2 fun b H3 => if b = true then te σ2 H3 QQ else R H3)
    (hd : ∀ H3 ys, H3 D = some (.lst ys) → DpAll K H3 ys (as.map f) → Same H H3 → Qd H3) : LcC (Itt K a) g tt te vs σ H D Qd := by
  have hlen := dpAll_len hA
  rw [List.length_map] at hlen
  refine lc_tup (xs := xs) (fun i H3 => ∃ ys, H3 D = some (.lst ys) ∧ DpAll K H3 ys ((as.take i).map f) ∧ Same H H3) ⟨[], upd_same, .nil, fun b o h => upd_get hD h⟩ ?_ ?_ ?_
  · rintro i H3 _ ⟨_, _, _, s3⟩
    exact sqT_same s3 sq
  · rintro i x H3 hx ⟨ys, hD3, hY, s3⟩
    obtain ⟨e, he, hxe⟩ := dpAll_map_get hA hx
    have hi : i < as.length := (List.getElem?_eq_some_iff.mp he).1
    refine hs x e H3 _ _ (List.mem_of_getElem? he) hxe s3 fun y H4 hy s4 => ?_
    have hyl := dpAll_len hY
    rw [List.length_map, List.length_take] at hyl
    obtain ⟨m1, m2, m3⟩ := mk_step hD hD3 hY (noLAll_map fun e he => hn e (List.mem_of_mem_take he)) s3 s4 hy (hn e (List.mem_of_getElem? he))
    refine ⟨_, m1, small_line (by omega), _, upd_same, ?_, m3⟩
    have e2 : (as.take (i + 1)).map f = (as.take i).map f ++ [f e] := by
      rw [List.take_add_one, he, List.map_append]
      rfl
    rw [e2]
    exact m2
  · rintro H3 ⟨ys, hD3, hY, s3⟩
    rw [hlen, List.take_length] at hY
    exact hd H3 ys hD3 hY s3
/-- [f(x) for x in list] -/
theorem lc_mkL (sq : SqL K H a xs) (hA : DpAll K H xs (as.map g0)) (hl : as.length ≤ 1000000) (hD : H D = none) (hn : ∀ e ∈ as, noL (f e) = true)
    (hs : ∀ (x : V) (e : α) (H3 : Hp) (QQ : VK) (R : Hp → Prop), e ∈ as → Dp K H x (g0 e) → Same H H3 → (∀ y H4, Dp K H4 y (f e) → Same H3 H4 → QQ y H4) →
      g x (wipe σ vs) H3 fun σ2 H2 => wipe σ2 vs = wipe σ vs ∧ tt σ2 H2 fun b H3 => if b = true then te σ2 H3 QQ else R H3)
    (hd : ∀ H3 ys, H3 D = some (.lst ys) → DpAll K H3 ys (as.map f) → Same H H3 → Qd H3) : LcC (Itl K a) g tt te vs σ H D Qd := by
  have hlen := dpAll_len hA
  rw [List.length_map] at hlen
  refine lc_list (xs := xs) (fun i H3 => ∃ ys, H3 D = some (.lst ys) ∧ DpAll K H3 ys ((as.take i).map f) ∧ Same H H3) ⟨[], upd_same, .nil, fun b o h => upd_get hD h⟩ ?_ ?_ ?_
  · rintro i H3 _ ⟨_, _, _, s3⟩
    exact Same.seq s3 sq
  · rintro i x H3 hx ⟨ys, hD3, hY, s3⟩
    obtain ⟨e, he, hxe⟩ := dpAll_map_get hA hx
    have hi : i < as.length := (List.getElem?_eq_some_iff.mp he).1
    refine hs x e H3 _ _ (List.mem_of_getElem? he) hxe s3 fun y H4 hy s4 => ?_
    have hyl := dpAll_len hY
    rw [List.length_map, List.length_take] at hyl
    obtain ⟨m1, m2, m3⟩ := mk_step hD hD3 hY (noLAll_map fun e he => hn e (List.mem_of_mem_take he)) s3 s4 hy (hn e (List.mem_of_getElem? he))
    refine ⟨_, m1, small_line (by omega), _, upd_same, ?_, m3⟩
    have e2 : (as.take (i + 1)).map f = (as.take i).map f ++ [f e] := by
      rw [List.take_add_one, he, List.map_append]
      rfl
    rw [e2]
    exact m2
  · rintro H3 ⟨ys, hD3, hY, s3⟩
    rw [hlen, List.take_length] at hY
    exact hd H3 ys hD3 hY s3
end
end HG

set_option maxHeartbeats 4000000
namespace K48
open PySem PySem.Spec PyProof.Rows L2 HG P52
/-! ### frames -/
theorem ext_kt {d c : Addr} {n : Nat} {H H' : Hp} (dk : Deck d c n H) (X : Ext d c H H') : KT H H' := by
  obtain ⟨ns, m, t, e1, e2, _⟩ := dk.ex
  refine ⟨fun b xs e => X.at (fun z => by rw [z, e1] at e; cases e) (fun z => by rw [z, e2] at e; cases e) e, fun b o u e => X.at (fun z => by rw [z, e1] at e; cases e) (fun z => by rw [z, e2] at e; cases e) e⟩
theorem grow {d c : Addr} {n : Nat} {H H' : Hp} (X : Ext d c H H') (D : Deck d c n H') {b : Addr} (h : H' b = none) : H b = none := by
  have nn := D.has h
  cases q : H b with
  | none => rfl
  | some o =>
    rw [X.at nn.1 nn.2 q] at h
    cases h
theorem off_same_mono {d c : Addr} {H H1 : Hp} (s : Same H H1) : Same (off d c H) (off d c H1) := fun b o h => by
  unfold off at h ⊢
  split at h
  · cases h
  · rename_i n
    rw [if_neg n]
    exact s b o h
theorem off_at {d c b : Addr} {H : Hp} {o : HO} (h : off d c H b = some o) : H b = some o ∧ b ≠ d ∧ b ≠ c := by
  unfold off at h
  split at h
  · cases h
  · rename_i n
    exact ⟨h, fun z => n (.inl z), fun z => n (.inr z)⟩
theorem seqIx {j n : Nat} (h : j < n) : seqIndex? (j : Int) n = some j := by
  unfold seqIndex?
  simp
  omega
theorem many40 {n : Nat} (h : n ≤ 1000000) : ((n : Nat) : Int) < 10 ^ 40 := by
  have : (1000000 : Int) < 10 ^ 40 := by decide
  omega
theorem erase_str : ∀ (l : List Str) (j : Nat), (l.map V.str).eraseIdx j = (l.eraseIdx j).map V.str
  | [], _ => rfl
  | _ :: _, 0 => rfl
  | x :: l, j + 1 => by
    simp only [List.map_cons, List.eraseIdx_cons_succ, erase_str l j]
theorem off_kt {d c : Addr} {n : Nat} {H : Hp} (dk : Deck d c n H) : KT H (off d c H) := by
  obtain ⟨ns, m, t, e1, e2, _⟩ := dk.ex
  refine ⟨fun b xs e => ?_, fun b o u e => ?_⟩
  · rw [off_get (fun z => by rw [z, e1] at e; cases e) (fun z => by rw [z, e2] at e; cases e)]
    exact e
  · rw [off_get (fun z => by rw [z, e1] at e; cases e) (fun z => by rw [z, e2] at e; cases e)]
    exact e
/-! ### names -/
abbrev words19 : List Str := ["f", "g", "x", "y", "t", "a", "b", "ab", "abc", "abcdefgh", "let", "call", "load", "func", "var", "const", "zz", "main", "print"]
theorem split19 : Txt.split "f g x y t a b ab abc abcdefgh let call load func var const zz main print" " " = words19 := by decide +kernel
theorem w19 : ∀ z ∈ words19, OkS 9 z := by
  have : ∀ z ∈ words19, z.length ≤ 9 ∧ ∀ c ∈ cp z, c < 128 := by decide +kernel
  exact fun z hz => ⟨(this z hz).1, (this z hz).2⟩
theorem mW : OkS 2 ("m." : Str) := ⟨by decide +kernel, by decide +kernel⟩
def spNames (K : PySem.W.Frag) : Sp := fun vs H Q _ => ∃ (d c : Addr) (n k : Nat), vs = [.ref d, .int (k : Int)] ∧ k ≤ 9 ∧ n < 2 ^ 50 ∧ Deck d c n H ∧
  ∀ (a : Addr) (zs : List Str) (H' : Hp), zs.length = k → (∀ z ∈ zs, Nm z) → Deck d c (n + 20) H' → Ext d c H H' → H a = none → H' a = some (.lst (zs.map V.str)) → Q (.ref a) H'
section
variable {P : Program} {w : World} {K : PySem.W.Frag} {mg : Str → Option Value} {base : Heap}
set_option pp.maxSteps 600 in
theorem c_names (T : Txt w K mg) : Cal P w K mg base "_law_names" 2 ["_law_deck_here", "_law_many"] (spNames K) := by
  obtain ⟨fd, F⟩ := T.d__law_names
  have C__law_draw := c_draw (P := P) (base := base) T
  refine ⟨⟨fd, F.ok sc__law_names (fun vs H Q E h => ?_) (fun cdv A outer s H vs Q E hr h => ?_), F.bindsN fun _ _ _ _ _ _ us hl => match us, hl with | [_, _], _ => rfl⟩, T.g _ (by decide), F.kp⟩
  · obtain ⟨d, c, n, k, rfl, _⟩ := h
    rfl
  obtain ⟨d, c, n, k, rfl, hk, hn, dk, q⟩ := h
  refine ⟨_, PSs.nox (pss_cons (ps_set (i := 2) sc__law_names.nd rfl (.inl rfl) (pe_bm PySem.F.plainAttrs_str PySem.F.slot_str_split PySem.F.type_str_split mt_split pe_str (pa_cons pe_str pa_nil)))
      (pss_cons (ps_set (i := 3) sc__law_names.nd rfl (.inl rfl) (pe_lst pa_nil))
      (pss_cons (ps_for PassesOwn.never rfl (pi_range1 (by rfl) T.n_range (pa_cons (pv 1) pa_nil)) (pg_name (i := 4) sc__law_names.nd rfl (.inl rfl)) (pss_cons (ps_set (i := 5) sc__law_names.nd rfl (.inl rfl) (pe_bm PySem.F.plainAttrs_list PySem.F.slot_list_pop PySem.F.type_list_pop mt_popAt (pv 2) (pa_cons (pe_cal C__law_draw (hr.mono (by omega)) (by rfl) (pa_cons (pv 0) (pa_cons (pe_callB (lenK (K := K) rfl) (by rfl) T.n_len (by decide +kernel) (pa_cons (pv 2) pa_nil)) pa_nil))) pa_nil)))
      (pss_one (ps_expr (pe_bm PySem.F.plainAttrs_list PySem.F.slot_list_append PySem.F.type_list_append mt_append (pv 3) (pa_cons (pe_ix (ix_listK (K := K) rfl) (pe_lst (pa_cons (pe_op op_add_str pe_str (pv 5)) (pa_cons (pv 5) (pa_cons (pv 5) (pa_cons (pv 5) pa_nil))))) (pe_cal C__law_draw (hr.mono (by omega)) (by rfl) (pa_cons (pv 0) (pa_cons pe_int pa_nil))) (fun _ _ => rfl)) pa_nil))))))
      (pss_one (ps_ret (pv 3)))))), ?_⟩
  refine ⟨rfl, _, _, rfl, rfl, rfl, (by decide), fun p2 hp2 => ?_⟩
  rw [split19]
  have n2 := dk.has hp2
  have dk1 := dk.new (o := .lst (words19.map V.str)) hp2
  have X1 : Ext d c H (upd H p2 (.lst (words19.map V.str))) := Ext.new hp2
  have e21 : (upd H p2 (.lst (words19.map V.str))) p2 = some (.lst (words19.map V.str)) := upd_same
  generalize upd H p2 (.lst (words19.map V.str)) = H1 at dk1 X1 e21 ⊢
  refine ⟨Nat.zero_le _, fun p3 hp3 => ?_⟩
  have n3 := dk1.has hp3
  have hp3H := grow X1 dk1 hp3
  have n23 : p2 ≠ p3 := ne_of_none e21 hp3
  have dk2 := dk1.new (o := .lst []) hp3
  have X2 := X1.trans (Ext.new (o := .lst []) hp3)
  have e22 := upd_get (o := .lst []) hp3 e21
  have e32 : (upd H1 p3 (.lst [])) p3 = some (.lst []) := upd_same
  generalize upd H1 p3 (.lst []) = H2 at dk2 X2 e22 e32 ⊢
  refine ⟨_, rfl, _, rfl, by omega, by omega, for_range (lo := 0) (n := (k : Int).toNat) (fun i σ H3 => ∃ ws zs x4 x5, σ = [some (.ref d), some (.int (k : Int)), some (.ref p2), some (.ref p3), x4, x5] ∧ H3 p2 = some (.lst (ws.map V.str)) ∧ H3 p3 = some (.lst (zs.map V.str)) ∧ ws.length + i = 19 ∧ zs.length = i ∧ (∀ z ∈ ws, z ∈ words19) ∧ (∀ z ∈ zs, Nm z) ∧ Deck d c (n + 2 * i) H3 ∧ Ext d c H H3)
    ⟨words19, [], _, _, rfl, e22, e32, rfl, rfl, fun z h => h, (fun _ h => nomatch h), dk2, X2⟩ ?_ ?_⟩
  · rintro i σ H3 hi ⟨ws, zs, x4, x5, rfl, e2, e3, hwl, hzl, hws, hzs, dk3, X3⟩
    have hi : i < 9 := by omega
    refine ⟨.ref p2, rfl, .inl ⟨rfl, _, .inl (.inl e2)⟩, .ref d, rfl, .ref p2, rfl, .ref p2, _, rfl, .inl ⟨_, .inl (.inl e2), rfl⟩, d, c, n + 2 * i, _, rfl, ?_, ?_, by omega, dk3, fun r H4 r0 r1 dk4 X4 => ?_⟩
    · rw [List.length_map]
      omega
    · rw [List.length_map]
      exact many40 (by omega)
    rw [List.length_map] at r1
    obtain ⟨j, rfl⟩ := Int.eq_ofNat_of_zero_le r0
    have hj : j < ws.length := by omega
    have e24 := X4.at n2.1 n2.2 e2
    have e34 := X4.at n3.1 n3.2 e3
    refine ⟨p2, _, _, j, .str ws[j], rfl, rfl, e24, by omega, by omega, by rw [List.length_map]; exact seqIx hj, by rw [List.getElem?_map, List.getElem?_eq_getElem hj]; rfl, ?_⟩
    have hwj := hws _ (List.getElem_mem hj)
    have ee : (ws.map V.str).eraseIdx j = (ws.eraseIdx j).map V.str := erase_str _ _
    rw [ee]
    have dk5 := dk4.upd (o := .lst ((ws.eraseIdx j).map V.str)) n2.1 n2.2
    have X5 : Ext d c H (upd H4 p2 (.lst ((ws.eraseIdx j).map V.str))) := (X3.trans X4).mut hp2
    have e25 : (upd H4 p2 (.lst ((ws.eraseIdx j).map V.str))) p2 = some (.lst ((ws.eraseIdx j).map V.str)) := upd_same
    have e35 : (upd H4 p2 (.lst ((ws.eraseIdx j).map V.str))) p3 = some (.lst (zs.map V.str)) := by rw [upd_ne n23.symm]; exact e34
    generalize upd H4 p2 (.lst ((ws.eraseIdx j).map V.str)) = H5 at dk5 X5 e25 e35 ⊢
    have ok9 := w19 _ hwj
    have ok11 : OkS 11 ("m." ++ ws[j]) := mW.app ok9
    refine ⟨.ref p3, rfl, .inl ⟨rfl, _, .inl (.inl e35)⟩, .str ws[j], rfl, _, _, rfl, rfl, ?_, .str ws[j], rfl, .str ws[j], rfl, .str ws[j], rfl, (by show 4 ≤ sizeLine; decide), fun p6 hp6 => ?_⟩
    · have h1 := mW.len
      have h2 := ok9.len
      rw [sizeLine_eq]
      omega
    have n6 := dk5.has hp6
    have n63 : p3 ≠ p6 := ne_of_none e35 hp6
    have n62 : p2 ≠ p6 := ne_of_none e25 hp6
    have dk6 := dk5.new (o := .lst [.str ("m." ++ ws[j]), .str ws[j], .str ws[j], .str ws[j]]) hp6
    have X6 := X5.trans (Ext.new (o := .lst [.str ("m." ++ ws[j]), .str ws[j], .str ws[j], .str ws[j]]) hp6)
    have e66 : (upd H5 p6 (.lst [.str ("m." ++ ws[j]), .str ws[j], .str ws[j], .str ws[j]])) p6 = some (.lst [.str ("m." ++ ws[j]), .str ws[j], .str ws[j], .str ws[j]]) := upd_same
    have e26 := upd_get (o := .lst [.str ("m." ++ ws[j]), .str ws[j], .str ws[j], .str ws[j]]) hp6 e25
    have e36 := upd_get (o := .lst [.str ("m." ++ ws[j]), .str ws[j], .str ws[j], .str ws[j]]) hp6 e35
    generalize upd H5 p6 (.lst [.str ("m." ++ ws[j]), .str ws[j], .str ws[j], .str ws[j]]) = H6 at dk6 X6 e66 e26 e36 ⊢
    refine ⟨.ref d, rfl, d, c, n + 2 * i + 1, 4, rfl, by decide, by decide, by omega, dk6, fun r H7 r0 r1 dk7 X7 => ?_⟩
    obtain ⟨l, rfl⟩ := Int.eq_ofNat_of_zero_le r0
    have hl : l < 4 := by omega
    have hpick : ∃ z, ([V.str ("m." ++ ws[j]), V.str ws[j], V.str ws[j], V.str ws[j]] : List V)[l]? = some (.str z) ∧ Nm z := by
      match l, hl with
      | 0, _ => exact ⟨_, rfl, ok11.up (by decide)⟩
      | 1, _ => exact ⟨_, rfl, ok9.up (by decide)⟩
      | 2, _ => exact ⟨_, rfl, ok9.up (by decide)⟩
      | 3, _ => exact ⟨_, rfl, ok9.up (by decide)⟩
    obtain ⟨z, hz1, hz2⟩ := hpick
    have e37 := X7.at n3.1 n3.2 e36
    have e27 := X7.at n2.1 n2.2 e26
    refine ⟨p6, _, l, .str z, rfl, rfl, .inl (.inl (X7.at n6.1 n6.2 e66)), atI_nat hz1, p3, _, _, rfl, rfl, e37, ?_, ?_⟩
    · rw [List.length_map]
      exact small_line (by omega)
    refine ⟨ws.eraseIdx j, zs ++ [z], _, _, rfl, by rw [upd_ne n23]; exact e27, by rw [upd_same, List.map_append]; rfl, ?_, by rw [List.length_append, hzl]; rfl, fun y hy => hws y (List.mem_of_mem_eraseIdx hy), fun y hy => ?_, dk7.upd n3.1 n3.2 |>.up (by omega), (X6.trans X7).mut hp3H⟩
    · rw [List.length_eraseIdx_of_lt hj]
      omega
    · rcases List.mem_append.mp hy with h | h
      · exact hzs y h
      · rw [List.mem_singleton.mp h]
        exact hz2
  · rintro σ H3 ⟨ws, zs, x4, x5, rfl, e2, e3, hwl, hzl, hws, hzs, dk3, X3⟩
    exact ⟨_, rfl, q p3 zs H3 (by omega) hzs (dk3.up (by omega)) X3 hp3H e3⟩
/-! ### the world -/
def prD (p : Str × Nat) : PyData := .tuple [.str p.1, .int (p.2 : Int)]
theorem nlPr (l : List (Str × Nat)) : noLAll (l.map prD) = true := noLAll_map fun _ _ => rfl
def wdKV (ca ce ar : Addr) (h : Str) : List (Key × V) := [(Sum.inr "calls", .ref ca), (Sum.inr "cells", .ref ce), (Sum.inr "holder", .str h), (Sum.inr "arrays", .ref ar)]
structure Wd (K : PySem.W.Frag) (H : Hp) (wd : Addr) : Prop where
  ex : ∃ (ca ce ar : Addr) (h : Str) (cs as : List (Str × Nat)) (cvs avs : List V) (es : List Str), H wd = some (.dK (wdKV ca ce ar h)) ∧ H ca = some (.lst cvs) ∧ DpAll K H cvs (cs.map prD) ∧
    H ce = some (.lst (es.map V.str)) ∧ H ar = some (.lst avs) ∧ DpAll K H avs (as.map prD) ∧ cs.length = 4 ∧ (∀ p ∈ cs, Nm p.1 ∧ p.2 ≤ 2) ∧ es.length = 2 ∧ (∀ z ∈ es, Nm z) ∧ as.length = 2 ∧ (∀ p ∈ as, Nm p.1 ∧ 0 < p.2 ∧ p.2 ≤ 10) ∧ Nm h
theorem Wd.mono {K : PySem.W.Frag} {H H' : Hp} {wd : Addr} (h : Wd K H wd) (s : Same H H') : Wd K H' wd := by
  obtain ⟨ca, ce, ar, hh, cs, as, cvs, avs, es, h1, h2, h3, h4, h5, h6, r⟩ := h.ex
  exact ⟨ca, ce, ar, hh, cs, as, cvs, avs, es, s _ _ h1, s _ _ h2, dpAll_mono s _ _ h3, s _ _ h4, s _ _ h5, dpAll_mono s _ _ h6, r⟩
def spWorld (K : PySem.W.Frag) : Sp := fun vs H Q _ => ∃ (d c : Addr) (n : Nat), vs = [.ref d] ∧ n < 2 ^ 49 ∧ Deck d c n H ∧
  ∀ (wd : Addr) (H' : Hp), Deck d c (n + 30) H' → Ext d c H H' → Wd K (off d c H') wd → Q (.ref wd) H'
theorem list9 {zs : List Str} (h : zs.length = 9) : ∃ a b c d e f g i j, zs = [a, b, c, d, e, f, g, i, j] := by
  match zs, h with
  | [a, b, c, d, e, f, g, i, j], _ => exact ⟨a, b, c, d, e, f, g, i, j, rfl⟩
set_option pp.maxSteps 600 in
theorem c_world (T : Txt w K mg) : Cal P w K mg base "_law_world" 3 ["_law_deck_here"] (spWorld K) := by
  obtain ⟨fd, F⟩ := T.d__law_world
  have C__law_draw := c_draw (P := P) (base := base) T
  have C__law_names := c_names (P := P) (base := base) T
  refine ⟨⟨fd, F.ok sc__law_world (fun vs H Q E h => ?_) (fun cdv A outer s H vs Q E hr h => ?_), F.bindsN fun _ _ _ _ _ _ us hl => match us, hl with | [_], _ => rfl⟩, T.g _ (by decide), F.kp⟩
  · obtain ⟨d, c, n, rfl, _⟩ := h
    rfl
  obtain ⟨d, c, n, rfl, hn, dk, q⟩ := h
  refine ⟨_, PSs.nox (pss_cons (ps_set (i := 1) sc__law_world.nd rfl (.inl rfl) (pe_cal C__law_names (hr.mono (by omega)) (by rfl) (pa_cons (pv 0) (pa_cons pe_int pa_nil))))
      (pss_cons (ps_set (i := 2) sc__law_world.nd rfl (.inl rfl) (pe_lst (pa_cons (pe_tup (pa_cons (pe_ix (ix_listK (K := K) rfl) (pv 1) pe_int (fun _ _ => rfl)) (pa_cons pe_int pa_nil))) (pa_cons (pe_tup (pa_cons (pe_ix (ix_listK (K := K) rfl) (pv 1) pe_int (fun _ _ => rfl)) (pa_cons pe_int pa_nil))) (pa_cons (pe_tup (pa_cons (pe_ix (ix_listK (K := K) rfl) (pv 1) pe_int (fun _ _ => rfl)) (pa_cons pe_int pa_nil))) (pa_cons (pe_tup (pa_cons (pe_ix (ix_listK (K := K) rfl) (pv 1) pe_int (fun _ _ => rfl)) (pa_cons pe_int pa_nil))) pa_nil))))))
      (pss_cons (ps_set (i := 3) sc__law_world.nd rfl (.inl rfl) (pe_lst (pa_cons (pe_tup (pa_cons (pe_ix (ix_listK (K := K) rfl) (pv 1) pe_int (fun _ _ => rfl)) (pa_cons (pe_op op_add pe_int (pe_cal C__law_draw (hr.mono (by omega)) (by rfl) (pa_cons (pv 0) (pa_cons pe_int pa_nil)))) pa_nil))) (pa_cons (pe_tup (pa_cons (pe_ix (ix_listK (K := K) rfl) (pv 1) pe_int (fun _ _ => rfl)) (pa_cons (pe_op op_add pe_int (pe_cal C__law_draw (hr.mono (by omega)) (by rfl) (pa_cons (pv 0) (pa_cons pe_int pa_nil)))) pa_nil))) pa_nil))))
      (pss_one (ps_ret (pe_disp (pps_cons pe_str (pv 2) (pps_cons pe_str (pe_slice (sl_listK (K := K) rfl) (pv 1) (po_some pe_int) (po_some pe_int)) (pps_cons pe_str (pe_ix (ix_listK (K := K) rfl) (pv 1) pe_int (fun _ _ => rfl)) (pps_cons pe_str (pv 3) pps_nil)))) (by rfl) (by rfl) (fun z => by cases z) (by decide))))))), ?_⟩
  refine ⟨.ref d, rfl, d, c, n, 9, rfl, by decide, by omega, dk, fun a zs H1 hzl hzs dk1 X1 ha0 ha => ?_⟩
  obtain ⟨z0, z1, z2, z3, z4, z5, z6, z7, z8, rfl⟩ := list9 hzl
  have na := dk.has ha0
  have ix : ∀ (H2 : Hp) (j : Nat) (z : Str) (Q2 : VK), H2 a = some (.lst (([z0, z1, z2, z3, z4, z5, z6, z7, z8] : List Str).map V.str)) → (([z0, z1, z2, z3, z4, z5, z6, z7, z8] : List Str).map V.str)[j]? = some (.str z) → Q2 (.str z) H2 → rIxL K (.ref a) (.int (j : Int)) H2 Q2 := fun H2 j z Q2 h1 h2 h3 => ⟨a, _, j, .str z, rfl, rfl, .inl (.inl h1), atI_nat h2, h3⟩
  refine ⟨.ref a, rfl, ix H1 0 z0 _ ha rfl ⟨(by show 2 ≤ sizeLine; decide), fun t1 ht1 => ?_⟩⟩
  have s1 := same_new (o := .tup [.str z0, .int 0]) ht1
  have g1 : Dp K (upd H1 t1 (.tup [.str z0, .int 0])) (.ref t1) (prD (z0, 0)) := dp_tupN ht1 (.cons (.str _) (.cons (.int _) .nil))
  generalize upd H1 t1 (.tup [.str z0, .int 0]) = H2 at s1 g1 ⊢
  refine ⟨.ref a, rfl, ix H2 1 z1 _ (s1 _ _ ha) rfl ⟨(by show 2 ≤ sizeLine; decide), fun t2 ht2 => ?_⟩⟩
  have s2 := same_new (o := .tup [.str z1, .int 1]) ht2
  have g2 : Dp K (upd H2 t2 (.tup [.str z1, .int 1])) (.ref t2) (prD (z1, 1)) := dp_tupN ht2 (.cons (.str _) (.cons (.int _) .nil))
  have S2 := s1.trans s2
  generalize upd H2 t2 (.tup [.str z1, .int 1]) = H3 at s2 S2 g2 ⊢
  refine ⟨.ref a, rfl, ix H3 2 z2 _ (S2 _ _ ha) rfl ⟨(by show 2 ≤ sizeLine; decide), fun t3 ht3 => ?_⟩⟩
  have s3 := same_new (o := .tup [.str z2, .int 1]) ht3
  have g3 : Dp K (upd H3 t3 (.tup [.str z2, .int 1])) (.ref t3) (prD (z2, 1)) := dp_tupN ht3 (.cons (.str _) (.cons (.int _) .nil))
  have S3 := S2.trans s3
  generalize upd H3 t3 (.tup [.str z2, .int 1]) = H4 at s3 S3 g3 ⊢
  refine ⟨.ref a, rfl, ix H4 3 z3 _ (S3 _ _ ha) rfl ⟨(by show 2 ≤ sizeLine; decide), fun t4 ht4 => ?_⟩⟩
  have s4 := same_new (o := .tup [.str z3, .int 2]) ht4
  have g4 : Dp K (upd H4 t4 (.tup [.str z3, .int 2])) (.ref t4) (prD (z3, 2)) := dp_tupN ht4 (.cons (.str _) (.cons (.int _) .nil))
  have S4 := S3.trans s4
  have hcs : DpAll K (upd H4 t4 (.tup [.str z3, .int 2])) [.ref t1, .ref t2, .ref t3, .ref t4] (([(z0, 0), (z1, 1), (z2, 1), (z3, 2)] : List (Str × Nat)).map prD) :=
    .cons (dp_mono (s2.trans (s3.trans s4)) _ _ g1) (.cons (dp_mono (s3.trans s4) _ _ g2) (.cons (dp_mono s4 _ _ g3) (.cons g4 .nil)))
  generalize upd H4 t4 (.tup [.str z3, .int 2]) = H5 at S4 hcs ⊢
  refine ⟨(by show 4 ≤ sizeLine; decide), fun ca hca => ?_⟩
  have s5 := same_new (o := .lst [.ref t1, .ref t2, .ref t3, .ref t4]) hca
  have S5 := S4.trans s5
  have eca : (upd H5 ca (.lst [.ref t1, .ref t2, .ref t3, .ref t4])) ca = some (.lst [.ref t1, .ref t2, .ref t3, .ref t4]) := upd_same
  have hcs := dpAll_mono s5 _ _ hcs
  have dk6 := dk1.same S5
  have nca := (dk1.same S4).has hca
  generalize upd H5 ca (.lst [.ref t1, .ref t2, .ref t3, .ref t4]) = H6 at S5 eca hcs dk6 ⊢
  have X6 : Ext d c H H6 := X1.trans (off_same_mono S5)
  have ha6 := S5 _ _ ha
  -- lengths
  refine ⟨.ref a, rfl, a, _, 7, .str z7, rfl, rfl, .inl (.inl ha6), atI_nat (j := 7) rfl, ?_⟩
  refine ⟨.ref d, rfl, d, c, n + 20, 4, rfl, by decide, by decide, by omega, dk6, fun r7 H7 r70 r71 dk7 X7 => ?_⟩
  obtain ⟨l7, rfl⟩ := Int.eq_ofNat_of_zero_le r70
  refine ⟨_, _, rfl, rfl, (by show 2 ≤ sizeLine; decide), fun t5 ht5 => ?_⟩
  have e7 : (1 : Int) + (l7 : Int) = ((1 + l7 : Nat) : Int) := by omega
  generalize eHH8 : upd H7 t5 _ = H8
  have eHH8 : H8 = upd H7 t5 (.tup [.str z7, .int (1 + (l7 : Int))]) := eHH8.symm
  have s7 : Same H7 H8 := by rw [eHH8]; exact same_new ht5
  have g5 : Dp K H8 (.ref t5) (prD (z7, 1 + l7)) := by
    rw [eHH8]
    unfold prD
    rw [← e7]
    exact dp_tupN ht5 (.cons (.str _) (.cons (.int _) .nil))
  have dk8 := dk7.same s7
  have X8 : Ext d c H6 H8 := X7.trans (off_same_mono s7)
  refine ⟨.ref a, rfl, a, _, 8, .str z8, rfl, rfl, .inl (.inl (X8.at na.1 na.2 ha6)), atI_nat (j := 8) rfl, ?_⟩
  refine ⟨.ref d, rfl, d, c, n + 20 + 1, 4, rfl, by decide, by decide, by omega, dk8, fun r9 H9 r90 r91 dk9 X9 => ?_⟩
  obtain ⟨l9, rfl⟩ := Int.eq_ofNat_of_zero_le r90
  refine ⟨_, _, rfl, rfl, (by show 2 ≤ sizeLine; decide), fun t6 ht6 => ?_⟩
  have e9 : (1 : Int) + (l9 : Int) = ((1 + l9 : Nat) : Int) := by omega
  generalize eHH10 : upd H9 t6 _ = H10
  have eHH10 : H10 = upd H9 t6 (.tup [.str z8, .int (1 + (l9 : Int))]) := eHH10.symm
  have s9 : Same H9 H10 := by rw [eHH10]; exact same_new ht6
  have g6 : Dp K H10 (.ref t6) (prD (z8, 1 + l9)) := by
    rw [eHH10]
    unfold prD
    rw [← e9]
    exact dp_tupN ht6 (.cons (.str _) (.cons (.int _) .nil))
  have dk10 := dk9.same s9
  have X810 : Ext d c H8 H10 := X9.trans (off_same_mono s9)
  have has : DpAll K H10 [.ref t5, .ref t6] (([(z7, 1 + l7), (z8, 1 + l9)] : List (Str × Nat)).map prD) := .cons (dp_kt (ext_kt dk8 X810) _ _ rfl g5) (.cons g6 .nil)
  refine ⟨(by show 2 ≤ sizeLine; decide), fun ar har => ?_⟩
  have s11 := same_new (o := .lst [.ref t5, .ref t6]) har
  have nar := dk10.has har
  have dk11 := dk10.same s11
  have ear : (upd H10 ar (.lst [.ref t5, .ref t6])) ar = some (.lst [.ref t5, .ref t6]) := upd_same
  have has := dpAll_mono s11 _ _ has
  have X11 : Ext d c H6 (upd H10 ar (.lst [.ref t5, .ref t6])) := (X8.trans X810).trans (off_same_mono s11)
  generalize upd H10 ar (.lst [.ref t5, .ref t6]) = H11 at dk11 ear has X11 ⊢
  have ha11 := X11.at na.1 na.2 ha6
  have eca11 := X11.at nca.1 nca.2 eca
  have hcs11 := dpAll_kt (ext_kt dk6 X11) _ _ (nlPr _) hcs
  -- the dict
  intro wd hwd
  have s12 := same_new (o := .dK []) hwd
  have nwd := dk11.has hwd
  have dk12 := dk11.same s12
  have ewd : (upd H11 wd (.dK [])) wd = some (.dK []) := upd_same
  generalize eH12 : upd H11 wd (.dK []) = H12 at s12 dk12 ewd ⊢
  refine ⟨.ref ca, rfl, .ref a, rfl, 4, rfl, 6, rfl, a, _, rfl, .inl (.inl (s12 _ _ ha11)), fun ce hce => ?_⟩
  have ecut : cutV (([z0, z1, z2, z3, z4, z5, z6, z7, z8] : List Str).map V.str) (some 4) (some 6) = ([z4, z5] : List Str).map V.str := rfl
  generalize eH13 : upd H12 ce _ = H13
  have eH13 : H13 = upd H12 ce (.lst (([z4, z5] : List Str).map V.str)) := eH13.symm
  have s13 : Same H12 H13 := by rw [eH13]; exact same_new hce
  have ece : H13 ce = some (.lst (([z4, z5] : List Str).map V.str)) := by rw [eH13]; exact upd_same
  have nce := dk12.has hce
  have ncw : ce ≠ wd := fun z => by rw [z, ewd] at hce; cases hce
  have s1113 := s12.trans s13
  have dk13 := dk12.same s13
  refine ⟨.ref a, rfl, a, _, 6, .str z6, rfl, rfl, .inl (.inl (s1113 _ _ ha11)), atI_nat (j := 6) rfl, .ref ar, rfl, s13 _ _ ewd, wdKV ca ce ar z6, rfl, (by show 4 ≤ 15; decide), ?_⟩
  generalize eH14 : upd H13 wd _ = H14
  have em : mergeK [] (wdKV ca ce ar z6) = wdKV ca ce ar z6 := rfl
  rw [em] at eH14
  have nH11 : ∀ b o, H11 b = some o → b ≠ wd := fun b o e => ne_of_none e hwd
  have s14 : Same H11 H14 := fun b o e => by
    rw [← eH14, upd_ne (nH11 b o e)]
    exact s1113 _ _ e
  have e14 : H14 wd = some (.dK (wdKV ca ce ar z6)) := by rw [← eH14]; exact upd_same
  have ece14 : H14 ce = some (.lst (([z4, z5] : List Str).map V.str)) := by rw [← eH14, upd_ne ncw]; exact ece
  have dk14 := dk11.same s14
  have k14 := off_kt dk14
  have nm := fun z hz => hzs z hz
  refine q wd H14 (dk14.up (by omega)) ((X6.trans X11).trans (off_same_mono s14)) ⟨ca, ce, ar, z6, [(z0, 0), (z1, 1), (z2, 1), (z3, 2)], [(z7, 1 + l7), (z8, 1 + l9)], _, _, [z4, z5], ?_, ?_, dpAll_kt k14 _ _ (nlPr _) (dpAll_mono s14 _ _ hcs11), ?_, ?_, dpAll_kt k14 _ _ (nlPr _) (dpAll_mono s14 _ _ has), rfl, ?_, rfl, ?_, rfl, ?_, ?_⟩
  · rw [off_get nwd.1 nwd.2]; exact e14
  · rw [off_get nca.1 nca.2]; exact s14 _ _ eca11
  · rw [off_get nce.1 nce.2]; exact ece14
  · rw [off_get nar.1 nar.2]; exact s14 _ _ ear
  · intro p hp
    simp only [List.mem_cons, List.not_mem_nil, or_false] at hp
    rcases hp with rfl | rfl | rfl | rfl
    · exact ⟨nm _ (by simp), Nat.le_of_ble_eq_true rfl⟩
    · exact ⟨nm _ (by simp), Nat.le_of_ble_eq_true rfl⟩
    · exact ⟨nm _ (by simp), Nat.le_of_ble_eq_true rfl⟩
    · exact ⟨nm _ (by simp), Nat.le_of_ble_eq_true rfl⟩
  · intro z hz
    simp only [List.mem_cons, List.not_mem_nil, or_false] at hz
    rcases hz with rfl | rfl
    · exact nm _ (by simp)
    · exact nm _ (by simp)
  · intro p hp
    simp only [List.mem_cons, List.not_mem_nil, or_false] at hp
    rcases hp with rfl | rfl
    · exact ⟨nm _ (by simp), by show 0 < 1 + l7; omega, by show 1 + l7 ≤ 10; omega⟩
    · exact ⟨nm _ (by simp), by show 0 < 1 + l9; omega, by show 1 + l9 ≤ 10; omega⟩
  · exact nm _ (by simp)
/-! ### words and operands -/
def spWord (K : PySem.W.Frag) : Sp := fun vs H Q _ => ∃ (d c : Addr) (n : Nat), vs = [.ref d] ∧ n < 2 ^ 50 ∧ Deck d c n H ∧ ∀ (i : Int) (H' : Hp), 0 ≤ i → i < 65536 → Deck d c (n + 1) H' → Ext d c H H' → Q (.int i) H'
abbrev wordsI : List Int := [0, 1, 2, 3, 5, 65535, 256, 0]
theorem wordsI_ok : ∀ i ∈ wordsI, 0 ≤ i ∧ i < 65536 := by decide
set_option pp.maxSteps 600 in
theorem c_word (T : Txt w K mg) : Cal P w K mg base "_law_word" 2 ["_law_deck_here"] (spWord K) := by
  obtain ⟨fd, F⟩ := T.d__law_word
  have C__law_draw := c_draw (P := P) (base := base) T
  refine ⟨⟨fd, F.ok sc__law_word (fun vs H Q E h => ?_) (fun cdv A outer s H vs Q E hr h => ?_), F.bindsN fun _ _ _ _ _ _ us hl => match us, hl with | [_], _ => rfl⟩, T.g _ (by decide), F.kp⟩
  · obtain ⟨d, c, n, rfl, _⟩ := h
    rfl
  obtain ⟨d, c, n, rfl, hn, dk, q⟩ := h
  refine ⟨_, PSs.nox (pss_one (ps_ret (pe_ix (ix_listK (K := K) rfl) (pe_lst (pa_cons pe_int (pa_cons pe_int (pa_cons pe_int (pa_cons pe_int (pa_cons pe_int (pa_cons pe_int (pa_cons pe_int (pa_cons pe_int pa_nil))))))))) (pe_cal C__law_draw (hr.mono (by omega)) (by rfl) (pa_cons (pv 0) (pa_cons pe_int pa_nil))) (fun _ _ => rfl)))), ?_⟩
  refine ⟨(by show 8 ≤ sizeLine; decide), fun p hp => ?_⟩
  have np := dk.has hp
  have ep : (upd H p (.lst (wordsI.map V.int))) p = some (.lst (wordsI.map V.int)) := upd_same
  refine ⟨.ref d, rfl, d, c, n, 8, rfl, by decide, by decide, by omega, dk.new hp, fun r H1 r0 r1 dk1 X1 => ?_⟩
  obtain ⟨j, rfl⟩ := Int.eq_ofNat_of_zero_le r0
  have hj : j < wordsI.length := by
    show j < 8
    omega
  have hg : (wordsI.map V.int)[j]? = some (.int wordsI[j]) := by rw [List.getElem?_map, List.getElem?_eq_getElem hj]; rfl
  have ok := wordsI_ok _ (List.getElem_mem hj)
  exact ⟨p, _, j, _, rfl, rfl, .inl (.inl (X1.at np.1 np.2 ep)), atI_nat hg, q _ _ ok.1 ok.2 dk1 ((Ext.new hp).trans X1)⟩
structure Kt (H : Hp) (kt : Addr) (cnt M f : Nat) : Prop where
  ex : ∃ wa fa : Addr, H kt = some (.dK [(Sum.inr "count", .int (cnt : Int)), (Sum.inr "words", .ref wa), (Sum.inr "funcs", .ref fa)]) ∧ H wa = some (.lst ((List.range M).map fun i => V.int ((i : Nat) : Int))) ∧ H fa = some (.lst ((List.range f).map fun i => V.int ((M + i : Nat) : Int)))
  lt : cnt < M
  c3 : cnt ≤ 3
  M8 : M ≤ 8
  f1 : 0 < f
  f2 : f ≤ 2
theorem Kt.mono {H H' : Hp} {kt : Addr} {cnt M f : Nat} (h : Kt H kt cnt M f) (s : Same H H') : Kt H' kt cnt M f := by
  obtain ⟨wa, fa, h1, h2, h3⟩ := h.ex
  exact ⟨⟨wa, fa, s _ _ h1, s _ _ h2, s _ _ h3⟩, h.lt, h.c3, h.M8, h.f1, h.f2⟩
theorem range_get {M j : Nat} {y : V} (h : ((List.range M).map fun i => V.int ((i : Nat) : Int))[j]? = some y) : j < M ∧ y = .int ((j : Nat) : Int) := by
  rw [List.getElem?_map] at h
  obtain ⟨i, hi, rfl⟩ := Option.map_eq_some_iff.mp h
  have hj : j < M := by
    have := (List.getElem?_eq_some_iff.mp hi).1
    simpa using this
  rw [List.getElem?_range hj] at hi
  cases hi
  exact ⟨hj, rfl⟩
theorem rangeF_get {M f j : Nat} {y : V} (h : ((List.range f).map fun i => V.int ((M + i : Nat) : Int))[j]? = some y) : j < f ∧ y = .int ((M + j : Nat) : Int) := by
  rw [List.getElem?_map] at h
  obtain ⟨i, hi, rfl⟩ := Option.map_eq_some_iff.mp h
  have hj : j < f := by
    have := (List.getElem?_eq_some_iff.mp hi).1
    simpa using this
  rw [List.getElem?_range hj] at hi
  cases hi
  exact ⟨hj, rfl⟩
def spOperand (K : PySem.W.Frag) : Sp := fun vs H Q _ => ∃ (d c kt : Addr) (n cnt M f : Nat), vs = [.ref d, .ref kt] ∧ n < 2 ^ 49 ∧ Deck d c n H ∧ Kt (off d c H) kt cnt M f ∧ ∀ (v : V) (a : Opd) (H' : Hp), Deck d c (n + 3) H' → Ext d c H H' → Dp K H' v (oD a) → OpdOk M a → Q v H'
set_option pp.maxSteps 600 in
theorem c_operand (T : Txt w K mg) : Cal P w K mg base "_law_operand" 3 ["_law_deck_here", "_law_kit"] (spOperand K) := by
  obtain ⟨fd, F⟩ := T.d__law_operand
  have C__law_draw := c_draw (P := P) (base := base) T
  have C__law_word := c_word (P := P) (base := base) T
  have C__law_pick := c_pick (P := P) (base := base) T
  refine ⟨⟨fd, F.ok sc__law_operand (fun vs H Q E h => ?_) (fun cdv A outer s H vs Q E hr h => ?_), F.bindsN fun _ _ _ _ _ _ us hl => match us, hl with | [_, _], _ => rfl⟩, T.g _ (by decide), F.kp⟩
  · obtain ⟨d, c, kt, n, cnt, M, f, rfl, _⟩ := h
    rfl
  obtain ⟨d, c, kt, n, cnt, M, f, rfl, hn, dk, hk, q⟩ := h
  have hu := hu_of hr
  refine ⟨_, PSs.nox (pss_one (ps_ret (pe_ifExp (pt_cmpR op_eq (pe_cal C__law_draw (hr.mono (by omega)) (by rfl) (pa_cons (pv 0) (pa_cons pe_int pa_nil))) pe_int (nomark _)) (pe_cal C__law_word (hr.mono (by omega)) (by rfl) (pa_cons (pv 0) pa_nil)) (pe_tup (pa_cons pe_str (pa_cons (pe_cal C__law_pick (hr.mono (by omega)) (by rfl) (pa_cons (pv 0) (pa_cons (pe_dget hu (pv 1) pe_str (fun _ _ => rfl)) pa_nil))) pa_nil)))))), ?_⟩
  refine ⟨.ref d, rfl, d, c, n, 3, rfl, by decide, by decide, by omega, dk, fun r H1 r0 r1 dk1 X1 => ⟨rfl, _, rfl, ?_⟩⟩
  have hk1 := hk.mono X1
  cases hb : decide (V.int r = V.int 0) with
  | true => exact iteT ⟨.ref d, rfl, d, c, n + 1, rfl, by omega, dk1, fun i H2 i0 i1 dk2 X2 => q _ (.w i) _ (dk2.up (by omega)) (X1.trans X2) (.int i) ⟨i0, i1⟩⟩
  | false =>
    obtain ⟨wa, fa, e1, e2, e3⟩ := hk1.ex
    have hM := hk.lt
    have hM8 := hk.M8
    refine iteF ⟨.ref d, rfl, .ref kt, rfl, kt, _, rfl, DGet.k (k := Sum.inr "words") (off_at e1).1, d, c, wa, n + 1, _, rfl, dk1, by omega, .inl (.inl e2), ?_, ?_, fun j y H2 hy dk2 X2 => ⟨(by show 2 ≤ sizeLine; decide), fun p hp => ?_⟩⟩
    · rw [List.length_map, List.length_range]; omega
    · rw [List.length_map, List.length_range]; omega
    obtain ⟨hj, rfl⟩ := range_get hy
    exact q _ (.v j) _ ((dk2.new hp).up (by omega)) ((X1.trans X2).trans (Ext.new hp)) (dp_tupN hp (.cons (.str _) (.cons (.int _) .nil))) hj
end
end K48

set_option maxHeartbeats 4000000
namespace K48
open PySem PySem.Spec PyProof.Rows L2 HG P52
theorem nlO : ∀ a : Opd, noL (oD a) = true
  | .w _ => rfl
  | .v _ => rfl
theorem nlOs (as : List Opd) : noLAll (as.map oD) = true := noLAll_map fun a _ => nlO a
theorem nlOv : ∀ o : Option Nat, noL (ovD o) = true
  | none => rfl
  | some _ => rfl
theorem nlR (R : Rw) : noL R.D = true := by
  cases R <;> simp only [Rw.D, Rw.L, Rw.word, Rw.rest, noL, noLAll, nlO, nlOs, nlOv, Bool.and_self]
theorem nlE (E : Stp) : noL E.D = true := by
  cases E with
  | rt a => cases a <;> simp only [Stp.D, Stp.L, Stp.word, Stp.rest, ooD, noL, noLAll, nlO, Bool.and_self]
  | _ => simp only [Stp.D, Stp.L, Stp.word, Stp.rest, noL, noLAll, nlO, Bool.and_self]
theorem nlRs (l : List Rw) : noLAll (l.map Rw.D) = true := noLAll_map fun a _ => nlR a
theorem nlB (b : Blk) : noL b.D = true := by
  simp only [Blk.D, noL, noLAll, nlRs, Bool.true_and, Bool.and_true]
  have := nlE b.stop
  simpa only [Stp.D, noL, Stp.L, noLAll, Bool.true_and] using this
theorem nlG (g : Gr) : noL g.D = true := by
  have : noLAll (g.blocks.map Blk.D) = true := noLAll_map fun b _ => nlB b
  simp only [Gr.D, noL, noLAll, this, Bool.and_self]
abbrev nD (n : Nat) : PyData := .int (n : Int)
abbrev nV (n : Nat) : V := .int (n : Int)
theorem len_eq {n m : Nat} : decide (V.int (n : Int) = V.int (m : Int)) = decide (n = m) := by
  by_cases h : n = m
  · subst h
    rw [decide_eq_true rfl, decide_eq_true rfl]
  · rw [decide_eq_false h]
    exact decide_eq_false fun e => by injection e with e; omega
theorem addI (k : Nat) : ((k : Nat) : Int) + 1 = ((k + 1 : Nat) : Int) := by omega
theorem none_same {H H' : Hp} (s : Same H H') {b : Addr} (h : H' b = none) : H b = none := by
  cases q : H b with
  | none => rfl
  | some o =>
    rw [s b o q] at h
    cases h
def ovV : Option Nat → V
  | none => .non
  | some n => .int (n : Int)
theorem dp_ov {K : PySem.W.Frag} {H : Hp} {z : V} {o : Option Nat} (h : Dp K H z (ovD o)) : z = ovV o := by
  cases o <;> (cases h; rfl)
theorem ov_dp {K : PySem.W.Frag} {H : Hp} (o : Option Nat) : Dp K H (ovV o) (ovD o) := by
  cases o
  · exact .non
  · exact .int _
end K48

set_option maxHeartbeats 4000000
namespace K48
open PySem PySem.Spec PyProof.Rows L2 HG P52
/-! ### where things are while a graph is drawn -/
structure S52 (K : PySem.W.Frag) (d c wd kt : Addr) (cnt M f n : Nat) (H0 H : Hp) : Prop where
  dk : Deck d c n H
  X : Ext d c H0 H
  wd : Wd K (off d c H) wd
  kt : Kt (off d c H) kt cnt M f
section
variable {K : PySem.W.Frag} {d c wd kt : Addr} {cnt M f n m : Nat} {H0 H H' : Hp}
theorem ext_all (X : Ext d c H H') : Same (off d c H) H' := fun b o e => off_same b o (X b o e)
theorem S52.step (S : S52 K d c wd kt cnt M f n H0 H) (dk : Deck d c m H') (X : Ext d c H H') : S52 K d c wd kt cnt M f m H0 H' := ⟨dk, S.X.trans X, S.wd.mono X, S.kt.mono X⟩
theorem S52.same (S : S52 K d c wd kt cnt M f n H0 H) (s : Same H H') : S52 K d c wd kt cnt M f n H0 H' := S.step (S.dk.same s) (off_same_mono s)
theorem S52.new {p : Addr} {o : HO} (S : S52 K d c wd kt cnt M f n H0 H) (hp : H p = none) : S52 K d c wd kt cnt M f n H0 (upd H p o) := S.same (same_new hp)
theorem S52.words (S : S52 K d c wd kt cnt M f n H0 H) : ∃ wa xs, DGet H kt (.str "words") (some (.ref wa)) ∧ SqL K (off d c H) wa xs ∧ 0 < xs.length ∧ xs.length ≤ 1000 ∧ (∀ (j : Nat) (y : V), xs[j]? = some y → ∃ i : Nat, i < M ∧ y = .int (i : Int)) ∧ xs = (List.range M).map fun i => V.int ((i : Nat) : Int) := by
  obtain ⟨wa, fa, e1, e2, e3⟩ := S.kt.ex
  have h1 := S.kt.lt
  have h2 := S.kt.M8
  exact ⟨wa, _, DGet.k (k := Sum.inr "words") (off_at e1).1, .inl (.inl e2), by rw [List.length_map, List.length_range]; omega, by rw [List.length_map, List.length_range]; omega, fun j y hy => ⟨j, range_get hy⟩, rfl⟩
theorem S52.count (S : S52 K d c wd kt cnt M f n H0 H) : DGet H kt (.str "count") (some (.int (cnt : Int))) := by
  obtain ⟨wa, fa, e1, e2, e3⟩ := S.kt.ex
  exact DGet.k (k := Sum.inr "count") (off_at e1).1
theorem S52.funcs (S : S52 K d c wd kt cnt M f n H0 H) : ∃ fa xs, DGet H kt (.str "funcs") (some (.ref fa)) ∧ SqL K (off d c H) fa xs ∧ 0 < xs.length ∧ xs.length ≤ 1000 ∧ (∀ (j : Nat) (y : V), xs[j]? = some y → ∃ i : Nat, i < M + f ∧ y = .int (i : Int)) ∧ xs.length ≤ 2 := by
  obtain ⟨wa, fa, e1, e2, e3⟩ := S.kt.ex
  have h1 := S.kt.f1
  have h2 := S.kt.f2
  refine ⟨fa, _, DGet.k (k := Sum.inr "funcs") (off_at e1).1, .inl (.inl e3), by rw [List.length_map, List.length_range]; omega, by rw [List.length_map, List.length_range]; omega, fun j y hy => ?_, by rw [List.length_map, List.length_range]; omega⟩
  obtain ⟨hj, e⟩ := rangeF_get hy
  exact ⟨M + j, by omega, e⟩
theorem S52.cells (S : S52 K d c wd kt cnt M f n H0 H) : ∃ ce xs, DGet H wd (.str "cells") (some (.ref ce)) ∧ SqL K (off d c H) ce xs ∧ 0 < xs.length ∧ xs.length ≤ 1000 ∧ ∀ (j : Nat) (y : V), xs[j]? = some y → ∃ z, Nm z ∧ y = .str z := by
  obtain ⟨ca, ce, ar, h, cs, as, cvs, avs, es, e1, e2, e3, e4, e5, e6, l1, o1, l2, o2, l3, o3, o4⟩ := S.wd.ex
  refine ⟨ce, _, DGet.k (k := Sum.inr "cells") (off_at e1).1, .inl (.inl e4), by rw [List.length_map]; omega, by rw [List.length_map]; omega, fun j y hy => ?_⟩
  rw [List.getElem?_map] at hy
  obtain ⟨z, hz, rfl⟩ := Option.map_eq_some_iff.mp hy
  exact ⟨z, o2 z (List.mem_of_getElem? hz), rfl⟩
theorem S52.holder (S : S52 K d c wd kt cnt M f n H0 H) : ∃ z, DGet H wd (.str "holder") (some (.str z)) ∧ Nm z := by
  obtain ⟨ca, ce, ar, h, cs, as, cvs, avs, es, e1, e2, e3, e4, e5, e6, l1, o1, l2, o2, l3, o3, o4⟩ := S.wd.ex
  exact ⟨h, DGet.k (k := Sum.inr "holder") (off_at e1).1, o4⟩
theorem S52.arrays (S : S52 K d c wd kt cnt M f n H0 H) : ∃ ar xs, DGet H wd (.str "arrays") (some (.ref ar)) ∧ SqL K (off d c H) ar xs ∧ 0 < xs.length ∧ xs.length ≤ 1000 ∧ ∀ (j : Nat) (y : V), xs[j]? = some y → ∃ p : Str × Nat, Nm p.1 ∧ Dp K (off d c H) y (prD p) := by
  obtain ⟨ca, ce, ar, h, cs, as, cvs, avs, es, e1, e2, e3, e4, e5, e6, l1, o1, l2, o2, l3, o3, o4⟩ := S.wd.ex
  have hl := dpAll_len e6
  rw [List.length_map] at hl
  refine ⟨ar, _, DGet.k (k := Sum.inr "arrays") (off_at e1).1, .inl (.inl e5), by omega, by omega, fun j y hy => ?_⟩
  obtain ⟨p, hp, hyp⟩ := dpAll_map_get e6 hy
  exact ⟨p, (o3 p (List.mem_of_getElem? hp)).1, hyp⟩
theorem S52.calls (S : S52 K d c wd kt cnt M f n H0 H) : ∃ ca xs, DGet H wd (.str "calls") (some (.ref ca)) ∧ SqL K (off d c H) ca xs ∧ 0 < xs.length ∧ xs.length ≤ 1000 ∧ (∀ (y : V), y ∈ xs → ∃ p : Str × Nat, Nm p.1 ∧ p.2 ≤ 2 ∧ Dp K (off d c H) y (prD p)) ∧ (cutV xs (some 1) (some 3)).length = 2 := by
  obtain ⟨ca, ce, ar, h, cs, as, cvs, avs, es, e1, e2, e3, e4, e5, e6, l1, o1, l2, o2, l3, o3, o4⟩ := S.wd.ex
  have hl := dpAll_len e3
  rw [List.length_map] at hl
  refine ⟨ca, _, DGet.k (k := Sum.inr "calls") (off_at e1).1, .inl (.inl e2), by omega, by omega, fun y hy => ?_, ?_⟩
  · obtain ⟨i, hi⟩ := List.getElem?_of_mem hy
    obtain ⟨p, hp, hyp⟩ := dpAll_map_get e3 hi
    have ok := o1 p (List.mem_of_getElem? hp)
    exact ⟨p, ok.1, ok.2, hyp⟩
  · unfold cutV
    rw [show HT.sIx cvs.length 0 (some 1) = 1 by rw [show (some (1 : Int)) = some ((1 : Nat) : Int) from rfl, HT.sIx_nat]; omega, show HT.sIx cvs.length cvs.length (some 3) = 3 by rw [show (some (3 : Int)) = some ((3 : Nat) : Int) from rfl, HT.sIx_nat]; omega, List.length_take, List.length_drop]
    omega
theorem cutV_sub {xs : List V} {lo hi : Option Int} {y : V} (h : y ∈ cutV xs lo hi) : y ∈ xs := by
  unfold cutV at h
  exact List.mem_of_mem_drop (List.mem_of_mem_take h)
end
end K48

set_option maxHeartbeats 4000000
namespace K48
open PySem PySem.Spec PyProof.Rows L2 HG P52
def spOther (K : PySem.W.Frag) : Sp := fun vs H Q _ => ∃ (d c wd kt : Addr) (n cnt M f : Nat) (v1 v2 : V) (a1 a2 : Opd), vs = [.ref d, .ref wd, .ref kt, v1, v2] ∧ n < 2 ^ 48 ∧ S52 K d c wd kt cnt M f n H H ∧ Dp K H v1 (oD a1) ∧ Dp K H v2 (oD a2) ∧ OpdOk M a1 ∧ OpdOk M a2 ∧
  ∀ (v : V) (R : Rw) (H' : Hp), S52 K d c wd kt cnt M f (n + 20) H H' → Dp K H' v R.D → RwOk (M + f) R → Q v H'
theorem opd_up {M N : Nat} {a : Opd} (h : OpdOk M a) (hN : M ≤ N) : OpdOk N a := by
  cases a with
  | w i => exact h
  | v n => exact Nat.lt_of_lt_of_le h hN
theorem last_range {M : Nat} (h : 0 < M) : atI ((List.range M).map fun i => V.int ((i : Nat) : Int)) (-1) = some (.int ((M - 1 : Nat) : Int)) := by
  unfold atI ixN
  rw [List.length_map, List.length_range]
  have h1 : ¬ (0 ≤ (-1 : Int)) := by omega
  have h2 : -(M : Int) ≤ -1 := by omega
  rw [if_neg h1, if_pos h2]
  have h3 : (-1 + (M : Int)).toNat = M - 1 := by omega
  show ((List.range M).map fun i => V.int ((i : Nat) : Int))[(-1 + (M : Int)).toNat]? = _
  rw [h3, List.getElem?_map, List.getElem?_range (by omega)]
  rfl
theorem nm_same : Nm ("same" : Str) := ⟨by decide +kernel, by decide +kernel⟩
section
variable {P : Program} {w : World} {K : PySem.W.Frag} {mg : Str → Option Value} {base : Heap}
set_option pp.maxSteps 600 in
theorem c_other (T : Txt w K mg) : Cal P w K mg base "_law_other_row" 3 ["_law_deck_here", "_law_world_here", "_law_kit", "_law_one", "_law_two"] (spOther K) := by
  obtain ⟨fd, F⟩ := T.d__law_other_row
  have C__law_draw := c_draw (P := P) (base := base) T
  have C__law_pick := c_pick (P := P) (base := base) T
  refine ⟨⟨fd, F.ok sc__law_other_row (fun vs H Q E h => ?_) (fun cdv A outer s H vs Q E hr h => ?_), F.bindsN fun _ _ _ _ _ _ us hl => match us, hl with | [_, _, _, _, _], _ => rfl⟩, T.g _ (by decide), F.kp⟩
  · obtain ⟨d, c, wd, kt, n, cnt, M, f, v1, v2, a1, a2, rfl, _⟩ := h
    rfl
  obtain ⟨d, c, wd, kt, n, cnt, M, f, v1, v2, a1, a2, rfl, hn, S, h1, h2, o1, o2, q⟩ := h
  have hu := hu_of hr
  refine ⟨_, PSs.nox (pss_cons (ps_par3 (i := 5) (j := 6) (l := 7) rfl sc__law_other_row.nd rfl rfl rfl (by decide) (by decide) (by decide) rfl rfl rfl (pa_cons (pe_cal C__law_draw (hr.mono (by omega)) (by rfl) (pa_cons (pv 0) (pa_cons pe_int pa_nil))) (pa_cons (pe_cal C__law_pick (hr.mono (by omega)) (by rfl) (pa_cons (pv 0) (pa_cons (pe_dget hu (pv 2) pe_str (fun _ _ => rfl)) pa_nil))) (pa_cons (pe_cal C__law_pick (hr.mono (by omega)) (by rfl) (pa_cons (pv 0) (pa_cons (pe_dget hu (pv 2) pe_str (fun _ _ => rfl)) pa_nil))) pa_nil))) (by rfl))
      (pss_cons (ps_set (i := 8) sc__law_other_row.nd rfl (.inl rfl) (pe_lst (pa_cons (pe_tup (pa_cons pe_str (pa_cons (pe_cal C__law_pick (hr.mono (by omega)) (by rfl) (pa_cons (pv 0) (pa_cons (pe_dget hu (pv 1) pe_str (fun _ _ => rfl)) pa_nil))) (pa_cons (pv 3) pa_nil)))) (pa_cons (pe_tup (pa_cons pe_str (pa_cons (pv 3) pa_nil))) (pa_cons (pe_tup (pa_cons pe_str (pa_cons (pe_dget hu (pv 1) pe_str (fun _ _ => rfl)) (pa_cons (pe_tup (pa_cons pe_str (pa_cons (pv 6) pa_nil))) pa_nil)))) pa_nil)))))
      (pss_cons (ps_set (i := 8) sc__law_other_row.nd rfl (.inl rfl) (pe_op op_cat (pv 8) (pe_op op_rep (pe_lst (pa_cons (pe_tup (pa_cons pe_str (pa_cons (pe_ix (ix_P (K := K) rfl) (pe_cal C__law_pick (hr.mono (by omega)) (by rfl) (pa_cons (pv 0) (pa_cons (pe_dget hu (pv 1) pe_str (fun _ _ => rfl)) pa_nil))) pe_int (fun _ _ => rfl)) (pa_cons (pv 3) (pa_cons (pv 4) pa_nil))))) pa_nil)) pe_int)))
      (pss_cons (ps_set (i := 8) sc__law_other_row.nd rfl (.inl rfl) (pe_op op_cat (pv 8) (pe_lst (pa_cons (pe_tup (pa_cons pe_str (pa_cons (pv 6) (pa_cons (pe_tup (pa_cons pe_str (pa_cons (pe_ix (ix_P (K := K) rfl) (pe_cal C__law_pick (hr.mono (by omega)) (by rfl) (pa_cons (pv 0) (pa_cons (pe_slice (sl_listK (K := K) rfl) (pe_dget hu (pv 1) pe_str (fun _ _ => rfl)) (po_some pe_int) (po_some pe_int)) pa_nil))) pe_int (fun _ _ => rfl)) pa_nil))) pa_nil)))) (pa_cons (pe_tup (pa_cons pe_str (pa_cons (pv 6) (pa_cons (pv 7) pa_nil)))) pa_nil)))))
      (pss_one (ps_ret (pe_ix (ix_listK (K := K) rfl) (pe_op op_cat (pv 8) (pe_lst (pa_cons (pe_tup (pa_cons pe_str (pa_cons (pv 6) (pa_cons (pe_dget hu (pv 1) pe_str (fun _ _ => rfl)) pa_nil)))) (pa_cons (pe_tup (pa_cons pe_str (pa_cons (pe_ix (ix_listK (K := K) rfl) (pe_dget hu (pv 2) pe_str (fun _ _ => rfl)) (pe_un un_neg pe_int) (fun _ _ => rfl)) (pa_cons pe_str (pa_cons (pe_tup (pa_cons pe_str (pa_cons (pv 6) pa_nil))) (pa_cons (pe_tup (pa_cons pe_str (pa_cons (pv 7) pa_nil))) pa_nil)))))) pa_nil)))) (pv 5) (fun _ _ => rfl)))))))), ?_⟩
  have dk0 := S.dk
  refine ⟨.ref d, rfl, d, c, _, 9, rfl, by decide, by decide, by omega, S.dk, fun r1 H1 r01 r11 dk1 X1 => ?_⟩
  obtain ⟨way, rfl⟩ := Int.eq_ofNat_of_zero_le r01
  have S1 := S.step dk1 X1
  have k1 := ext_kt S.dk X1
  obtain ⟨pa2, xs2, dg2, sq2, lo2, hi2, pk2, _⟩ := S1.funcs
  refine ⟨.ref d, rfl, .ref kt, rfl, kt, _, rfl, dg2, d, c, pa2, _, xs2, rfl, S1.dk, by omega, sq2, lo2, hi2, fun j2 y2 H2 hy2 dk2 X2 => ?_⟩
  obtain ⟨jf, hjf, rfl⟩ := pk2 j2 y2 hy2
  have S2 := S1.step dk2 X2
  have k2 := ext_kt S1.dk X2
  obtain ⟨pa3, xs3, dg3, sq3, lo3, hi3, pk3, _⟩ := S2.funcs
  refine ⟨.ref d, rfl, .ref kt, rfl, kt, _, rfl, dg3, d, c, pa3, _, xs3, rfl, S2.dk, by omega, sq3, lo3, hi3, fun j3 y3 H3 hy3 dk3 X3 => ?_⟩
  obtain ⟨jg, hjg, rfl⟩ := pk3 j3 y3 hy3
  have S3 := S2.step dk3 X3
  have k3 := ext_kt S2.dk X3
  refine ⟨_, _, _, rfl, ?_⟩
  obtain ⟨pa4, xs4, dg4, sq4, lo4, hi4, pk4⟩ := S3.cells
  refine ⟨.ref d, rfl, .ref wd, rfl, wd, _, rfl, dg4, d, c, pa4, _, xs4, rfl, S3.dk, by omega, sq4, lo4, hi4, fun j4 y4 H4 hy4 dk4 X4 => ?_⟩
  obtain ⟨zc, hzc, rfl⟩ := pk4 j4 y4 hy4
  have S4 := S3.step dk4 X4
  have k4 := ext_kt S3.dk X4
  refine ⟨v1, rfl, (by show 3 ≤ sizeLine; decide), fun t1 ht1 => ?_⟩
  have s5 := same_new (o := .tup [.str "store", .str zc, v1]) ht1
  have S5 := S4.same s5
  have k5 := KT.of s5
  have gt1 : Dp K (upd H4 t1 (.tup [.str "store", .str zc, v1])) (.ref t1) ((Rw.st zc a1).D) := dp_tupN ht1 (.cons (.str _) (.cons (.str _) (.cons (dp_kt (k1.trans (k2.trans (k3.trans k4))) _ _ (nlO a1) h1) .nil)))
  generalize upd H4 t1 (.tup [.str "store", .str zc, v1]) = H5 at s5 S5 k5 gt1 ⊢
  refine ⟨v1, rfl, (by show 2 ≤ sizeLine; decide), fun t2 ht2 => ?_⟩
  have s6 := same_new (o := .tup [.str "print", v1]) ht2
  have S6 := S5.same s6
  have k6 := KT.of s6
  have gt2 : Dp K (upd H5 t2 (.tup [.str "print", v1])) (.ref t2) ((Rw.pr a1).D) := dp_tupN ht2 (.cons (.str _) (.cons (dp_kt (k1.trans (k2.trans (k3.trans (k4.trans k5)))) _ _ (nlO a1) h1) .nil))
  generalize upd H5 t2 (.tup [.str "print", v1]) = H6 at s6 S6 k6 gt2 ⊢
  obtain ⟨zh, dgh, hzh⟩ := S6.holder
  refine ⟨.ref wd, rfl, wd, _, rfl, dgh, _, rfl, (by show 2 ≤ sizeLine; decide), fun t3 ht3 => ?_⟩
  have s7 := same_new (o := .tup [.str "var", .int (jf : Int)]) ht3
  have S7 := S6.same s7
  have k7 := KT.of s7
  have gt3 : Dp K (upd H6 t3 (.tup [.str "var", .int (jf : Int)])) (.ref t3) (oD (.v jf)) := dp_tupN ht3 (.cons (.str _) (.cons (.int _) .nil))
  generalize upd H6 t3 (.tup [.str "var", .int (jf : Int)]) = H7 at s7 S7 k7 gt3 ⊢
  refine ⟨(by show 3 ≤ sizeLine; decide), fun t4 ht4 => ?_⟩
  have s8 := same_new (o := .tup [.str "store", .str zh, .ref t3]) ht4
  have S8 := S7.same s8
  have k8 := KT.of s8
  have gt4 : Dp K (upd H7 t4 (.tup [.str "store", .str zh, .ref t3])) (.ref t4) ((Rw.st zh (.v jf)).D) := dp_tupN ht4 (.cons (.str _) (.cons (.str _) (.cons gt3 .nil)))
  generalize upd H7 t4 (.tup [.str "store", .str zh, .ref t3]) = H8 at s8 S8 k8 gt4 ⊢
  refine ⟨(by show 3 ≤ sizeLine; decide), fun l1 hl1 => ?_⟩
  have nl1 := S8.dk.has hl1
  have s9 := same_new (o := .lst [.ref t1, .ref t2, .ref t4]) hl1
  have S9 := S8.same s9
  have k9 := KT.of s9
  have el1 : (upd H8 l1 (.lst [.ref t1, .ref t2, .ref t4])) l1 = some (.lst [.ref t1, .ref t2, .ref t4]) := upd_same
  generalize upd H8 l1 (.lst [.ref t1, .ref t2, .ref t4]) = H9 at s9 S9 k9 el1 ⊢
  obtain ⟨pa10, xs10, dg10, sq10, lo10, hi10, pk10⟩ := S9.arrays
  refine ⟨.ref l1, rfl, .ref d, rfl, .ref wd, rfl, wd, _, rfl, dg10, d, c, pa10, _, xs10, rfl, S9.dk, by omega, sq10, lo10, hi10, fun j10 y10 H10 hy10 dk10 X10 => ?_⟩
  obtain ⟨pA, hpA, gA⟩ := pk10 j10 y10 hy10
  have S10 := S9.step dk10 X10
  have k10 := ext_kt S9.dk X10
  have el1 := X10.at nl1.1 nl1.2 el1
  have gA := dp_mono (ext_all X10) _ _ gA
  refine ⟨_, 0, _, gA, rfl, rfl, fun z hz => ?_⟩
  cases hz
  refine ⟨v1, rfl, v2, rfl, (by show 4 ≤ sizeLine; decide), fun t5 ht5 => ?_⟩
  have s11 := same_new (o := .tup [.str "write", .str pA.1, v1, v2]) ht5
  have S11 := S10.same s11
  have k11 := KT.of s11
  have el1 := s11 _ _ el1
  have gt5 : Dp K (upd H10 t5 (.tup [.str "write", .str pA.1, v1, v2])) (.ref t5) ((Rw.wr pA.1 a1 a2).D) := dp_tupN ht5 (.cons (.str _) (.cons (.str _) (.cons (dp_kt (k1.trans (k2.trans (k3.trans (k4.trans (k5.trans (k6.trans (k7.trans (k8.trans (k9.trans k10))))))))) _ _ (nlO a1) h1) (.cons (dp_kt (k1.trans (k2.trans (k3.trans (k4.trans (k5.trans (k6.trans (k7.trans (k8.trans (k9.trans k10))))))))) _ _ (nlO a2) h2) .nil))))
  generalize upd H10 t5 (.tup [.str "write", .str pA.1, v1, v2]) = H11 at s11 S11 k11 el1 gt5 ⊢
  refine ⟨(by show 1 ≤ sizeLine; decide), fun l2 hl2 => ?_⟩
  have nl2 := S11.dk.has hl2
  have s12 := same_new (o := .lst [.ref t5]) hl2
  have S12 := S11.same s12
  have k12 := KT.of s12
  have el1 := s12 _ _ el1
  have el2 : (upd H11 l2 (.lst [.ref t5])) l2 = some (.lst [.ref t5]) := upd_same
  generalize upd H11 l2 (.lst [.ref t5]) = H12 at s12 S12 k12 el1 el2 ⊢
  refine ⟨l2, 2, _, rfl, rfl, el2, by decide, by decide, (by show 1 * 2 ≤ sizeLine; decide), fun l3 hl3 => ?_⟩
  generalize eH13 : upd H12 l3 _ = H13
  have eH13 : H13 = upd H12 l3 (.lst [.ref t5, .ref t5]) := eH13.symm
  have nl3 := S12.dk.has hl3
  have s13 : Same H12 H13 := by rw [eH13]; exact same_new hl3
  have S13 := S12.same s13
  have k13 := KT.of s13
  have el1 := s13 _ _ el1
  have el3 : H13 l3 = some (.lst [.ref t5, .ref t5]) := by rw [eH13]; exact upd_same
  refine ⟨l1, l3, _, _, rfl, rfl, el1, el3, (by show 5 ≤ sizeLine; decide), fun l4 hl4 => ?_⟩
  generalize eH14 : upd H13 l4 _ = H14
  have eH14 : H14 = upd H13 l4 (.lst [.ref t1, .ref t2, .ref t4, .ref t5, .ref t5]) := eH14.symm
  have nl4 := S13.dk.has hl4
  have s14 : Same H13 H14 := by rw [eH14]; exact same_new hl4
  have S14 := S13.same s14
  have k14 := KT.of s14
  have el4 : H14 l4 = some (.lst [.ref t1, .ref t2, .ref t4, .ref t5, .ref t5]) := by rw [eH14]; exact upd_same
  refine ⟨.ref l4, rfl, .int (jf : Int), rfl, .ref d, rfl, ?_⟩
  obtain ⟨pca, xca, dgca, sqca, _, _, pkca, lca⟩ := S14.calls
  refine ⟨.ref wd, rfl, wd, _, rfl, dgca, 1, rfl, 3, rfl, pca, _, rfl, offL sqca, fun l5 hl5 => ?_⟩
  have nl5 := S14.dk.has hl5
  have s15 := same_new (o := .lst (cutV xca (some 1) (some 3))) hl5
  have S15 := S14.same s15
  have k15 := KT.of s15
  have el5 : (upd H14 l5 (.lst (cutV xca (some 1) (some 3)))) l5 = some (.lst (cutV xca (some 1) (some 3))) := upd_same
  have el4 := s15 _ _ el4
  generalize upd H14 l5 (.lst (cutV xca (some 1) (some 3))) = H15 at s15 S15 k15 el5 el4 ⊢
  refine ⟨d, c, l5, _, _, rfl, S15.dk, by omega, .inl (.inl (by rw [off_get nl5.1 nl5.2]; exact el5)), by omega, by omega, fun j16 y16 H16 hy16 dk16 X16 => ?_⟩
  obtain ⟨pC, hpC, _, gC⟩ := pkca y16 (cutV_sub (List.mem_of_getElem? hy16))
  have gC := dp_mono (ext_all ((off_same_mono s15).trans X16)) _ _ gC
  have S16 := S15.step dk16 X16
  have k16 := ext_kt S15.dk X16
  have el4 := X16.at nl4.1 nl4.2 el4
  refine ⟨_, 0, _, gC, rfl, rfl, fun z hz => ?_⟩
  cases hz
  refine ⟨(by show 2 ≤ sizeLine; decide), fun t6 ht6 => ?_⟩
  have s17 := same_new (o := .tup [.str "func", .str pC.1]) ht6
  have S17 := S16.same s17
  have k17 := KT.of s17
  have el4 := s17 _ _ el4
  have gt6 : Dp K (upd H16 t6 (.tup [.str "func", .str pC.1])) (.ref t6) (.tuple [.str "func", .str pC.1]) := dp_tupN ht6 (.cons (.str _) (.cons (.str _) .nil))
  generalize upd H16 t6 (.tup [.str "func", .str pC.1]) = H17 at s17 S17 k17 el4 gt6 ⊢
  refine ⟨(by show 3 ≤ sizeLine; decide), fun t7 ht7 => ?_⟩
  have s18 := same_new (o := .tup [.str "const", .int (jf : Int), .ref t6]) ht7
  have S18 := S17.same s18
  have k18 := KT.of s18
  have el4 := s18 _ _ el4
  have gt7 : Dp K (upd H17 t7 (.tup [.str "const", .int (jf : Int), .ref t6])) (.ref t7) ((Rw.cf jf pC.1).D) := dp_tupN ht7 (.cons (.str _) (.cons (.int _) (.cons gt6 .nil)))
  generalize upd H17 t7 (.tup [.str "const", .int (jf : Int), .ref t6]) = H18 at s18 S18 k18 el4 gt7 ⊢
  refine ⟨_, rfl, _, rfl, (by show 3 ≤ sizeLine; decide), fun t8 ht8 => ?_⟩
  have s19 := same_new (o := .tup [.str "copy", .int (jf : Int), .int (jg : Int)]) ht8
  have S19 := S18.same s19
  have k19 := KT.of s19
  have el4 := s19 _ _ el4
  have gt8 : Dp K (upd H18 t8 (.tup [.str "copy", .int (jf : Int), .int (jg : Int)])) (.ref t8) ((Rw.cp jf jg).D) := dp_tupN ht8 (.cons (.str _) (.cons (.int _) (.cons (.int _) .nil)))
  generalize upd H18 t8 (.tup [.str "copy", .int (jf : Int), .int (jg : Int)]) = H19 at s19 S19 k19 el4 gt8 ⊢
  refine ⟨(by show 2 ≤ sizeLine; decide), fun l6 hl6 => ?_⟩
  have nl6 := S19.dk.has hl6
  have s20 := same_new (o := .lst [.ref t7, .ref t8]) hl6
  have S20 := S19.same s20
  have k20 := KT.of s20
  have el4 := s20 _ _ el4
  have el6 : (upd H19 l6 (.lst [.ref t7, .ref t8])) l6 = some (.lst [.ref t7, .ref t8]) := upd_same
  generalize upd H19 l6 (.lst [.ref t7, .ref t8]) = H20 at s20 S20 k20 el4 el6 ⊢
  refine ⟨l4, l6, _, _, rfl, rfl, el4, el6, (by show 7 ≤ sizeLine; decide), fun l7 hl7 => ?_⟩
  generalize eH21 : upd H20 l7 _ = H21
  have eH21 : H21 = upd H20 l7 (.lst [.ref t1, .ref t2, .ref t4, .ref t5, .ref t5, .ref t7, .ref t8]) := eH21.symm
  have nl7 := S20.dk.has hl7
  have s21 : Same H20 H21 := by rw [eH21]; exact same_new hl7
  have S21 := S20.same s21
  have k21 := KT.of s21
  have el7 : H21 l7 = some (.lst [.ref t1, .ref t2, .ref t4, .ref t5, .ref t5, .ref t7, .ref t8]) := by rw [eH21]; exact upd_same
  obtain ⟨zk, dgk, hzk⟩ := S21.holder
  refine ⟨.ref l7, rfl, _, rfl, .ref wd, rfl, wd, _, rfl, dgk, (by show 3 ≤ sizeLine; decide), fun t9 ht9 => ?_⟩
  have s22 := same_new (o := .tup [.str "load", .int (jf : Int), .str zk]) ht9
  have S22 := S21.same s22
  have k22 := KT.of s22
  have el7 := s22 _ _ el7
  have gt9 : Dp K (upd H21 t9 (.tup [.str "load", .int (jf : Int), .str zk])) (.ref t9) ((Rw.ld jf zk).D) := dp_tupN ht9 (.cons (.str _) (.cons (.int _) (.cons (.str _) .nil)))
  generalize upd H21 t9 (.tup [.str "load", .int (jf : Int), .str zk]) = H22 at s22 S22 k22 el7 gt9 ⊢
  obtain ⟨pw, xw, dgw, sqw, low, _, _, exw⟩ := S22.words
  have hM := S22.kt.lt
  have hlast : atI xw (-1) = some (.int ((M - 1 : Nat) : Int)) := by rw [exw]; exact last_range (by omega)
  refine ⟨.ref kt, rfl, kt, _, rfl, dgw, 1, rfl, pw, xw, _, _, rfl, rfl, offL sqw, hlast, _, rfl, (by show 2 ≤ sizeLine; decide), fun ta hta => ?_⟩
  have s23 := same_new (o := .tup [.str "var", .int (jf : Int)]) hta
  have S23 := S22.same s23
  have k23 := KT.of s23
  have el7 := s23 _ _ el7
  have gta : Dp K (upd H22 ta (.tup [.str "var", .int (jf : Int)])) (.ref ta) (oD (.v jf)) := dp_tupN hta (.cons (.str _) (.cons (.int _) .nil))
  generalize upd H22 ta (.tup [.str "var", .int (jf : Int)]) = H23 at s23 S23 k23 el7 gta ⊢
  refine ⟨_, rfl, (by show 2 ≤ sizeLine; decide), fun tb htb => ?_⟩
  have s24 := same_new (o := .tup [.str "var", .int (jg : Int)]) htb
  have S24 := S23.same s24
  have k24 := KT.of s24
  have el7 := s24 _ _ el7
  have gtb : Dp K (upd H23 tb (.tup [.str "var", .int (jg : Int)])) (.ref tb) (oD (.v jg)) := dp_tupN htb (.cons (.str _) (.cons (.int _) .nil))
  generalize upd H23 tb (.tup [.str "var", .int (jg : Int)]) = H24 at s24 S24 k24 el7 gtb ⊢
  refine ⟨(by show 5 ≤ sizeLine; decide), fun tc htc => ?_⟩
  have s25 := same_new (o := .tup [.str "op", .int ((M - 1 : Nat) : Int), .str "same", .ref ta, .ref tb]) htc
  have S25 := S24.same s25
  have k25 := KT.of s25
  have el7 := s25 _ _ el7
  have gtc : Dp K (upd H24 tc (.tup [.str "op", .int ((M - 1 : Nat) : Int), .str "same", .ref ta, .ref tb])) (.ref tc) ((Rw.op (M - 1) "same" (.v jf) (.v jg)).D) := dp_tupN htc (.cons (.str _) (.cons (.int _) (.cons (.str _) (.cons (dp_kt k24 _ _ rfl gta) (.cons gtb .nil)))))
  generalize upd H24 tc (.tup [.str "op", .int ((M - 1 : Nat) : Int), .str "same", .ref ta, .ref tb]) = H25 at s25 S25 k25 el7 gtc ⊢
  refine ⟨(by show 2 ≤ sizeLine; decide), fun l8 hl8 => ?_⟩
  have nl8 := S25.dk.has hl8
  have s26 := same_new (o := .lst [.ref t9, .ref tc]) hl8
  have S26 := S25.same s26
  have k26 := KT.of s26
  have el7 := s26 _ _ el7
  have el8 : (upd H25 l8 (.lst [.ref t9, .ref tc])) l8 = some (.lst [.ref t9, .ref tc]) := upd_same
  generalize upd H25 l8 (.lst [.ref t9, .ref tc]) = H26 at s26 S26 k26 el7 el8 ⊢
  refine ⟨l7, l8, _, _, rfl, rfl, el7, el8, (by show 9 ≤ sizeLine; decide), fun l9 hl9 => ?_⟩
  generalize eH27 : upd H26 l9 _ = H27
  have eH27 : H27 = upd H26 l9 (.lst [.ref t1, .ref t2, .ref t4, .ref t5, .ref t5, .ref t7, .ref t8, .ref t9, .ref tc]) := eH27.symm
  have nl9 := S26.dk.has hl9
  have s27 : Same H26 H27 := by rw [eH27]; exact same_new hl9
  have S27 := S26.same s27
  have k27 := KT.of s27
  have el9 : H27 l9 = some (.lst [.ref t1, .ref t2, .ref t4, .ref t5, .ref t5, .ref t7, .ref t8, .ref t9, .ref tc]) := by rw [eH27]; exact upd_same
  have all : DpAll K H27 [.ref t1, .ref t2, .ref t4, .ref t5, .ref t5, .ref t7, .ref t8, .ref t9, .ref tc] (([.st zc a1, .pr a1, .st zh (.v jf), .wr pA.1 a1 a2, .wr pA.1 a1 a2, .cf jf pC.1, .cp jf jg, .ld jf zk, .op (M - 1) "same" (.v jf) (.v jg)] : List Rw).map Rw.D) :=
    .cons (dp_kt (k6.trans (k7.trans (k8.trans (k9.trans (k10.trans (k11.trans (k12.trans (k13.trans (k14.trans (k15.trans (k16.trans (k17.trans (k18.trans (k19.trans (k20.trans (k21.trans (k22.trans (k23.trans (k24.trans (k25.trans (k26.trans k27))))))))))))))))))))) _ _ (nlR _) gt1) (.cons (dp_kt (k7.trans (k8.trans (k9.trans (k10.trans (k11.trans (k12.trans (k13.trans (k14.trans (k15.trans (k16.trans (k17.trans (k18.trans (k19.trans (k20.trans (k21.trans (k22.trans (k23.trans (k24.trans (k25.trans (k26.trans k27)))))))))))))))))))) _ _ (nlR _) gt2) (.cons (dp_kt (k9.trans (k10.trans (k11.trans (k12.trans (k13.trans (k14.trans (k15.trans (k16.trans (k17.trans (k18.trans (k19.trans (k20.trans (k21.trans (k22.trans (k23.trans (k24.trans (k25.trans (k26.trans k27)))))))))))))))))) _ _ (nlR _) gt4) (.cons (dp_kt (k12.trans (k13.trans (k14.trans (k15.trans (k16.trans (k17.trans (k18.trans (k19.trans (k20.trans (k21.trans (k22.trans (k23.trans (k24.trans (k25.trans (k26.trans k27))))))))))))))) _ _ (nlR _) gt5) (.cons (dp_kt (k12.trans (k13.trans (k14.trans (k15.trans (k16.trans (k17.trans (k18.trans (k19.trans (k20.trans (k21.trans (k22.trans (k23.trans (k24.trans (k25.trans (k26.trans k27))))))))))))))) _ _ (nlR _) gt5) (.cons (dp_kt (k19.trans (k20.trans (k21.trans (k22.trans (k23.trans (k24.trans (k25.trans (k26.trans k27)))))))) _ _ (nlR _) gt7) (.cons (dp_kt (k20.trans (k21.trans (k22.trans (k23.trans (k24.trans (k25.trans (k26.trans k27))))))) _ _ (nlR _) gt8) (.cons (dp_kt (k23.trans (k24.trans (k25.trans (k26.trans k27)))) _ _ (nlR _) gt9) (.cons (dp_kt (k26.trans k27) _ _ (nlR _) gtc) .nil))))))))
  have hw9 : way < 9 := by omega
  obtain ⟨y, hy⟩ : ∃ y, ([.ref t1, .ref t2, .ref t4, .ref t5, .ref t5, .ref t7, .ref t8, .ref t9, .ref tc] : List V)[way]? = some y := ⟨_, List.getElem?_eq_getElem (show way < 9 from hw9)⟩
  obtain ⟨R, hR, hyR⟩ := dpAll_map_get all hy
  refine ⟨.int (way : Int), rfl, l9, _, _, _, rfl, rfl, .inl (.inl el9), atI_nat hy, q y R _ ⟨S27.dk.up (by omega), S27.X, S27.wd, S27.kt⟩ hyR ?_⟩
  have hRm := List.mem_of_getElem? hR
  have u1 := opd_up o1 (show M ≤ M + f by omega)
  have u2 := opd_up o2 (show M ≤ M + f by omega)
  simp only [List.mem_cons, List.not_mem_nil, or_false] at hRm
  rcases hRm with rfl | rfl | rfl | rfl | rfl | rfl | rfl | rfl | rfl
  · exact ⟨hzc, u1⟩
  · exact u1
  · exact ⟨hzh, hjf⟩
  · exact ⟨hpA, u1, u2⟩
  · exact ⟨hpA, u1, u2⟩
  · exact ⟨hjf, hpC⟩
  · exact ⟨hjf, hjg⟩
  · exact ⟨hjf, hzk⟩
  · exact ⟨by omega, nm_same, hjf, hjg⟩
end
end K48

set_option maxHeartbeats 4000000
namespace K48
open PySem PySem.Spec PyProof.Rows L2 HG P52
def spFirst (K : PySem.W.Frag) : Sp := fun vs H Q _ => ∃ (d c wd kt : Addr) (n cnt M f : Nat), vs = [.ref d, .ref wd, .ref kt] ∧ n < 2 ^ 48 ∧ S52 K d c wd kt cnt M f n H H ∧
  ∀ (a : Addr) (us : List V) (rows : List Rw) (H' : Hp), S52 K d c wd kt cnt M f (n + 20) H H' → H a = none → H' a = some (.lst us) → DpAll K H' us (rows.map Rw.D) → rows.length ≤ 10 → (∀ R ∈ rows, RwOk (M + f) R) → (∃ R ∈ rows, R.set ≠ none) → Q (.ref a) H'
/-- one more row in a list -/
theorem row_step {K : PySem.W.Frag} {d c D p : Addr} {n m N : Nat} {H1 H3 H4 : Hp} {us : List V} {rows : List Rw} {v : V} {R : Rw} (nD : D ≠ d ∧ D ≠ c) (hD : H1 D = none) (hD3 : H3 D = some (.lst us)) (hU : DpAll K H3 us (rows.map Rw.D)) (hok : ∀ R ∈ rows, RwOk N R) (dk3 : Deck d c n H3) (X3 : Ext d c H1 H3) (dk4 : Deck d c m H4) (X4 : Ext d c H3 H4) (hv : Dp K H4 v R.D) (hR : RwOk N R) :
    H4 D = some (.lst us) ∧ DpAll K (upd H4 D (.lst (us ++ [v]))) (us ++ [v]) ((rows ++ [R]).map Rw.D) ∧ (∀ R' ∈ rows ++ [R], RwOk N R') ∧ Deck d c m (upd H4 D (.lst (us ++ [v]))) ∧ Ext d c H1 (upd H4 D (.lst (us ++ [v]))) := by
  have hD4 := X4.at nD.1 nD.2 hD3
  have ke := KT.lst (o := .lst (us ++ [v])) hD4
  refine ⟨hD4, ?_, fun R' h => ?_, dk4.upd nD.1 nD.2, (X3.trans X4).mut hD⟩
  · rw [List.map_append]
    exact dpAll_app (dpAll_kt ((ext_kt dk3 X4).trans ke) _ _ (nlRs rows) hU) (.cons (dp_kt ke _ _ (nlR R) hv) .nil)
  · rcases List.mem_append.mp h with z | z
    · exact hok R' z
    · rw [List.mem_singleton.mp z]
      exact hR
section
variable {P : Program} {w : World} {K : PySem.W.Frag} {mg : Str → Option Value} {base : Heap}
set_option pp.maxSteps 600 in
theorem c_first (T : Txt w K mg) : Cal P w K mg base "_law_first" 3 ["_law_deck_here", "_law_world_here", "_law_kit"] (spFirst K) := by
  obtain ⟨fd, F⟩ := T.d__law_first
  have C__law_word := c_word (P := P) (base := base) T
  have C__law_pick := c_pick (P := P) (base := base) T
  refine ⟨⟨fd, F.ok sc__law_first (fun vs H Q E h => ?_) (fun cdv A outer s H vs Q E hr h => ?_), F.bindsN fun _ _ _ _ _ _ us hl => match us, hl with | [_, _, _], _ => rfl⟩, T.g _ (by decide), F.kp⟩
  · obtain ⟨d, c, wd, kt, n, cnt, M, f, rfl, _⟩ := h
    rfl
  obtain ⟨d, c, wd, kt, n, cnt, M, f, rfl, hn, S, q⟩ := h
  have hu := hu_of hr
  refine ⟨_, PSs.nox (pss_cons (ps_setLc (i := 3) (own := [("_law_v", 4)]) (by rfl) sc__law_first.nd rfl rfl (sw_true rfl rfl rfl (by decide +kernel)) (pi_list (pe_slice (sl_listK (K := K) rfl) (pe_dget hu (pv 2) pe_str (fun _ _ => rfl)) (po_some (pe_dget hu (pv 2) pe_str (fun _ _ => rfl))) po_none)) (blkOk_by (own := [("_law_v", 4)]) (N := N__law_first) (sc := defScope s__law_first) (by decide +kernel)) (fun _ _ _ _ _ => (pg_name (i := 4) sc__law_first.nd rfl (.inl rfl))) (fun _ _ _ _ _ => pts_nil) (fun _ _ _ _ _ => (pe_tup (pa_cons pe_str (pa_cons (pv 4) (pa_cons (pe_cal C__law_word (hr.mono (by omega)) (by rfl) (pa_cons (pv 0) pa_nil)) pa_nil))))))
      (pss_one (ps_ret (pe_op op_cat (pv 3) (pe_lc (own := [("_law_v", 4)]) (by rfl) sc__law_first.nd (pi_list (pe_dget hu (pv 2) pe_str (fun _ _ => rfl))) (blkOk_by (own := [("_law_v", 4)]) (N := N__law_first) (sc := defScope s__law_first) (by decide +kernel)) (fun _ _ _ _ _ => (pg_name (i := 4) sc__law_first.nd rfl (.inl rfl))) (fun _ _ _ _ _ => pts_nil) (fun _ _ _ _ _ => (pe_tup (pa_cons pe_str (pa_cons (pv 4) (pa_cons (pe_tup (pa_cons pe_str (pa_cons (pe_ix (ix_P (K := K) rfl) (pe_cal C__law_pick (hr.mono (by omega)) (by rfl) (pa_cons (pv 0) (pa_cons (pe_slice (sl_listK (K := K) rfl) (pe_dget hu (pv 1) pe_str (fun _ _ => rfl)) (po_some pe_int) (po_some pe_int)) pa_nil))) pe_int (fun _ _ => rfl)) pa_nil))) pa_nil)))))))))), ?_⟩
  obtain ⟨pw, xw, dgw, sqw, low, hiw, pkw, exw⟩ := S.words
  have dgc := S.count
  have hM8 := S.kt.M8
  have hxl : xw.length = M := by rw [exw, List.length_map, List.length_range]
  refine ⟨.ref kt, rfl, kt, _, rfl, dgw, .ref kt, rfl, kt, _, rfl, dgc, _, rfl, pw, xw, rfl, offL sqw, fun p1 hp1 => ?_⟩
  have hcl : (cutV xw (some (cnt : Int)) none).length ≤ 8 := by
    unfold cutV
    rw [List.length_take, List.length_drop]
    omega
  have n1 := S.dk.has hp1
  have S1 := S.new (o := .lst (cutV xw (some (cnt : Int)) none)) hp1
  have e11 : (upd H p1 (.lst (cutV xw (some (cnt : Int)) none))) p1 = some (.lst (cutV xw (some (cnt : Int)) none)) := upd_same
  generalize upd H p1 (.lst (cutV xw (some (cnt : Int)) none)) = H1 at S1 e11 ⊢
  refine ⟨p1, rfl, ⟨_, .inl (.inl e11)⟩, fun D hD => ?_⟩
  have nD := S1.dk.has hD
  refine lc_list (xs := cutV xw (some (cnt : Int)) none) (fun i H3 => ∃ us rows, H3 D = some (.lst us) ∧ DpAll K H3 us (rows.map Rw.D) ∧ rows.length = i ∧ (∀ R ∈ rows, RwOk (M + f) R) ∧ Deck d c (n + i) H3 ∧ Ext d c H1 H3) ⟨[], [], upd_same, .nil, rfl, (fun _ h => nomatch h), S1.dk.new hD, Ext.new hD⟩ ?_ ?_ ?_
  · rintro i H3 _ ⟨us, rows, _, _, _, _, _, X3⟩
    exact .inl (.inl (X3.at n1.1 n1.2 e11))
  · rintro i x H3 hx ⟨us, rows, hD3, hU, hrl, hok, dk3, X3⟩
    obtain ⟨j, hj⟩ := List.getElem?_of_mem (cutV_sub (List.mem_of_getElem? hx))
    obtain ⟨v, hv, rfl⟩ := pkw j x hj
    have hi8 : i < 8 := Nat.lt_of_lt_of_le (List.getElem?_eq_some_iff.mp hx).1 hcl
    refine ⟨rfl, tyes ⟨_, rfl, .ref d, rfl, d, c, _, rfl, by omega, dk3, fun k H4 k0 k1 dk4 X4 => ⟨(by show 3 ≤ sizeLine; decide), fun p5 hp5 => ?_⟩⟩⟩
    obtain ⟨m1, m2, m3, m4, m5⟩ := row_step (p := p5) (R := .cw v k) nD hD hD3 hU hok dk3 X3 (dk4.new (o := .tup [.str "const", .int (v : Int), .int k]) hp5) (X4.trans (Ext.new hp5)) (dp_tupN hp5 (.cons (.str _) (.cons (.int _) (.cons (.int _) .nil)))) ⟨by omega, k0, k1⟩
    have hul := dpAll_len hU
    rw [List.length_map] at hul
    exact ⟨_, m1, small_line (by omega), _, rows ++ [_], upd_same, m2, by rw [List.length_append, hrl]; rfl, m3, m4, m5⟩
  rintro H3 ⟨us, rows, hD3, hU, hrl, hok, dk3, X3⟩
  have S3 := S1.step dk3 X3
  have hrl8 : rows.length ≤ 8 := by omega
  clear hrl
  -- the functions
  obtain ⟨pf, xf, dgf, sqf, lof, hif, pkf, hf2⟩ := S3.funcs
  refine ⟨.ref D, rfl, .ref kt, rfl, kt, _, rfl, dgf, pf, rfl, ⟨_, offL sqf⟩, fun D2 hD2 => ?_⟩
  have nD2 := S3.dk.has hD2
  have nDD : D ≠ D2 := ne_of_none hD3 hD2
  refine lc_list (xs := xf) (fun i H4 => ∃ us2 rows2, H4 D2 = some (.lst us2) ∧ DpAll K H4 us2 (rows2.map Rw.D) ∧ rows2.length = i ∧ (∀ R ∈ rows2, RwOk (M + f) R) ∧ (∀ R ∈ rows2, R.set ≠ none) ∧ Deck d c (n + 8 + i) H4 ∧ Ext d c H3 H4) ⟨[], [], upd_same, .nil, rfl, (fun _ h => nomatch h), (fun _ h => nomatch h), (S3.dk.new hD2).up (by omega), Ext.new hD2⟩ ?_ ?_ ?_
  · rintro i H4 _ ⟨us2, rows2, _, _, _, _, _, _, X4⟩
    exact offL (X4.sqL sqf)
  · rintro i x H4 hx ⟨us2, rows2, hD4, hU2, hrl2, hok2, hset2, dk4, X4⟩
    obtain ⟨v, hv, rfl⟩ := pkf i x hx
    have hi2 : i < 2 := Nat.lt_of_lt_of_le (List.getElem?_eq_some_iff.mp hx).1 hf2
    have S4 := S3.step dk4 X4
    obtain ⟨pca, xca, dgca, sqca, _, _, pkca, lca⟩ := S4.calls
    refine ⟨rfl, tyes ⟨_, rfl, .ref d, rfl, .ref wd, rfl, wd, _, rfl, dgca, 1, rfl, 3, rfl, pca, _, rfl, offL sqca, fun l5 hl5 => ?_⟩⟩
    have nl5 := S4.dk.has hl5
    have s5 := same_new (o := .lst (cutV xca (some 1) (some 3))) hl5
    have S5 := S4.same s5
    have el5 : (upd H4 l5 (.lst (cutV xca (some 1) (some 3)))) l5 = some (.lst (cutV xca (some 1) (some 3))) := upd_same
    generalize upd H4 l5 (.lst (cutV xca (some 1) (some 3))) = H5 at s5 S5 el5 ⊢
    refine ⟨d, c, l5, _, _, rfl, S5.dk, by omega, .inl (.inl (by rw [off_get nl5.1 nl5.2]; exact el5)), by omega, by omega, fun j6 y6 H6 hy6 dk6 X6 => ?_⟩
    obtain ⟨pC, hpC, _, gC⟩ := pkca y6 (cutV_sub (List.mem_of_getElem? hy6))
    have X46 : Ext d c H4 H6 := (off_same_mono s5).trans X6
    have gC := dp_mono (ext_all X46) _ _ gC
    refine ⟨_, 0, _, gC, rfl, rfl, fun z hz => ?_⟩
    cases hz
    refine ⟨(by show 2 ≤ sizeLine; decide), fun t7 ht7 => ⟨(by show 3 ≤ sizeLine; decide), fun t8 ht8 => ?_⟩⟩
    have s78 := (same_new (o := .tup [.str "func", .str pC.1]) ht7).trans (same_new (o := .tup [.str "const", .int (v : Int), .ref t7]) ht8)
    obtain ⟨m1, m2, m3, m4, m5⟩ := row_step (p := t8) (R := .cf v pC.1) nD2 hD2 hD4 hU2 hok2 dk4 X4 (dk6.same s78) (X46.trans (off_same_mono s78)) (dp_tupN ht8 (.cons (.str _) (.cons (.int _) (.cons (dp_tupN ht7 (.cons (.str _) (.cons (.str _) .nil))) .nil)))) ⟨hv, hpC⟩
    have hul := dpAll_len hU2
    rw [List.length_map] at hul
    exact ⟨_, m1, small_line (by omega), _, rows2 ++ [_], upd_same, m2, by rw [List.length_append, hrl2]; rfl, m3, (fun R' h => (List.mem_append.mp h).elim (hset2 R') fun z => by rw [List.mem_singleton.mp z]; exact fun e => nomatch e), m4, m5⟩
  rintro H4 ⟨us2, rows2, hD4, hU2, hrl2, hok2, hset2, dk4, X4⟩
  have S4 := S3.step dk4 X4
  have hul := dpAll_len hU
  have hul2 := dpAll_len hU2
  rw [List.length_map] at hul hul2
  refine ⟨D, D2, us, us2, rfl, rfl, X4.at nD.1 nD.2 hD3, hD4, by rw [sizeLine_eq]; omega, fun p9 hp9 => ?_⟩
  have s9 := same_new (o := .lst (us ++ us2)) hp9
  have S9 := S4.same s9
  refine q p9 (us ++ us2) (rows ++ rows2) _ ⟨S9.dk.up (by omega), S9.X, S9.wd, S9.kt⟩ (grow S4.X S4.dk hp9) upd_same ?_ (by rw [List.length_append]; omega) (fun R hR => ?_) ?_
  · rw [List.map_append]
    exact dpAll_app (dpAll_kt ((ext_kt S3.dk X4).trans (KT.of s9)) _ _ (nlRs rows) hU) (dpAll_mono s9 _ _ hU2)
  · rcases List.mem_append.mp hR with z | z
    · exact hok R z
    · exact hok2 R z
  · cases hr2 : rows2 with
    | nil => rw [hr2] at hrl2; have : (0 : Nat) = xf.length := hrl2; omega
    | cons R r => exact ⟨R, List.mem_append.mpr (.inr List.mem_cons_self), hset2 R (by rw [hr2]; exact List.mem_cons_self)⟩
end
end K48

set_option maxHeartbeats 4000000
namespace K48
open PySem PySem.Spec PyProof.Rows L2 HG P52
def spRow (K : PySem.W.Frag) : Sp := fun vs H Q _ => ∃ (d c wd kt : Addr) (n cnt M f : Nat), vs = [.ref d, .ref wd, .ref kt] ∧ n < 2 ^ 47 ∧ S52 K d c wd kt cnt M f n H H ∧
  ∀ (v : V) (R : Rw) (H' : Hp), S52 K d c wd kt cnt M f (n + 40) H H' → Dp K H' v R.D → RwOk (M + f) R → Q v H'
abbrev ops9 : List Str := ["add", "sub", "mul", "div", "rem", "div", "less", "same", "xor"]
theorem ops9_nm : ∀ z ∈ ops9, Nm z := by
  have : ∀ z ∈ ops9, z.length ≤ 12 ∧ ∀ c ∈ cp z, c < 128 := by decide +kernel
  exact fun z hz => ⟨(this z hz).1, (this z hz).2⟩
theorem S52.up {K : PySem.W.Frag} {d c wd kt : Addr} {cnt M f n m : Nat} {H0 H : Hp} (S : S52 K d c wd kt cnt M f n H0 H) (h : n ≤ m) : S52 K d c wd kt cnt M f m H0 H := ⟨S.dk.up h, S.X, S.wd, S.kt⟩
/-- [v, None, v][j] -/
theorem vnv {v j : Nat} {N : Nat} (hv : v < N) (hj : j < 3) : ∃ o : Option Nat, ([V.int (v : Int), V.non, V.int (v : Int)] : List V)[j]? = some (ovV o) ∧ optOk N o := by
  match j, hj with
  | 0, _ => exact ⟨some v, rfl, fun n h => by cases h; exact hv⟩
  | 1, _ => exact ⟨none, rfl, fun n h => by cases h⟩
  | 2, _ => exact ⟨some v, rfl, fun n h => by cases h; exact hv⟩
section
variable {P : Program} {w : World} {K : PySem.W.Frag} {mg : Str → Option Value} {base : Heap}
set_option pp.maxSteps 600 in
theorem c_row (T : Txt w K mg) : Cal P w K mg base "_law_row" 4 ["_law_deck_here", "_law_world_here", "_law_kit"] (spRow K) := by
  obtain ⟨fd, F⟩ := T.d__law_row
  have C__law_draw := c_draw (P := P) (base := base) T
  have C__law_word := c_word (P := P) (base := base) T
  have C__law_pick := c_pick (P := P) (base := base) T
  have C__law_operand := c_operand (P := P) (base := base) T
  have C__law_other_row := c_other (P := P) (base := base) T
  refine ⟨⟨fd, F.ok sc__law_row (fun vs H Q E h => ?_) (fun cdv A outer s H vs Q E hr h => ?_), F.bindsN fun _ _ _ _ _ _ us hl => match us, hl with | [_, _, _], _ => rfl⟩, T.g _ (by decide), F.kp⟩
  · obtain ⟨d, c, wd, kt, n, cnt, M, f, rfl, _⟩ := h
    rfl
  obtain ⟨d, c, wd, kt, n, cnt, M, f, rfl, hn, S, q⟩ := h
  have hu := hu_of hr
  refine ⟨_, PSs.nox (pss_cons (ps_par3 (i := 3) (j := 4) (l := 5) rfl sc__law_row.nd rfl rfl rfl (by decide) (by decide) (by decide) rfl rfl rfl (pa_cons (pe_cal C__law_draw (hr.mono (by omega)) (by rfl) (pa_cons (pv 0) (pa_cons pe_int pa_nil))) (pa_cons (pe_cal C__law_operand (hr.mono (by omega)) (by rfl) (pa_cons (pv 0) (pa_cons (pv 2) pa_nil))) (pa_cons (pe_cal C__law_operand (hr.mono (by omega)) (by rfl) (pa_cons (pv 0) (pa_cons (pv 2) pa_nil))) pa_nil))) (by rfl))
      (pss_cons (ps_par (i := 6) (j := 7) rfl sc__law_row.nd rfl rfl (by decide) rfl rfl (pa_cons (pe_cal C__law_pick (hr.mono (by omega)) (by rfl) (pa_cons (pv 0) (pa_cons (pe_slice (sl_listK (K := K) rfl) (pe_dget hu (pv 2) pe_str (fun _ _ => rfl)) (po_some (pe_dget hu (pv 2) pe_str (fun _ _ => rfl))) po_none) pa_nil))) (pa_cons (pe_cal C__law_pick (hr.mono (by omega)) (by rfl) (pa_cons (pv 0) (pa_cons (pe_dget hu (pv 2) pe_str (fun _ _ => rfl)) pa_nil))) pa_nil)) (by rfl))
      (pss_cons (ps_set (i := 8) sc__law_row.nd rfl (.inl rfl) (pe_tup (pa_cons pe_str (pa_cons (pv 6) (pa_cons (pe_cal C__law_word (hr.mono (by omega)) (by rfl) (pa_cons (pv 0) pa_nil)) pa_nil)))))
      (pss_cons (ps_if (pt_cmpR (op_in_seqK (K := K) rfl) (pv 3) (pe_tup (pa_cons pe_int (pa_cons pe_int pa_nil))) (by rfl)) (pss_one (ps_set (i := 8) sc__law_row.nd rfl (.inl rfl) (pe_tup (pa_cons pe_str (pa_cons (pv 6) (pa_cons (pe_cal C__law_pick (hr.mono (by omega)) (by rfl) (pa_cons (pv 0) (pa_cons (pe_dget hu (pv 2) pe_str (fun _ _ => rfl)) pa_nil))) pa_nil)))))) (pss_one (ps_if (pt_cmpR (op_in_seqK (K := K) rfl) (pv 3) (pe_tup (pa_cons pe_int (pa_cons pe_int (pa_cons pe_int pa_nil)))) (by rfl)) (pss_one (ps_set (i := 8) sc__law_row.nd rfl (.inl rfl) (pe_tup (pa_cons pe_str (pa_cons (pv 6) (pa_cons (pe_cal C__law_pick (hr.mono (by omega)) (by rfl) (pa_cons (pv 0) (pa_cons (pe_lst (pa_cons pe_str (pa_cons pe_str (pa_cons pe_str (pa_cons pe_str (pa_cons pe_str (pa_cons pe_str (pa_cons pe_str (pa_cons pe_str (pa_cons pe_str pa_nil)))))))))) pa_nil))) (pa_cons (pv 4) (pa_cons (pv 5) pa_nil)))))))) (pss_one (ps_if (pt_cmpR (op_in_seqK (K := K) rfl) (pv 3) (pe_tup (pa_cons pe_int (pa_cons pe_int pa_nil))) (by rfl)) (pss_cons (ps_set (i := 8) sc__law_row.nd rfl (.inl rfl) (pe_tup (pa_cons pe_str (pa_cons (pv 6) (pa_cons (pe_cal C__law_pick (hr.mono (by omega)) (by rfl) (pa_cons (pv 0) (pa_cons (pe_dget hu (pv 1) pe_str (fun _ _ => rfl)) pa_nil))) pa_nil)))))
      (pss_one (ps_if (pt_cmpR op_eq (pv 3) pe_int (nomark _)) (pss_one (ps_set (i := 8) sc__law_row.nd rfl (.inl rfl) (pe_tup (pa_cons pe_str (pa_cons (pv 6) (pa_cons (pe_ix (ix_P (K := K) rfl) (pe_cal C__law_pick (hr.mono (by omega)) (by rfl) (pa_cons (pv 0) (pa_cons (pe_dget hu (pv 1) pe_str (fun _ _ => rfl)) pa_nil))) pe_int (fun _ _ => rfl)) (pa_cons (pv 4) pa_nil))))))) pss_nil))) (pss_one (ps_if (pt_cmpR (op_in_seqK (K := K) rfl) (pv 3) (pe_tup (pa_cons pe_int (pa_cons pe_int pa_nil))) (by rfl)) (pss_cons (ps_asg (pe_cal C__law_pick (hr.mono (by omega)) (by rfl) (pa_cons (pv 0) (pa_cons (pe_dget hu (pv 1) pe_str (fun _ _ => rfl)) pa_nil))) (pg_tupK (K := K) (n := 2) rfl rfl (pgs_cons (pg_name (i := 9) sc__law_row.nd rfl (.inl rfl)) (pgs_cons (pg_name (i := 10) sc__law_row.nd rfl (.inl rfl)) pgs_nil))))
      (pss_one (ps_set (i := 8) sc__law_row.nd rfl (.inl rfl) (pe_tup (pa_cons pe_str (pa_cons (pe_ix (ix_listK (K := K) rfl) (pe_lst (pa_cons (pv 6) (pa_cons pe_non (pa_cons (pv 6) pa_nil)))) (pe_cal C__law_draw (hr.mono (by omega)) (by rfl) (pa_cons (pv 0) (pa_cons pe_int pa_nil))) (fun _ _ => rfl)) (pa_cons (pv 9) (pa_cons (pe_slice (sl_P (K := K) rfl) (pe_tup (pa_cons (pv 4) (pa_cons (pv 5) pa_nil))) po_none (po_some (pv 10))) pa_nil)))))))) (pss_one (ps_if (pt_cmpR op_eq (pv 3) pe_int (nomark _)) (pss_one (ps_set (i := 8) sc__law_row.nd rfl (.inl rfl) (pe_tup (pa_cons pe_str (pa_cons (pe_ix (ix_listK (K := K) rfl) (pe_lst (pa_cons (pv 6) (pa_cons pe_non (pa_cons (pv 6) pa_nil)))) (pe_cal C__law_draw (hr.mono (by omega)) (by rfl) (pa_cons (pv 0) (pa_cons pe_int pa_nil))) (fun _ _ => rfl)) (pa_cons (pv 7) (pa_cons (pe_tup (pa_cons (pv 4) pa_nil)) pa_nil))))))) (pss_one (ps_if (pt_cmpR op_gt (pv 3) pe_int (nomark _)) (pss_one (ps_set (i := 8) sc__law_row.nd rfl (.inl rfl) (pe_cal C__law_other_row (hr.mono (by omega)) (by rfl) (pa_cons (pv 0) (pa_cons (pv 1) (pa_cons (pv 2) (pa_cons (pv 4) (pa_cons (pv 5) pa_nil)))))))) pss_nil)))))))))))
      (pss_one (ps_ret (pv 8))))))), ?_⟩
  refine ⟨.ref d, rfl, d, c, _, 15, rfl, by decide, by decide, by omega, S.dk, fun r1 H1 r10 r11 dk1 X1 => ?_⟩
  obtain ⟨way, rfl⟩ := Int.eq_ofNat_of_zero_le r10
  have S1 := S.step dk1 X1
  refine ⟨.ref d, rfl, .ref kt, rfl, d, c, kt, _, cnt, M, f, rfl, by omega, dk1, S1.kt, fun v1 a1 H2 dk2 X2 g1 o1 => ?_⟩
  have S2 := S1.step dk2 X2
  refine ⟨.ref d, rfl, .ref kt, rfl, d, c, kt, _, cnt, M, f, rfl, by omega, dk2, S2.kt, fun v2 a2 H3 dk3 X3 g2 o2 => ?_⟩
  have S3 := S2.step dk3 X3
  have g1 := dp_kt (ext_kt dk2 X3) _ _ (nlO a1) g1
  have u1 := opd_up o1 (show M ≤ M + f by omega)
  have u2 := opd_up o2 (show M ≤ M + f by omega)
  refine ⟨_, _, _, rfl, ?_⟩
  -- v, f
  obtain ⟨pw, xw, dgw, sqw, low, hiw, pkw, exw⟩ := S3.words
  have dgc := S3.count
  have hM8 := S3.kt.M8
  have hlt := S3.kt.lt
  have hxl : xw.length = M := by rw [exw, List.length_map, List.length_range]
  refine ⟨.ref d, rfl, .ref kt, rfl, kt, _, rfl, dgw, .ref kt, rfl, kt, _, rfl, dgc, _, rfl, pw, xw, rfl, offL sqw, fun p4 hp4 => ?_⟩
  have hcl : (cutV xw (some (cnt : Int)) none).length = M - cnt := by
    unfold cutV
    rw [HT.sIx_nat, show HT.sIx xw.length xw.length none = xw.length from rfl, List.length_take, List.length_drop]
    omega
  have n4 := S3.dk.has hp4
  have s4 := same_new (o := .lst (cutV xw (some (cnt : Int)) none)) hp4
  have S4 := S3.same s4
  have e44 : (upd H3 p4 (.lst (cutV xw (some (cnt : Int)) none))) p4 = some (.lst (cutV xw (some (cnt : Int)) none)) := upd_same
  generalize upd H3 p4 (.lst (cutV xw (some (cnt : Int)) none)) = H4 at s4 S4 e44 ⊢
  refine ⟨d, c, p4, _, _, rfl, S4.dk, by omega, .inl (.inl (by rw [off_get n4.1 n4.2]; exact e44)), by omega, by omega, fun j5 y5 H5 hy5 dk5 X5 => ?_⟩
  obtain ⟨i5, hi5⟩ := List.getElem?_of_mem (cutV_sub (List.mem_of_getElem? hy5))
  obtain ⟨v, hv, rfl⟩ := pkw i5 y5 hi5
  have S5 := S4.step dk5 X5
  obtain ⟨pf, xf, dgf, sqf, lof, hif, pkf, hf2⟩ := S5.funcs
  refine ⟨.ref d, rfl, .ref kt, rfl, kt, _, rfl, dgf, d, c, pf, _, xf, rfl, S5.dk, by omega, sqf, lof, hif, fun j6 y6 H6 hy6 dk6 X6 => ?_⟩
  obtain ⟨jf, hjf, rfl⟩ := pkf j6 y6 hy6
  have S6 := S5.step dk6 X6
  refine ⟨_, _, rfl, ?_⟩
  have k36 : KT H3 H6 := ((KT.of s4).trans (ext_kt S4.dk X5)).trans (ext_kt S5.dk X6)
  have g1 := dp_kt k36 _ _ (nlO a1) g1
  have g2 := dp_kt k36 _ _ (nlO a2) g2
  have hvN : v < M + f := by omega
  -- row = ('const', ..)
  refine ⟨_, rfl, .ref d, rfl, d, c, _, rfl, by omega, S6.dk, fun wv H7 w0 w1 dk7 X7 => ⟨(by show 3 ≤ sizeLine; decide), fun p8 hp8 => ?_⟩⟩
  have S7 := S6.step dk7 X7
  have s8 := same_new (o := .tup [.str "const", .int (v : Int), .int wv]) hp8
  have S8 := S7.same s8
  have k68 : KT H6 (upd H7 p8 (.tup [.str "const", .int (v : Int), .int wv])) := (ext_kt S6.dk X7).trans (KT.of s8)
  have g1 := dp_kt k68 _ _ (nlO a1) g1
  have g2 := dp_kt k68 _ _ (nlO a2) g2
  have gc : Dp K (upd H7 p8 (.tup [.str "const", .int (v : Int), .int wv])) (.ref p8) (Rw.cw v wv).D := dp_tupN hp8 (.cons (.str _) (.cons (.int _) (.cons (.int _) .nil)))
  generalize upd H7 p8 (.tup [.str "const", .int (v : Int), .int wv]) = H8 at S8 k68 g1 g2 gc ⊢
  -- the end
  have fin : ∀ (z : V) (R : Rw) (H9 : Hp) (m : Nat), S52 K d c wd kt cnt M f m H H9 → m ≤ n + 40 → Dp K H9 z R.D → RwOk (M + f) R → Q z H9 := fun z R H9 m S9 hm hz hR => q z R H9 (S9.up hm) hz hR
  -- way in (1, 2)
  refine ⟨_, rfl, (by show 2 ≤ sizeLine; decide), fun p9 hp9 => ⟨_, _, rfl, .inr (.inl (.inl upd_same)), rfl, rfl, _, rfl, ?_⟩⟩
  have s9 := same_new (o := .tup [.int 1, .int 2]) hp9
  have S9 := S8.same s9
  have g1 := dp_mono s9 _ _ g1
  have g2 := dp_mono s9 _ _ g2
  have gc := dp_mono s9 _ _ gc
  generalize upd H8 p9 (.tup [.int 1, .int 2]) = H9 at s9 S9 g1 g2 gc ⊢
  show if inV (.int (way : Int)) [.int 1, .int 2] = true then _ else _
  cases hb1 : inV (.int (way : Int)) [.int 1, .int 2] with
  | true =>
    obtain ⟨pa, xs, dg, sq, lo, hi, pk, _⟩ := S9.words
    refine iteT ⟨_, rfl, .ref d, rfl, .ref kt, rfl, kt, _, rfl, dg, d, c, pa, _, xs, rfl, S9.dk, by omega, sq, lo, hi, fun j y H10 hy dk10 X10 => ?_⟩
    obtain ⟨i, hi2, rfl⟩ := pk j y hy
    have S10 := S9.step dk10 X10
    refine ⟨(by show 3 ≤ sizeLine; decide), fun p hp => ⟨_, rfl, fin _ (.cp v i) _ _ (S10.new hp) (by omega) (dp_tupN hp (.cons (.str _) (.cons (.int _) (.cons (.int _) .nil)))) ⟨hvN, by omega⟩⟩⟩
  | false =>
    refine iteF ⟨_, rfl, (by show 3 ≤ sizeLine; decide), fun p10 hp10 => ⟨_, _, rfl, .inr (.inl (.inl upd_same)), rfl, rfl, _, rfl, ?_⟩⟩
    have s10 := same_new (o := .tup [.int 3, .int 4, .int 5]) hp10
    have S10 := S9.same s10
    have g1 := dp_mono s10 _ _ g1
    have g2 := dp_mono s10 _ _ g2
    have gc := dp_mono s10 _ _ gc
    generalize upd H9 p10 (.tup [.int 3, .int 4, .int 5]) = H10 at s10 S10 g1 g2 gc ⊢
    show if inV (.int (way : Int)) [.int 3, .int 4, .int 5] = true then _ else _
    cases hb2 : inV (.int (way : Int)) [.int 3, .int 4, .int 5] with
    | true =>
      refine iteT ⟨_, rfl, .ref d, rfl, (by show 9 ≤ sizeLine; decide), fun p11 hp11 => ?_⟩
      have n11 := S10.dk.has hp11
      have s11 := same_new (o := .lst (ops9.map V.str)) hp11
      have S11 := S10.same s11
      refine ⟨d, c, p11, _, ops9.map V.str, rfl, S11.dk, by omega, .inl (.inl (by rw [off_get n11.1 n11.2]; exact upd_same)), (by decide), (by decide), fun j y H12 hy dk12 X12 => ?_⟩
      rw [List.getElem?_map] at hy
      obtain ⟨z, hz, rfl⟩ := Option.map_eq_some_iff.mp hy
      have hzn := ops9_nm z (List.mem_of_getElem? hz)
      have S12 := S11.step dk12 X12
      have k12 := (KT.of s11).trans (ext_kt S11.dk X12)
      refine ⟨v1, rfl, v2, rfl, (by show 5 ≤ sizeLine; decide), fun p hp => ⟨_, rfl, fin _ (.op v z a1 a2) _ _ (S12.new hp) (by omega) (dp_tupN hp (.cons (.str _) (.cons (.int _) (.cons (.str _) (.cons (dp_kt k12 _ _ (nlO a1) g1) (.cons (dp_kt k12 _ _ (nlO a2) g2) .nil)))))) ⟨hvN, hzn, u1, u2⟩⟩⟩
    | false =>
      refine iteF ⟨_, rfl, (by show 2 ≤ sizeLine; decide), fun p11 hp11 => ⟨_, _, rfl, .inr (.inl (.inl upd_same)), rfl, rfl, _, rfl, ?_⟩⟩
      have s11 := same_new (o := .tup [.int 6, .int 7]) hp11
      have S11 := S10.same s11
      have g1 := dp_mono s11 _ _ g1
      have g2 := dp_mono s11 _ _ g2
      have gc := dp_mono s11 _ _ gc
      generalize upd H10 p11 (.tup [.int 6, .int 7]) = H11 at s11 S11 g1 g2 gc ⊢
      show if inV (.int (way : Int)) [.int 6, .int 7] = true then _ else _
      cases hb3 : inV (.int (way : Int)) [.int 6, .int 7] with
      | true =>
        obtain ⟨pa, xs, dg, sq, lo, hi, pk⟩ := S11.cells
        refine iteT ⟨_, rfl, .ref d, rfl, .ref wd, rfl, wd, _, rfl, dg, d, c, pa, _, xs, rfl, S11.dk, by omega, sq, lo, hi, fun j y H12 hy dk12 X12 => ?_⟩
        obtain ⟨z, hz, rfl⟩ := pk j y hy
        have S12 := S11.step dk12 X12
        refine ⟨(by show 3 ≤ sizeLine; decide), fun p13 hp13 => ?_⟩
        have s13 := same_new (o := .tup [.str "load", .int (v : Int), .str z]) hp13
        have S13 := S12.same s13
        have k13 := (ext_kt S11.dk X12).trans (KT.of s13)
        have g1 := dp_kt k13 _ _ (nlO a1) g1
        have gl : Dp K (upd H12 p13 (.tup [.str "load", .int (v : Int), .str z])) (.ref p13) (Rw.ld v z).D := dp_tupN hp13 (.cons (.str _) (.cons (.int _) (.cons (.str _) .nil)))
        generalize upd H12 p13 (.tup [.str "load", .int (v : Int), .str z]) = H13 at s13 S13 g1 gl ⊢
        refine ⟨_, rfl, rfl, _, rfl, ?_⟩
        cases hb4 : decide (V.int (way : Int) = V.int 7) with
        | false => exact iteF ⟨_, rfl, fin _ (.ld v z) _ _ S13 (by omega) gl ⟨hvN, hz⟩⟩
        | true =>
          obtain ⟨pa2, xs2, dg2, sq2, lo2, hi2, pk2⟩ := S13.arrays
          refine iteT ⟨_, rfl, .ref d, rfl, .ref wd, rfl, wd, _, rfl, dg2, d, c, pa2, _, xs2, rfl, S13.dk, by omega, sq2, lo2, hi2, fun j y H14 hy dk14 X14 => ?_⟩
          obtain ⟨pA, hpA, gA⟩ := pk2 j y hy
          have gA := dp_mono (ext_all X14) _ _ gA
          have S14 := S13.step dk14 X14
          refine ⟨_, 0, _, gA, rfl, rfl, fun z hz => ?_⟩
          cases hz
          refine ⟨v1, rfl, (by show 4 ≤ sizeLine; decide), fun p hp => ⟨_, rfl, fin _ (.rd v pA.1 a1) _ _ (S14.new hp) (by omega) (dp_tupN hp (.cons (.str _) (.cons (.int _) (.cons (.str _) (.cons (dp_kt (ext_kt S13.dk X14) _ _ (nlO a1) g1) .nil))))) ⟨hvN, hpA, u1⟩⟩⟩
      | false =>
        refine iteF ⟨_, rfl, (by show 2 ≤ sizeLine; decide), fun p12 hp12 => ⟨_, _, rfl, .inr (.inl (.inl upd_same)), rfl, rfl, _, rfl, ?_⟩⟩
        have s12 := same_new (o := .tup [.int 8, .int 9]) hp12
        have S12 := S11.same s12
        have g1 := dp_mono s12 _ _ g1
        have g2 := dp_mono s12 _ _ g2
        have gc := dp_mono s12 _ _ gc
        generalize upd H11 p12 (.tup [.int 8, .int 9]) = H12 at s12 S12 g1 g2 gc ⊢
        show if inV (.int (way : Int)) [.int 8, .int 9] = true then _ else _
        cases hb4 : inV (.int (way : Int)) [.int 8, .int 9] with
        | true =>
          obtain ⟨pca, xca, dgca, sqca, loc, hic, pkca, lca⟩ := S12.calls
          refine iteT ⟨.ref d, rfl, .ref wd, rfl, wd, _, rfl, dgca, d, c, pca, _, xca, rfl, S12.dk, by omega, sqca, loc, hic, fun j y H13 hy dk13 X13 => ?_⟩
          obtain ⟨pC, hpC, hp2, gC⟩ := pkca y (List.mem_of_getElem? hy)
          have gC := dp_mono (ext_all X13) _ _ gC
          have S13 := S12.step dk13 X13
          have g1 := dp_kt (ext_kt S12.dk X13) _ _ (nlO a1) g1
          have g2 := dp_kt (ext_kt S12.dk X13) _ _ (nlO a2) g2
          cases gC with
          | @tup ac xc _ sqc hac =>
            cases hac with
            | cons x0 r0 =>
              cases r0 with
              | cons x1 r1 =>
                cases r1
                cases x0
                cases x1
                refine ⟨ac, _, rfl, sqc, rfl, _, _, rfl, _, _, rfl, rfl, ?_⟩
                refine ⟨_, rfl, _, rfl, (by show 3 ≤ sizeLine; decide), fun p14 hp14 => ?_⟩
                have n14 := S13.dk.has hp14
                have s14 := same_new (o := .lst [.int (v : Int), .non, .int (v : Int)]) hp14
                have S14 := S13.same s14
                have e14 : (upd H13 p14 (.lst [.int (v : Int), .non, .int (v : Int)])) p14 = some (.lst [.int (v : Int), .non, .int (v : Int)]) := upd_same
                refine ⟨.ref d, rfl, d, c, _, 3, rfl, by decide, by decide, by omega, S14.dk, fun r15 H15 r0 r1 dk15 X15 => ?_⟩
                obtain ⟨j15, rfl⟩ := Int.eq_ofNat_of_zero_le r0
                obtain ⟨o, ho, hok⟩ := vnv (v := v) (j := j15) hvN (by omega)
                have S15 := S14.step dk15 X15
                have k15 := (KT.of s14).trans (ext_kt S14.dk X15)
                have g1 := dp_kt k15 _ _ (nlO a1) g1
                have g2 := dp_kt k15 _ _ (nlO a2) g2
                refine ⟨p14, _, _, _, rfl, rfl, .inl (.inl (X15.at n14.1 n14.2 e14)), atI_nat ho, _, rfl, v1, rfl, v2, rfl, (by show 2 ≤ sizeLine; decide), fun p16 hp16 => ?_⟩
                have s16 := same_new (o := .tup [v1, v2]) hp16
                have S16 := S15.same s16
                refine ⟨_, rfl, (pC.2 : Int), rfl, [oD a1, oD a2], dp_tupN hp16 (.cons g1 (.cons g2 .nil)), fun z17 H17 s17 h17 => ⟨(by show 4 ≤ sizeLine; decide), fun p hp => ?_⟩⟩
                rw [cutP_to] at h17
                have em : [oD a1, oD a2].take pC.2 = (([a1, a2] : List Opd).take pC.2).map oD := by rw [List.map_take]; rfl
                rw [em] at h17
                refine ⟨_, rfl, fin _ (.ca o pC.1 (([a1, a2] : List Opd).take pC.2)) _ _ ((S16.same s17).new hp) (by omega) (dp_tupN hp (.cons (.str _) (.cons (ov_dp o) (.cons (.str _) (.cons h17 .nil))))) ⟨hok, hpC, ?_, fun a ha => ?_⟩⟩
                · rw [List.length_take]
                  show min pC.2 2 ≤ 2
                  omega
                · have := List.mem_of_mem_take ha
                  simp only [List.mem_cons, List.not_mem_nil, or_false] at this
                  rcases this with rfl | rfl
                  · exact u1
                  · exact u2
        | false =>
          refine iteF ⟨_, rfl, rfl, _, rfl, ?_⟩
          cases hb5 : decide (V.int (way : Int) = V.int 10) with
          | true =>
            refine iteT ⟨_, rfl, _, rfl, (by show 3 ≤ sizeLine; decide), fun p14 hp14 => ?_⟩
            have n14 := S12.dk.has hp14
            have s14 := same_new (o := .lst [.int (v : Int), .non, .int (v : Int)]) hp14
            have S14 := S12.same s14
            have e14 : (upd H12 p14 (.lst [.int (v : Int), .non, .int (v : Int)])) p14 = some (.lst [.int (v : Int), .non, .int (v : Int)]) := upd_same
            refine ⟨.ref d, rfl, d, c, _, 3, rfl, by decide, by decide, by omega, S14.dk, fun r15 H15 r0 r1 dk15 X15 => ?_⟩
            obtain ⟨j15, rfl⟩ := Int.eq_ofNat_of_zero_le r0
            obtain ⟨o, ho, hok⟩ := vnv (v := v) (j := j15) hvN (by omega)
            have S15 := S14.step dk15 X15
            have k15 := (KT.of s14).trans (ext_kt S14.dk X15)
            have g1 := dp_kt k15 _ _ (nlO a1) g1
            refine ⟨p14, _, _, _, rfl, rfl, .inl (.inl (X15.at n14.1 n14.2 e14)), atI_nat ho, _, rfl, v1, rfl, (by show 1 ≤ sizeLine; decide), fun p16 hp16 => ⟨(by show 4 ≤ sizeLine; decide), fun p hp => ?_⟩⟩
            have s16 := same_new (o := .tup [v1]) hp16
            have S16 := S15.same s16
            refine ⟨_, rfl, fin _ (.ap o jf [a1]) _ _ (S16.new hp) (by omega) (dp_tupN hp (.cons (.str _) (.cons (ov_dp o) (.cons (.int _) (.cons (dp_tupN hp16 (.cons g1 .nil)) .nil))))) ⟨hok, hjf, by show 1 ≤ 2; decide, fun a ha => by rw [List.mem_singleton.mp ha]; exact u1⟩⟩
          | false =>
            refine iteF ⟨_, rfl, _, _, rfl, rfl, _, rfl, ?_⟩
            show if decide ((10 : Int) < (way : Int)) = true then _ else _
            cases hb6 : decide ((10 : Int) < (way : Int)) with
            | true =>
              refine iteT ⟨.ref d, rfl, .ref wd, rfl, .ref kt, rfl, v1, rfl, v2, rfl, d, c, wd, kt, _, cnt, M, f, v1, v2, a1, a2, rfl, by omega, ⟨S12.dk, Ext.refl _, S12.wd, S12.kt⟩, g1, g2, o1, o2, fun z R H13 S13 hz hR => ?_⟩
              exact ⟨_, rfl, fin z R H13 _ ⟨S13.dk, S12.X.trans S13.X, S13.wd, S13.kt⟩ (by omega) hz hR⟩
            | false => exact iteF ⟨_, rfl, fin _ (.cw v wv) _ _ S12 (by omega) gc ⟨hvN, w0, w1⟩⟩
end
end K48

set_option maxHeartbeats 4000000
/-! HM: for k, x in enumerate(tuple). -/
namespace HG
open PySem PySem.Spec PyProof.Rows L2
theorem meets_enumerate_newT (t : Addr) (items : Array Value) (n : Nat) (dct : Option Addr) (sl : Array (Option Value)) :
    Meets (Builtin.«enumerate.__new__» ⟨[.type "enumerate", .ref t], []⟩) (fun _ R s => s.heap.get? t = some { cls := .type "tuple", dict := dct, data := .seq items n, slots := sl } ∧
      R (.ok (.ret (.ref (s.heap.push { cls := .type "tuple_iterator", data := .fields #[.ref t, .int 0 0] }).objs.size)))
        { s with heap := (s.heap.push { cls := .type "tuple_iterator", data := .fields #[.ref t, .int 0 0] }).push { cls := .type "enumerate", data := .fields #[.none, .bool false, .ref s.heap.objs.size, rawInt 0, .none, .none] } }) :=
  .of_wp fun prog w A R s h => by
    obtain ⟨hp, g, d, tk, os⟩ := s; obtain ⟨hl, h⟩ := h
    have hsub := sub_enumerate
    have hT : Heap.IsTuple (Shared.heap ⟨hp, g, d, tk, os⟩) t items := ⟨_, hl, rfl, n, rfl⟩
    have q1 : ∀ {A' : Around} {E : Value → Shared → Prop} {Q : Value → Shared → Prop}, Q (.ref hp.objs.size) ⟨hp.push { cls := .type "tuple_iterator", data := .fields #[.ref t, .int 0 0] }, g, d, tk, os⟩ → wpAny (model prog w) A' (pyIter (.ref t)) Q E ⟨hp, g, d, tk, os⟩ :=
      fun q => wpAny_pyIter_tuple hT q
    wp_walk using q1
    refine wpAny_stack_any fun st => wpAny_pure ?_
    split
    · rename_i c _ _ _ _ _
      cases (c == Value.type "enumerate")
      · wp_walk using q1
        exact ⟨_, rfl, h⟩
      · wp_walk using q1
        exact ⟨_, rfl, h⟩
    · wp_walk using q1
      exact ⟨_, rfl, h⟩
theorem call_enumerate_tup {prog : Program} {w : World} {A : Around} {E : Value → Shared → Prop} {s : Shared} {l : Addr} {items : Array Value} {Q : Value → Shared → Prop} (hL : s.heap.IsTuple l items)
    (h : ∀ h', IsEnum h' (s.heap.objs.size + 1) s.heap.objs.size 0 .none → h'.IsTupleIter s.heap.objs.size l 0 → h'.objs.size = s.heap.objs.size + 2 →
      (∀ b o, s.heap.get? b = some o → h'.get? b = some o) → Q (.ref (s.heap.objs.size + 1)) { s with heap := h' }) :
    wpAny (model prog w) A (call (.type "enumerate") [.ref l]) Q E s := by
  obtain ⟨⟨c, dct, dt, sl⟩, hl, hc, n, hd⟩ := hL
  replace hc : c = .type "tuple" := hc
  replace hd : dt = .seq items n := hd
  subst hc hd
  refine callType_new F.called_enumerate (by decide) (F.typeCall_enumerate_1 _) (F.newCall_enumerate_1 _) (fun obj => F.args_object_init_2 obj _) F.entry_enumerate_new
    (meets_enumerate_newT l items n dct sl) ⟨hl, ?_⟩
  have hz : (s.heap.push { cls := .type "tuple_iterator", data := .fields #[.ref l, .int 0 0] }).objs.size = s.heap.objs.size + 1 := Heap.size_push ..
  show _ ∧ _
  rw [hz]
  have he : IsEnum ((s.heap.push { cls := .type "tuple_iterator", data := .fields #[.ref l, .int 0 0] }).push
      { cls := .type "enumerate", data := .fields #[.none, .bool false, .ref s.heap.objs.size, rawInt 0, .none, .none] }) (s.heap.objs.size + 1) s.heap.objs.size 0 .none := by
    have := Heap.get?_push_size (s.heap.push { cls := .type "tuple_iterator", data := .fields #[.ref l, .int 0 0] })
      (o := { cls := .type "enumerate", data := .fields #[.none, .bool false, .ref s.heap.objs.size, rawInt 0, .none, .none] }) rfl
    rw [hz] at this; exact this
  refine ⟨⟨_, he, rfl⟩, h _ he ⟨_, Heap.get?_push_of_some _ (Heap.get?_push_size _ rfl), rfl, rfl⟩ (by rw [Heap.size_push, hz]) fun b o x => Heap.get?_push_of_some _ (Heap.get?_push_of_some _ x)⟩
def IteT (K : PySem.W.Frag) (a : Addr) : It :=
  ⟨fun i H => ∃ (xs : List V) (x : V), SqT K H a xs ∧ xs[i]? = some x, fun i H v H' => ∃ T x, v = .ref T ∧ H T = none ∧ H' = upd H T (.tup [.int (i : Nat), x]) ∧ ∀ xs, SqT K H a xs → xs[i]? = some x, fun i H => ∃ xs : List V, SqT K H a xs ∧ xs.length ≤ i⟩
theorem turn_enumT {P : Program} {w : World} {K : PySem.W.Frag} {elts : List Expr} {kk : Nat} {tpos : Pos} (a e it : Addr) :
    Turn P w K (.Tuple elts kk tpos) (IteT K a) [e, it] e (fun i h => (∃ old, IsEnum h e it ((i : Nat) : Int) old) ∧ h.IsTupleIter it a i ∧ e ≠ it) where
  mem := by simp
  obj := fun i h st b hb => by
    obtain ⟨⟨old, he⟩, ⟨o, ho, hc, hd⟩, _⟩ := st
    have e' : b = e ∨ b = it := by simpa using hb
    rcases e' with z | z
    · rw [z]; exact ⟨_, he, fun v q => nomatch q⟩
    · rw [z]; exact ⟨o, ho, fun v q => by rw [hd] at q; cases q⟩
  keep := fun i h h' st k => let ⟨⟨old, he⟩, hi, hne⟩ := st; ⟨⟨old, k e (by simp) _ he⟩, hi.at fun o q => k it (by simp) o q, hne⟩
  item := by
    intro X hP hw hK hc i pins s σ H E I hf st hg
    subst hP hw hK
    obtain ⟨⟨old, he⟩, hit, hne⟩ := st
    obtain ⟨xs, x, hq, hx⟩ := hg
    obtain ⟨its, rv, p, hz⟩ := I.tuple hq
    obtain ⟨u, hu, ru⟩ := rv.get hx
    have hel : e < s.heap.objs.size := Heap.lt_size he
    have hil : it < s.heap.objs.size := by obtain ⟨_, q, _⟩ := hit; exact Heap.lt_size q
    have hai : a ≠ it := fun z => by
      obtain ⟨o, q, c1, _⟩ := hit
      obtain ⟨o2, q2, c2, _⟩ := p
      rw [z] at q2
      rw [q] at q2
      cases q2
      rw [c1] at c2
      exact absurd c2 (by decide)
    have hae : a ≠ e := fun z => by
      obtain ⟨o2, q2, c2, _⟩ := p
      rw [z] at q2
      have he' : s.heap.get? e = some _ := he
      rw [he'] at q2
      cases q2
      exact absurd (show Value.type "enumerate" = Value.type "tuple" from c2) (by decide)
    have hlt : i < its.toArray.size := by
      have := (List.getElem?_eq_some_iff.mp hu).1
      simpa using this
    refine wpAny_pyNext_enum_itemD (Draws.tuple (A := X.A.in1) (I.ok.hd hc) it a hai its.toArray) he ⟨hit, p⟩ hlt hne (by simp; exact ⟨hne, fun z => hae z.symm⟩) fun u' h' tk hu' ho hst hT hsz hk => ?_
    obtain ⟨hit', _⟩ := hst
    have eu : u' = u := by
      have h1 : its.toArray[i]? = some u' := hu'
      have h2 : its.toArray[i]? = some u := by simpa using hu
      rw [h2] at h1
      cases h1
      rfl
    subst eu
    refine ⟨_, rfl, wpAny_letOwnedTupleGo_enum (s := { s with heap := h', toks := tk + 1 }) ho fun h'' he' sb => ?_⟩
    have hT2 : h''.get? s.heap.objs.size = some { cls := .type "tuple", data := .seq #[.int i tk, u'] } := (sb.2 _ (Nat.ne_of_gt hel)).trans hT
    have new : ObjOk X.prog X.w (upd H s.heap.objs.size (.tup [.int (i : Nat), x])) h'' s.heap.objs.size (.tup [.int (i : Nat), x]) :=
      ⟨by show 2 ≤ sizeLine; decide, [.int i tk, u'], .cons ⟨_, rfl⟩ (.cons ru .nil), ⟨_, hT2, rfl, _, rfl⟩⟩
    have I1 : Inv X pins σ (upd H s.heap.objs.size (.tup [.int (i : Nat), x])) { s with heap := h'', toks := tk + 1 } :=
      I.turnedNew (ch := [e, it]) (fun b ob hb q => (sb.2 b (fun z => hb (by simp [z]))).trans (hk b ob (fun z => hb (by simp [z])) (fun z => hb (by simp [z])) q)) hf (Nat.le_refl _) new
    refine ⟨.ref s.heap.objs.size, _, I1, rfl, ⟨_, x, rfl, I.hok.fresh (Nat.le_refl _), rfl, fun ys hy => by rw [I.tuple_inj hy hq]; exact hx⟩, ⟨⟨u', ?_⟩, hit'.at fun o q => (sb.2 it (Ne.symm hne)).trans q, hne⟩, fun b hb => ?_⟩
    · have e1 : ((i + 1 : Nat) : Int) = (i : Int) + 1 := by omega
      rw [e1]; exact he'
    · have hb' : b < s.heap.objs.size := by
        have e' : b = e ∨ b = it := by simpa using hb
        rcases e' with z | z
        · rw [z]; exact hel
        · rw [z]; exact hil
      rw [upd_ne (Nat.ne_of_lt hb')]
      exact (hf b hb).1
  done := by
    intro X hP hw hK hc i pins s σ H E I hf st hg
    subst hP hw hK
    obtain ⟨⟨old, he⟩, hit, hne⟩ := st
    obtain ⟨xs, hq, hx⟩ := hg
    obtain ⟨its, rv, p, hz⟩ := I.tuple hq
    obtain ⟨f0, f1, f2, f3, f4, f5⟩ := hf it (by simp)
    have hl := rv.length
    have hT : s.TypeIs (.ref e) "enumerate" := ⟨_, he, rfl⟩
    unfold pyNext
    refine wpAny_bind (wpAny_attempt (wpAny_callSpecial?_slot (name := Str.ofString "__next__") hT F.slot_enumerate_next
      (wpAny_call_entry F.slot_enumerate_next hT F.entry_enumerate_next ?_ (F.args_enumerate_next_1 _))))
    show wpAny _ _ (field (.ref e) 2 >>= _) _ _ _
    refine wpAny_bind (wpAny_field he rfl (x := .ref it) rfl ?_)
    refine wpAny_bind (wpAny_nextOf_tuple_end (I.ok.hd hc) hit p (by simp; omega) fun h' x he' hx' => ?_)
    obtain ⟨o, ho, hc⟩ := hx'
    refine wpAny_bind (wpAny_isInstance (T := "StopIteration") (b := true) ⟨o, ho, hc⟩ isSubtype_stop ?_)
    exact wpAny_pure ⟨rfl, I.turned (t' := s.toks) (fun b o hb q => he' b o hb q) f0 f1 f3 f4 f5⟩
  self := fun A i s Q E st h => let ⟨⟨_, he⟩, _⟩ := st; wpAny_pyIter_enum he h
def iEnumT (K : PySem.W.Frag) (ta : TA) : TI := fun σ H R => ta σ H fun vs H1 => ∃ a xs, vs = [.ref a] ∧ SqT K H1 a xs ∧ R (IteT K a) H1
theorem pi_enumT {X : Cx} {e : Expr} {ta : TA} {p pos tpos : Pos} {elts : List Expr} {kk : Nat} (hg : Gl X "enumerate") (hm : X.mg "enumerate" = none) (ha : PA X [e] ta) (hs : starEach [e] X.env = [(false, eval e X.env)] := by rfl) :
    PI X (.Tuple elts kk tpos) (.Call (.Name "enumerate" p) [e] [] pos) (iEnumT X.K ta) := by
  refine ⟨fun pins s σ H R I h => ?_⟩
  refine Call_ (ld_blt I hg hm boot_enumerate (PyProof.Rows.callWith_type1 (thn (ha.run pos pins s σ H _ I h) fun us s1 ⟨vs, H1, I1, r1, q1⟩ => ?_) hs rfl))
  obtain ⟨a, xs, ex, hq, q⟩ := q1
  subst ex
  cases r1 with
  | cons r rr =>
    cases rr
    cases r
    obtain ⟨its, rv, p', hz⟩ := I1.tuple hq
    refine call_enumerate_tup p' fun h' he hit hsz hk => wpAny_pyIter_enum he ?_
    have I2 : Inv X pins σ H1 { s1 with heap := h' } := I1.kept (t' := s1.toks) hk
    refine ⟨s1.heap.objs.size + 1, [s1.heap.objs.size + 1, s1.heap.objs.size], _, _, H1, rfl, I2, turn_enumT a (s1.heap.objs.size + 1) s1.heap.objs.size, ⟨⟨.none, he⟩, hit, Nat.succ_ne_self _⟩, fun b hb => ?_, q⟩
    have e' : b = s1.heap.objs.size + 1 ∨ b = s1.heap.objs.size := by simpa using hb
    have hle : s1.heap.objs.size ≤ b := by
      rcases e' with z | z
      · rw [z]; exact Nat.le_add_right _ _
      · rw [z]; exact Nat.le_refl _
    exact I1.fpOk hle (I1.hok.fresh hle)
theorem walk_enumT {K : PySem.W.Frag} {a : Addr} {xs : List V} : Walk (IteT K a) xs.length (fun H => SqT K H a xs) (YPair (fun i => some (.int (i : Nat))) (fun i => xs[i]?)) := by
  refine ⟨fun i _ hi q => ⟨xs, xs[i], q, by simp [hi]⟩, fun _ q => ⟨xs, q, Nat.le_refl _⟩, fun i H v H' _ q y => ?_⟩
  obtain ⟨T, x, h1, h2, h3, h4⟩ := y
  exact ⟨T, .int (i : Nat), x, h1, h2, h3, rfl, h4 xs q⟩
theorem walk_zipT {K : PySem.W.Frag} {a b : Addr} {xs ys : List V} {n : Nat} (hn : n = min xs.length ys.length) : Walk (RZ.ItzT K a b) n (fun H => SqT K H a xs ∧ SqT K H b ys) (YPair (fun i => xs[i]?) (fun i => ys[i]?)) := by
  subst hn
  refine ⟨fun i _ hi q => ?_, fun _ q => ⟨xs, ys, q.1, q.2, by omega⟩, fun i H v H' _ q y => ?_⟩
  · have h1 : i < xs.length := by omega
    have h2 : i < ys.length := by omega
    exact ⟨xs, ys, xs[i], ys[i], q.1, q.2, by simp [h1], by simp [h2]⟩
  · obtain ⟨T, x, z, h1, h2, h3, h4, h5⟩ := y
    exact ⟨T, x, z, h1, h2, h3, h4 xs q.1, h5 ys q.2⟩
end HG

set_option maxHeartbeats 4000000
namespace K48
open PySem PySem.Spec PyProof.Rows L2 HG P52
def spEnd (K : PySem.W.Frag) : Sp := fun vs H Q _ => ∃ (d c kt : Addr) (n cnt M f B : Nat), vs = [.ref d, .ref kt, .int (B : Int)] ∧ n < 2 ^ 47 ∧ 0 < B ∧ B ≤ 9 ∧ Deck d c n H ∧ Kt (off d c H) kt cnt M f ∧
  ∀ (v : V) (E : Stp) (H' : Hp), Deck d c (n + 10) H' → Ext d c H H' → Dp K H' v E.D → StpOk M B E → Q v H'
section
variable {P : Program} {w : World} {K : PySem.W.Frag} {mg : Str → Option Value} {base : Heap}
set_option pp.maxSteps 600 in
theorem c_end (T : Txt w K mg) : Cal P w K mg base "_law_end" 4 ["_law_deck_here", "_law_kit", "_law_many"] (spEnd K) := by
  obtain ⟨fd, F⟩ := T.d__law_end
  have C__law_draw := c_draw (P := P) (base := base) T
  have C__law_word := c_word (P := P) (base := base) T
  have C__law_operand := c_operand (P := P) (base := base) T
  refine ⟨⟨fd, F.ok sc__law_end (fun vs H Q E h => ?_) (fun cdv A outer s H vs Q E hr h => ?_), F.bindsN fun _ _ _ _ _ _ us hl => match us, hl with | [_, _, _], _ => rfl⟩, T.g _ (by decide), F.kp⟩
  · obtain ⟨d, c, kt, n, cnt, M, f, B, rfl, _⟩ := h
    rfl
  obtain ⟨d, c, kt, n, cnt, M, f, B, rfl, hn, hB0, hB, dk, hk, q⟩ := h
  refine ⟨_, PSs.nox (pss_cons (ps_par (i := 3) (j := 4) rfl sc__law_end.nd rfl rfl (by decide) rfl rfl (pa_cons (pe_cal C__law_draw (hr.mono (by omega)) (by rfl) (pa_cons (pv 0) (pa_cons pe_int pa_nil))) (pa_cons (pe_cal C__law_operand (hr.mono (by omega)) (by rfl) (pa_cons (pv 0) (pa_cons (pv 1) pa_nil))) pa_nil)) (by rfl))
      (pss_cons (ps_set (i := 5) sc__law_end.nd rfl (.inl rfl) (pe_lst (pa_cons (pe_tup (pa_cons pe_str (pa_cons (pe_cal C__law_draw (hr.mono (by omega)) (by rfl) (pa_cons (pv 0) (pa_cons (pv 2) pa_nil))) pa_nil))) (pa_cons (pe_tup (pa_cons pe_str (pa_cons (pv 4) (pa_cons (pe_cal C__law_draw (hr.mono (by omega)) (by rfl) (pa_cons (pv 0) (pa_cons (pv 2) pa_nil))) (pa_cons (pe_cal C__law_draw (hr.mono (by omega)) (by rfl) (pa_cons (pv 0) (pa_cons (pv 2) pa_nil))) pa_nil))))) pa_nil))))
      (pss_one (ps_ret (pe_ix (ix_listK (K := K) rfl) (pe_op op_cat (pe_op op_cat (pv 5) (pv 5)) (pe_lst (pa_cons (pe_tup (pa_cons pe_str (pa_cons (pv 4) pa_nil))) (pa_cons (pe_tup (pa_cons pe_str (pa_cons (pe_cal C__law_word (hr.mono (by omega)) (by rfl) (pa_cons (pv 0) pa_nil)) pa_nil))) pa_nil)))) (pv 3) (fun _ _ => rfl)))))), ?_⟩
  have hB40 : ((B : Nat) : Int) < 10 ^ 40 := many40 (by omega)
  refine ⟨.ref d, rfl, d, c, _, 6, rfl, by decide, by decide, by omega, dk, fun r1 H1 r10 r11 dk1 X1 => ?_⟩
  obtain ⟨way, rfl⟩ := Int.eq_ofNat_of_zero_le r10
  refine ⟨.ref d, rfl, .ref kt, rfl, d, c, kt, _, cnt, M, f, rfl, by omega, dk1, hk.mono X1, fun v1 a1 H2 dk2 X2 g1 o1 => ⟨_, _, rfl, ?_⟩⟩
  refine ⟨.ref d, rfl, _, rfl, d, c, _, B, rfl, by omega, hB40, by omega, dk2, fun r3 H3 r30 r31 dk3 X3 => ?_⟩
  obtain ⟨j1, rfl⟩ := Int.eq_ofNat_of_zero_le r30
  refine ⟨(by show 2 ≤ sizeLine; decide), fun t4 ht4 => ?_⟩
  have s4 := same_new (o := .tup [.str "jump", .int (j1 : Int)]) ht4
  have gj : Dp K (upd H3 t4 (.tup [.str "jump", .int (j1 : Int)])) (.ref t4) (Stp.jp j1).D := dp_tupN ht4 (.cons (.str _) (.cons (.int _) .nil))
  have dk4 := dk3.same s4
  generalize upd H3 t4 (.tup [.str "jump", .int (j1 : Int)]) = H4 at s4 gj dk4 ⊢
  refine ⟨v1, rfl, .ref d, rfl, _, rfl, d, c, _, B, rfl, by omega, hB40, by omega, dk4, fun r5 H5 r50 r51 dk5 X5 => ?_⟩
  obtain ⟨j2, rfl⟩ := Int.eq_ofNat_of_zero_le r50
  refine ⟨.ref d, rfl, _, rfl, d, c, _, B, rfl, by omega, hB40, by omega, dk5, fun r6 H6 r60 r61 dk6 X6 => ?_⟩
  obtain ⟨j3, rfl⟩ := Int.eq_ofNat_of_zero_le r60
  have k46 : KT H4 H6 := (ext_kt dk4 X5).trans (ext_kt dk5 X6)
  have k26 : KT H2 H6 := (ext_kt dk2 X3).trans ((KT.of s4).trans k46)
  have g1 := dp_kt k26 _ _ (nlO a1) g1
  have gj := dp_kt k46 _ _ (nlE _) gj
  have X26 : Ext d c H2 H6 := X3.trans ((off_same_mono s4).trans (X5.trans X6))
  refine ⟨(by show 4 ≤ sizeLine; decide), fun t7 ht7 => ?_⟩
  have s7 := same_new (o := .tup [.str "branch", v1, .int (j2 : Int), .int (j3 : Int)]) ht7
  have gb : Dp K (upd H6 t7 (.tup [.str "branch", v1, .int (j2 : Int), .int (j3 : Int)])) (.ref t7) (Stp.br a1 j2 j3).D := dp_tupN ht7 (.cons (.str _) (.cons g1 (.cons (.int _) (.cons (.int _) .nil))))
  have gj := dp_mono s7 _ _ gj
  have g1 := dp_mono s7 _ _ g1
  have dk7 := dk6.same s7
  have X27 : Ext d c H2 (upd H6 t7 (.tup [.str "branch", v1, .int (j2 : Int), .int (j3 : Int)])) := X26.trans (off_same_mono s7)
  generalize upd H6 t7 (.tup [.str "branch", v1, .int (j2 : Int), .int (j3 : Int)]) = H7 at s7 gb gj g1 dk7 X27 ⊢
  refine ⟨(by show 2 ≤ sizeLine; decide), fun l8 hl8 => ?_⟩
  have s8 := same_new (o := .lst [.ref t4, .ref t7]) hl8
  have e8 : (upd H7 l8 (.lst [.ref t4, .ref t7])) l8 = some (.lst [.ref t4, .ref t7]) := upd_same
  have gb := dp_mono s8 _ _ gb
  have gj := dp_mono s8 _ _ gj
  have g1 := dp_mono s8 _ _ g1
  have dk8 := dk7.same s8
  have X28 := X27.trans (off_same_mono s8)
  generalize upd H7 l8 (.lst [.ref t4, .ref t7]) = H8 at s8 e8 gb gj g1 dk8 X28 ⊢
  refine ⟨.ref l8, rfl, .ref l8, rfl, l8, l8, _, _, rfl, rfl, e8, e8, (by show 4 ≤ sizeLine; decide), fun l9 hl9 => ?_⟩
  have n9 := dk8.has hl9
  have s9 := same_new (o := .lst [.ref t4, .ref t7, .ref t4, .ref t7]) hl9
  have e9 : (upd H8 l9 (.lst [.ref t4, .ref t7, .ref t4, .ref t7])) l9 = some (.lst [.ref t4, .ref t7, .ref t4, .ref t7]) := upd_same
  have gb := dp_mono s9 _ _ gb
  have gj := dp_mono s9 _ _ gj
  have g1 := dp_mono s9 _ _ g1
  have dk9 := dk8.same s9
  have X29 := X28.trans (off_same_mono s9)
  generalize eH9 : upd H8 l9 _ = H9
  have eH9 : upd H8 l9 (.lst [.ref t4, .ref t7, .ref t4, .ref t7]) = H9 := eH9
  rw [eH9] at s9 e9 gb gj g1 dk9 X29
  refine ⟨v1, rfl, (by show 2 ≤ sizeLine; decide), fun t10 ht10 => ?_⟩
  have s10 := same_new (o := .tup [.str "return", v1]) ht10
  have gr : Dp K (upd H9 t10 (.tup [.str "return", v1])) (.ref t10) (Stp.rt (some a1)).D := dp_tupN ht10 (.cons (.str _) (.cons g1 .nil))
  have gb := dp_mono s10 _ _ gb
  have gj := dp_mono s10 _ _ gj
  have e9 := s10 _ _ e9
  have dk10 := dk9.same s10
  have X210 := X29.trans (off_same_mono s10)
  generalize upd H9 t10 (.tup [.str "return", v1]) = H10 at s10 gr gb gj e9 dk10 X210 ⊢
  refine ⟨.ref d, rfl, d, c, _, rfl, by omega, dk10, fun wv H11 w0 w1 dk11 X11 => ⟨(by show 2 ≤ sizeLine; decide), fun t12 ht12 => ?_⟩⟩
  have k11 := ext_kt dk10 X11
  have s12 := same_new (o := .tup [.str "halt", .int wv]) ht12
  have k12 := k11.trans (KT.of s12)
  have gh : Dp K (upd H11 t12 (.tup [.str "halt", .int wv])) (.ref t12) (Stp.ht wv).D := dp_tupN ht12 (.cons (.str _) (.cons (.int _) .nil))
  have gr := dp_kt k12 _ _ (nlE _) gr
  have gb := dp_kt k12 _ _ (nlE _) gb
  have gj := dp_kt k12 _ _ (nlE _) gj
  have e9 := s12 _ _ (X11.at n9.1 n9.2 e9)
  have dk12 := dk11.same s12
  have X212 := (X210.trans X11).trans (off_same_mono s12)
  generalize upd H11 t12 (.tup [.str "halt", .int wv]) = H12 at s12 gh gr gb gj e9 dk12 X212 ⊢
  refine ⟨(by show 2 ≤ sizeLine; decide), fun l13 hl13 => ?_⟩
  have s13 := same_new (o := .lst [.ref t10, .ref t12]) hl13
  have e13 : (upd H12 l13 (.lst [.ref t10, .ref t12])) l13 = some (.lst [.ref t10, .ref t12]) := upd_same
  refine ⟨l9, l13, _, _, rfl, rfl, s13 _ _ e9, e13, (by show 6 ≤ sizeLine; decide), fun l14 hl14 => ?_⟩
  have s14 := s13.trans (same_new (o := .lst [.ref t4, .ref t7, .ref t4, .ref t7, .ref t10, .ref t12]) hl14)
  have all : DpAll K (upd (upd H12 l13 (.lst [.ref t10, .ref t12])) l14 (.lst [.ref t4, .ref t7, .ref t4, .ref t7, .ref t10, .ref t12])) [.ref t4, .ref t7, .ref t4, .ref t7, .ref t10, .ref t12] (([.jp j1, .br a1 j2 j3, .jp j1, .br a1 j2 j3, .rt (some a1), .ht wv] : List Stp).map Stp.D) :=
    dpAll_mono s14 _ _ (.cons gj (.cons gb (.cons gj (.cons gb (.cons gr (.cons gh .nil))))))
  have hw : way < 6 := by omega
  obtain ⟨y, hy⟩ : ∃ y, ([.ref t4, .ref t7, .ref t4, .ref t7, .ref t10, .ref t12] : List V)[way]? = some y := ⟨_, List.getElem?_eq_getElem (show way < 6 from hw)⟩
  obtain ⟨E1, hE, hyE⟩ := dpAll_map_get all hy
  refine ⟨_, rfl, l14, _, _, _, rfl, rfl, .inl (.inl upd_same), atI_nat hy, q y E1 _ ((dk12.same s14).up (by omega)) (X1.trans (X2.trans (X212.trans (off_same_mono s14)))) hyE ?_⟩
  have hm := List.mem_of_getElem? hE
  simp only [List.mem_cons, List.not_mem_nil, or_false] at hm
  rcases hm with rfl | rfl | rfl | rfl | rfl | rfl
  · show j1 < B
    omega
  · exact ⟨o1, by omega, by omega⟩
  · show j1 < B
    omega
  · exact ⟨o1, by omega, by omega⟩
  · intro o ho
    cases ho
    exact o1
  · exact ⟨w0, w1⟩
end
end K48

set_option maxHeartbeats 4000000
namespace K48
open PySem PySem.Spec PyProof.Rows L2 HG P52
theorem vars_ne {g : Gr} (h : ∃ b ∈ g.blocks, ∃ R ∈ b.rows, R.set ≠ none) : g.vars ≠ [] := by
  obtain ⟨b, hb, R, hR, hs⟩ := h
  intro z
  cases hn : R.set with
  | none => exact hs hn
  | some n =>
    have : n ∈ g.vars := List.mem_flatMap.mpr ⟨b, hb, List.mem_append.mpr (.inr (List.mem_flatMap.mpr ⟨R, hR, List.mem_append.mpr (.inr (by rw [hn]; exact List.mem_singleton.mpr rfl))⟩))⟩
    rw [z] at this
    cases this
def spGraph (K : PySem.W.Frag) : Sp := fun vs H Q _ => ∃ (d c wd : Addr) (n mo : Nat), vs = [.ref d, .ref wd, .int (mo : Int)] ∧ 0 < mo ∧ mo ≤ 9 ∧ n < 2 ^ 46 ∧ Deck d c n H ∧ Wd K (off d c H) wd ∧
  ∀ (v : V) (g : Gr) (N : Nat) (H' : Hp), Deck d c (n + 4000) H' → Ext d c H H' → Dp K H' v g.D → GrOk N g → g.blocks.length ≤ mo → Q v H'
theorem stp_up {M N B : Nat} {E : Stp} (h : StpOk M B E) (hN : M ≤ N) : StpOk N B E := by
  cases E with
  | jp n => exact h
  | br a n m => exact ⟨opd_up h.1 hN, h.2⟩
  | rt a => exact fun o ho => opd_up (h o ho) hN
  | ht i => exact h
theorem rg_eq (n : Nat) : rgV 0 (n : Int) = (List.range n).map fun i => V.int ((i : Nat) : Int) := by
  unfold rgV
  rw [Int.sub_zero, Int.toNat_natCast]
  congr 1
  funext i
  rw [Int.zero_add]
section
variable {P : Program} {w : World} {K : PySem.W.Frag} {mg : Str → Option Value} {base : Heap}
set_option pp.maxSteps 600 in
theorem c_graph (T : Txt w K mg) : Cal P w K mg base "_law_graph" 5 ["_law_deck_here", "_law_world_here", "_law_most"] (spGraph K) := by
  obtain ⟨fd, F⟩ := T.d__law_graph
  have C__law_draw := c_draw (P := P) (base := base) T
  have C__law_first := c_first (P := P) (base := base) T
  have C__law_row := c_row (P := P) (base := base) T
  have C__law_end := c_end (P := P) (base := base) T
  refine ⟨⟨fd, F.ok sc__law_graph (fun vs H Q E h => ?_) (fun cdv A outer s H vs Q E hr h => ?_), F.bindsN fun _ _ _ _ _ _ us hl => match us, hl with | [_, _, _], _ => rfl⟩, T.g _ (by decide), F.kp⟩
  · obtain ⟨d, c, wd, n, mo, rfl, _⟩ := h
    rfl
  obtain ⟨d, c, wd, n, mo, rfl, hmo0, hmo9, hn, dk, hwd, q⟩ := h
  have hu := hu_of hr
  refine ⟨_, PSs.nox (pss_cons (ps_set (i := 3) sc__law_graph.nd rfl (.inl rfl) (pe_cal C__law_draw (hr.mono (by omega)) (by rfl) (pa_cons (pv 0) (pa_cons pe_int pa_nil))))
      (pss_cons (ps_set (i := 4) sc__law_graph.nd rfl (.inr rfl) (pe_disp (pps_cons pe_str (pv 3) (pps_cons pe_str (pe_listRg rfl (by rfl) T.n_list (prg_1 (by rfl) T.n_range (pe_op op_add (pe_op op_add (pv 3) pe_int) (pe_cal C__law_draw (hr.mono (by omega)) (by rfl) (pa_cons (pv 0) (pa_cons pe_int pa_nil)))))) pps_nil)) (by rfl) (by rfl) (fun z => by cases z) (by decide)))
      (pss_cons (ps_dput hu (pv 4) pe_str (pe_lc (own := [("_law_k", 9)]) (by rfl) sc__law_graph.nd (pi_range1 (by rfl) T.n_range (pa_cons (pe_op op_add pe_int (pe_cal C__law_draw (hr.mono (by omega)) (by rfl) (pa_cons (pv 0) (pa_cons pe_int pa_nil)))) pa_nil)) (blkOk_by (own := [("_law_k", 9)]) (N := N__law_graph) (sc := defScope s__law_graph) (by decide +kernel)) (fun _ _ _ _ _ => (pg_name (i := 9) sc__law_graph.nd rfl (.inl rfl))) (fun _ _ _ _ _ => pts_nil) (fun _ _ _ _ _ => (pe_op op_add (pe_callB (lenK (K := K) rfl) (by rfl) T.n_len (by decide +kernel) (pa_cons (pe_dget hu (pv 4) pe_str (fun _ _ => rfl)) pa_nil)) (pv 9)))) rfl)
      (pss_cons (ps_par (i := 5) (j := 6) rfl sc__law_graph.nd rfl rfl (by decide) rfl rfl (pa_cons (pe_op op_add pe_int (pe_cal C__law_draw (hr.mono (by omega)) (by rfl) (pa_cons (pv 0) (pa_cons (pv 2) pa_nil)))) (pa_cons (pe_lst pa_nil) pa_nil)) (by rfl))
      (pss_cons (ps_for PassesOwn.never rfl (pi_range1 (by rfl) T.n_range (pa_cons (pv 5) pa_nil)) (pg_name (i := 7) sc__law_graph.nd rfl (.inl rfl)) (pss_cons (ps_set (i := 8) sc__law_graph.nd rfl (.inl rfl) (pe_ifExp (pt_cmpR op_eq (pv 7) pe_int (nomark _)) (pe_cal C__law_first (hr.mono (by omega)) (by rfl) (pa_cons (pv 0) (pa_cons (pv 1) (pa_cons (pv 4) pa_nil)))) (pe_lst pa_nil)))
      (pss_cons (ps_for PassesOwn.never rfl (pi_range1 (by rfl) T.n_range (pa_cons (pe_cal C__law_draw (hr.mono (by omega)) (by rfl) (pa_cons (pv 0) (pa_cons pe_int pa_nil))) pa_nil)) (pg_name (i := 9) sc__law_graph.nd rfl (.inl rfl)) (pss_one (ps_expr (pe_bm PySem.F.plainAttrs_list PySem.F.slot_list_append PySem.F.type_list_append mt_append (pv 8) (pa_cons (pe_cal C__law_row (hr.mono (by omega)) (by rfl) (pa_cons (pv 0) (pa_cons (pv 1) (pa_cons (pv 4) pa_nil)))) pa_nil)))))
      (pss_one (ps_expr (pe_bm PySem.F.plainAttrs_list PySem.F.slot_list_append PySem.F.type_list_append mt_append (pv 6) (pa_cons (pe_tup (pa_cons (pe_callTy call_tuple_of (by rfl) T.n_tuple (by decide +kernel) (pa_cons (pv 8) pa_nil)) (pa_cons (pe_cal C__law_end (hr.mono (by omega)) (by rfl) (pa_cons (pv 0) (pa_cons (pv 4) (pa_cons (pv 5) pa_nil)))) pa_nil))) pa_nil)))))))
      (pss_one (ps_ret (pe_tup (pa_cons (pv 3) (pa_cons (pe_callTy call_tuple_of (by rfl) T.n_tuple (by decide +kernel) (pa_cons (pv 6) pa_nil)) pa_nil)))))))))), ?_⟩
  refine ⟨.ref d, rfl, d, c, _, 4, rfl, by decide, by decide, by omega, dk, fun r1 H1 r10 r11 dk1 X1 => ?_⟩
  obtain ⟨cnt, rfl⟩ := Int.eq_ofNat_of_zero_le r10
  -- the kit
  intro kt hkt
  have nkt := dk1.has hkt
  have s2 := same_new (o := .dK []) hkt
  have dk2 := dk1.same s2
  have ek : (upd H1 kt (.dK [])) kt = some (.dK []) := upd_same
  have X2 : Ext d c H (upd H1 kt (.dK [])) := X1.trans (off_same_mono s2)
  have hktH : H kt = none := grow X1 dk1 hkt
  generalize upd H1 kt (.dK []) = H2 at s2 dk2 ek X2 ⊢
  refine ⟨_, rfl, _, rfl, _, _, rfl, rfl, .ref d, rfl, d, c, _, 5, rfl, by decide, by decide, by omega, dk2, fun r3 H3 r30 r31 dk3 X3 => ?_⟩
  obtain ⟨m0, rfl⟩ := Int.eq_ofNat_of_zero_le r30
  have hM : ((cnt : Int) + 1 + (m0 : Int)) = ((cnt + 1 + m0 : Nat) : Int) := by omega
  have hcm : cnt ≤ 3 ∧ m0 ≤ 4 := by omega
  generalize eM : cnt + 1 + m0 = M at hM
  refine ⟨_, _, rfl, rfl, _, rfl, ⟨by omega, by omega, by omega, by omega, by omega⟩, fun wa hwa => ?_⟩
  generalize eH4 : upd H3 wa _ = H4
  have eH4 : H4 = upd H3 wa (.lst ((List.range M).map fun i => V.int ((i : Nat) : Int))) := by
    rw [← eH4, ← rg_eq, ← hM]
  have nwa := dk3.has hwa
  have s4 : Same H3 H4 := by rw [eH4]; exact same_new hwa
  have ewa : H4 wa = some (.lst ((List.range M).map fun i => V.int ((i : Nat) : Int))) := by rw [eH4]; exact upd_same
  have dk4 := dk3.same s4
  have ek4 := s4 _ _ (X3.at nkt.1 nkt.2 ek)
  have nkw : wa ≠ kt := fun z => by
    have := X3.at nkt.1 nkt.2 ek
    rw [← z, hwa] at this
    cases this
  have X4 : Ext d c H H4 := (X2.trans X3).trans (off_same_mono s4)
  refine ⟨ek4, [(Sum.inr "count", .int (cnt : Int)), (Sum.inr "words", .ref wa)], rfl, (by show 2 ≤ 15; decide), ?_⟩
  generalize eH5 : upd H4 kt _ = H5
  have eH5 : H5 = upd H4 kt (.dK [(Sum.inr "count", .int (cnt : Int)), (Sum.inr "words", .ref wa)]) := eH5.symm
  have dk5 : Deck d c (n + 1 + 1) H5 := by rw [eH5]; exact dk4.upd nkt.1 nkt.2
  have ek5 : H5 kt = some (.dK [(Sum.inr "count", .int (cnt : Int)), (Sum.inr "words", .ref wa)]) := by rw [eH5]; exact upd_same
  have ewa5 : H5 wa = some (.lst ((List.range M).map fun i => V.int ((i : Nat) : Int))) := by rw [eH5, upd_ne nkw]; exact ewa
  have X5 : Ext d c H H5 := by rw [eH5]; exact X4.mut hktH
  -- funcs
  refine ⟨.ref d, rfl, d, c, _, 2, rfl, by decide, by decide, by omega, dk5, fun r6 H6 r60 r61 dk6 X6 => ?_⟩
  obtain ⟨f0, rfl⟩ := Int.eq_ofNat_of_zero_le r60
  have hf0 : f0 ≤ 1 := by omega
  have ek6 := X6.at nkt.1 nkt.2 ek5
  have ewa6 := X6.at nwa.1 nwa.2 ewa5
  have X06 := X5.trans X6
  refine ⟨_, _, rfl, rfl, _, rfl, by omega, by omega, fun D hD => ?_⟩
  have nD := dk6.has hD
  have nkD : kt ≠ D := ne_of_none ek6 hD
  have nwD : wa ≠ D := ne_of_none ewa6 hD
  refine lc_range (lo := 0) (n := ((1 : Int) + (f0 : Int)).toNat) (fun i H7 => H7 D = some (.lst ((List.range i).map fun j => V.int ((M + j : Nat) : Int))) ∧ Same H6 H7) ⟨upd_same, same_new hD⟩ ?_ ?_
  · rintro i H7 hi ⟨hD7, s7⟩
    refine ⟨rfl, tyes ⟨.ref kt, rfl, kt, _, rfl, DGet.k (k := Sum.inr "words") (s7 _ _ ek6), .ref wa, _, rfl, .inl ⟨_, .inl (.inl (s7 _ _ ewa6)), rfl⟩, _, rfl, _, _, rfl, rfl, _, hD7, ?_, ?_, ?_⟩⟩
    · rw [List.length_map, List.length_range]
      exact small_line (by omega)
    · rw [upd_same, List.range_succ, List.map_append]
      congr 3
      show [V.int (((((List.range M).map fun i => V.int ((i : Nat) : Int)).length : Nat) : Int) + (0 + (i : Int)))] = [V.int ((M + i : Nat) : Int)]
      rw [List.length_map, List.length_range, Int.zero_add]
      congr 2
    · intro b o e
      rw [upd_ne (ne_of_none e hD)]
      exact s7 _ _ e
  rintro H7 ⟨hD7, s7⟩
  have ef : ((1 : Int) + (f0 : Int)).toNat = 1 + f0 := by omega
  rw [ef] at hD7
  have ek7 := s7 _ _ ek6
  have dk7 := dk6.same s7
  refine ⟨.ref kt, rfl, kt, _, rfl, DPut.k (k := Sum.inr "funcs") (v := .ref D) ek7 (by show 2 < sizeLine; decide), ?_⟩
  generalize eH8 : upd H7 kt _ = H8
  have eH8 : H8 = upd H7 kt (.dK [(Sum.inr "count", .int (cnt : Int)), (Sum.inr "words", .ref wa), (Sum.inr "funcs", .ref D)]) := eH8.symm
  have dk8 : Deck d c (n + 1 + 1 + 1) H8 := by rw [eH8]; exact dk7.upd nkt.1 nkt.2
  have X8 : Ext d c H H8 := by rw [eH8]; exact (X06.trans (off_same_mono s7)).mut hktH
  have hkt8 : Kt (off d c H8) kt cnt M (1 + f0) := by
    refine ⟨⟨wa, D, ?_, ?_, ?_⟩, by omega, by omega, by omega, by omega, by omega⟩
    · rw [off_get nkt.1 nkt.2, eH8]; exact upd_same
    · rw [off_get nwa.1 nwa.2, eH8, upd_ne nkw]; exact s7 _ _ ewa6
    · rw [off_get nD.1 nD.2, eH8, upd_ne nkD.symm]; exact hD7
  have S8 : S52 K d c wd kt cnt M (1 + f0) (n + 3) H8 H8 := ⟨dk8, Ext.refl _, hwd.mono X8, hkt8⟩
  clear eH8 eH5 eH4
  -- many, blocks
  refine ⟨.ref d, rfl, .int (mo : Int), rfl, d, c, _, (mo : Int), rfl, by omega, many40 (by omega), by omega, S8.dk, fun r9 H9 r90 r91 dk9 X9 => ?_⟩
  obtain ⟨b0, rfl⟩ := Int.eq_ofNat_of_zero_le r90
  have hb0 : b0 ≤ 8 := by omega
  have S9 := S8.step dk9 X9
  refine ⟨_, _, rfl, rfl, Nat.zero_le _, fun bl hbl => ?_⟩
  have nbl := S9.dk.has hbl
  have S10 := S9.new (o := .lst []) hbl
  have ebl : (upd H9 bl (.lst [])) bl = some (.lst []) := upd_same
  have hbl8 : H8 bl = none := grow S9.X S9.dk hbl
  have X10 : Ext d c H8 (upd H9 bl (.lst [])) := S10.X
  generalize upd H9 bl (.lst []) = H10 at S10 ebl X10 ⊢
  have eB : (1 : Int) + (b0 : Int) = ((1 + b0 : Nat) : Int) := by omega
  refine ⟨_, _, rfl, ?_⟩
  generalize eBv : (1 : Int) + (b0 : Int) = Bv at eB
  have hB0 : 0 < 1 + b0 := by omega
  have hB9 : 1 + b0 ≤ 9 := by omega
  generalize eBn : 1 + b0 = B at eB hB0 hB9
  have hNf : M + (1 + f0) ≤ 10 := by omega
  generalize eff : 1 + f0 = f at S8 S9 S10 hNf hkt8 hD7
  subst eB
  show (tFor (iRng1 (tCons (tVar 5) tNil)) (gName 7) _) _ [some (.ref d), some (.ref wd), some (.int (mo : Int)), some (.int (cnt : Int)), some (.ref kt), some (.int ((1 : Int) + (b0 : Int))), some (.ref bl), none, none, none] H10
  rw [eBv]
  refine ⟨_, rfl, _, rfl, by omega, by omega, for_range (lo := 0) (n := ((B : Nat) : Int).toNat) (fun i σ H3 => ∃ bvs bs x7 x8 x9, σ = [some (.ref d), some (.ref wd), some (.int (mo : Int)), some (.int (cnt : Int)), some (.ref kt), some (.int (B : Int)), some (.ref bl), x7, x8, x9] ∧ H3 bl = some (.lst bvs) ∧ DpAll K H3 bvs (bs.map Blk.D) ∧ bs.length = i ∧ (∀ b ∈ bs, BkOk (M + f) B b) ∧ (0 < i → ∃ b ∈ bs, ∃ R ∈ b.rows, R.set ≠ none) ∧ Deck d c (n + 10 + 400 * i) H3 ∧ Ext d c H8 H3)
    ⟨[], [], _, _, _, rfl, ebl, .nil, rfl, (fun _ h => nomatch h), (fun h => absurd h (Nat.lt_irrefl 0)), S10.dk.up (by omega), X10⟩ ?_ ?_⟩
  · rintro i σ H3 hi ⟨bvs, bs, x7, x8, x9, rfl, eb3, hBs, hbl, hbok, hsb, dk3, X3⟩
    have hi : i < 9 := by omega
    have S3 := S8.step dk3 X3
    -- the rows at first
    have hs : ∀ (Qc : VK), (∀ (ra : Addr) (us : List V) (rows : List Rw) (H4 : Hp), H3 ra = none → H4 ra = some (.lst us) → DpAll K H4 us (rows.map Rw.D) → rows.length ≤ 10 → (∀ R ∈ rows, RwOk (M + f) R) → (i = 0 → ∃ R ∈ rows, R.set ≠ none) → Deck d c (n + 10 + 400 * i + 20) H4 → Ext d c H3 H4 → Qc (.ref ra) H4) →
        tIf (tTest (tOp rEq (tVar 7) (tC (V.int 0)))) (tCall (spFirst K) [] E0 (tCons (tVar 0) (tCons (tVar 1) (tCons (tVar 4) tNil)))) (tLst tNil) [some (.ref d), some (.ref wd), some (.int (mo : Int)), some (.int (cnt : Int)), some (.ref kt), some (.int (B : Int)), some (.ref bl), some (.int (0 + (i : Int))), x8, x9] H3 Qc := by
      intro Qc hq
      refine ⟨_, rfl, rfl, _, rfl, ?_⟩
      cases hb : decide (V.int (0 + (i : Int)) = V.int 0) with
      | true =>
        exact iteT ⟨.ref d, rfl, .ref wd, rfl, .ref kt, rfl, d, c, wd, kt, _, cnt, M, f, rfl, by omega, ⟨dk3, Ext.refl _, S3.wd, S3.kt⟩, fun ra us rows H4 S4 hra h4 hU hl hok hs => hq ra us rows H4 hra h4 hU hl hok (fun _ => hs) S4.dk S4.X⟩
      | false =>
        exact iteF ⟨Nat.zero_le _, fun ra hra => hq ra [] [] _ hra upd_same .nil (Nat.zero_le _) (fun _ h => nomatch h) (fun z => by rw [z] at hb; exact absurd hb (by decide)) ((dk3.new hra).up (by omega)) (Ext.new hra)⟩
    refine hs _ fun ra us rows H4 hra h4 hU hl hok hsr dk4 X4 => ?_
    have nra := dk3.has hra
    have nrb : ra ≠ bl := fun z => by rw [z, eb3] at hra; cases hra
    refine ⟨.ref d, rfl, d, c, _, 6, rfl, by decide, by decide, by omega, dk4, fun r5 H5 r50 r51 dk5 X5 => ?_⟩
    obtain ⟨k6, rfl⟩ := Int.eq_ofNat_of_zero_le r50
    refine ⟨_, rfl, by omega, by omega, for_range (lo := 0) (n := ((k6 : Nat) : Int).toNat) (fun k σ H6 => ∃ us rows x9, σ = [some (.ref d), some (.ref wd), some (.int (mo : Int)), some (.int (cnt : Int)), some (.ref kt), some (.int (B : Int)), some (.ref bl), some (.int (0 + (i : Int))), some (.ref ra), x9] ∧ H6 ra = some (.lst us) ∧ DpAll K H6 us (rows.map Rw.D) ∧ rows.length ≤ 10 + k ∧ (∀ R ∈ rows, RwOk (M + f) R) ∧ (i = 0 → ∃ R ∈ rows, R.set ≠ none) ∧ Deck d c (n + 10 + 400 * i + 21 + 40 * k) H6 ∧ Ext d c H3 H6)
      ⟨us, rows, _, rfl, X5.at nra.1 nra.2 h4, dpAll_kt (ext_kt dk4 X5) _ _ (nlRs rows) hU, hl, hok, hsr, dk5.up (by omega), X4.trans X5⟩ ?_ ?_⟩
    · rintro k σ H6 hk ⟨us, rows, x9, rfl, h6, hU, hl, hok, hsr, dk6, X6⟩
      have hk6 : k < 6 := by omega
      have S6 := S3.step dk6 X6
      refine ⟨.ref ra, rfl, .inl ⟨rfl, _, .inl (.inl h6)⟩, .ref d, rfl, .ref wd, rfl, .ref kt, rfl, d, c, wd, kt, _, cnt, M, f, rfl, by omega, ⟨dk6, Ext.refl _, S6.wd, S6.kt⟩, fun v R H7 S7 hv hR => ?_⟩
      obtain ⟨m1, m2, m3, m4, m5⟩ := row_step (p := ra) nra hra h6 hU hok dk6 X6 S7.dk S7.X hv hR
      have hul := dpAll_len hU
      rw [List.length_map] at hul
      exact ⟨ra, _, _, rfl, rfl, m1, small_line (by omega), _, rows ++ [R], _, rfl, upd_same, m2, by rw [List.length_append]; show rows.length + 1 ≤ 10 + (k + 1); omega, m3, (fun z => (hsr z).imp fun R h => ⟨List.mem_append.mpr (.inl h.1), h.2⟩), m4.up (by omega), m5⟩
    · rintro σ H6 ⟨us, rows, x9, rfl, h6, hU, hl, hok, hsr, dk6, X6⟩
      have hk6 : k6 ≤ 5 := by omega
      have eb6 := X6.at nbl.1 nbl.2 eb3
      have S6 := S3.step dk6 X6
      refine ⟨.ref bl, rfl, .inl ⟨rfl, _, .inl (.inl eb6)⟩, .ref ra, rfl, ra, us, rfl, .inl ⟨.inl (.inl h6), fun t7 ht7 => ?_⟩⟩
      have s7 := same_new (o := .tup us) ht7
      have g7 : Dp K (upd H6 t7 (.tup us)) (.ref t7) (.tuple (rows.map Rw.D)) := dp_tupN ht7 hU
      have S7 := S6.same s7
      have eb7 := s7 _ _ eb6
      have X67 : Ext d c H6 (upd H6 t7 (.tup us)) := off_same_mono s7
      generalize upd H6 t7 (.tup us) = H7 at s7 g7 S7 eb7 X67 ⊢
      refine ⟨.ref d, rfl, .ref kt, rfl, _, rfl, d, c, kt, _, cnt, M, f, B, rfl, by omega, hB0, hB9, S7.dk, S7.kt, fun ve E1 H8' dk8' X8' ge oe => ⟨(by show 2 ≤ sizeLine; decide), fun t9 ht9 => ?_⟩⟩
      have s9 := same_new (o := .tup [.ref t7, ve]) ht9
      have nl7 : noL (.tuple (rows.map Rw.D)) = true := by
        have := nlRs rows
        simpa only [noL] using this
      have g9 : Dp K (upd H8' t9 (.tup [.ref t7, ve])) (.ref t9) (Blk.D ⟨rows, E1⟩) := dp_tupN ht9 (.cons (dp_kt (ext_kt S7.dk X8') _ _ nl7 g7) (.cons ge .nil))
      have X39 : Ext d c H3 (upd H8' t9 (.tup [.ref t7, ve])) := X6.trans (X67.trans (X8'.trans (off_same_mono s9)))
      have dk9' := dk8'.same s9
      have eb9 := X39.at nbl.1 nbl.2 eb3
      have hbvl := dpAll_len hBs
      rw [List.length_map] at hbvl
      refine ⟨bl, _, _, rfl, rfl, eb9, small_line (by omega), bvs ++ [.ref t9], bs ++ [⟨rows, E1⟩], _, _, _, rfl, upd_same, ?_, by rw [List.length_append, hbl]; rfl, fun b hb => ?_, fun _ => ?_, (dk9'.upd nbl.1 nbl.2).up (by omega), (X3.trans X39).mut hbl8⟩
      · have ke := KT.lst (o := .lst (bvs ++ [.ref t9])) eb9
        rw [List.map_append]
        exact dpAll_app (dpAll_kt ((ext_kt dk3 X39).trans ke) _ _ (noLAll_map fun b _ => nlB b) hBs) (.cons (dp_kt ke _ _ (nlB _) g9) .nil)
      · rcases List.mem_append.mp hb with z | z
        · exact hbok b z
        · rw [List.mem_singleton.mp z]
          exact ⟨hok, stp_up oe (by omega), by show rows.length ≤ 15; omega⟩
      · by_cases hi0 : i = 0
        · exact ⟨_, List.mem_append.mpr (.inr List.mem_cons_self), hsr hi0⟩
        · obtain ⟨b, hb, h⟩ := hsb (by omega)
          exact ⟨b, List.mem_append.mpr (.inl hb), h⟩
  · rintro σ H3 ⟨bvs, bs, x7, x8, x9, rfl, eb3, hBs, hbl, hbok, hsb, dk3, X3⟩
    have hbB : bs.length = B := by omega
    refine ⟨_, rfl, .ref bl, rfl, bl, bvs, rfl, .inl ⟨.inl (.inl eb3), fun t4 ht4 => ⟨(by show 2 ≤ sizeLine; decide), fun t5 ht5 => ?_⟩⟩⟩
    have s4 := same_new (o := .tup bvs) ht4
    have s5 := same_new (o := .tup [.int (cnt : Int), .ref t4]) ht5
    refine q _ ⟨cnt, bs⟩ (M + f) _ (((dk3.same s4).same s5).up (by omega)) (X8.trans (X3.trans (off_same_mono (s4.trans s5)))) (dp_tupN ht5 (.cons (.int _) (.cons (dp_tupN ht4 hBs) .nil))) ⟨by show cnt ≤ 3; omega, by show cnt ≤ M + f; omega, hNf, by show 0 < bs.length; omega, by show bs.length ≤ 9; omega, fun b hb => ?_⟩ (by show bs.length ≤ mo; omega)
    show BkOk (M + f) bs.length b
    rw [hbB]
    exact hbok b hb
end
end K48

set_option maxHeartbeats 4000000
/-! P50: graphs whose calls lose arguments, and whose returns lose operands, in plain Lean. -/
namespace P50
open PySem PySem.Spec PyProof.Rows L2 HG P52
/-! ### signatures -/
structure Sg where
  x : Str
  ks : List Nat
  b : Bool
abbrev Sg.D (s : Sg) : PyData := .tuple [.tuple (s.ks.map fun (n : Nat) => PyData.int (n : Int)), .bool s.b]
def look (S : List Sg) (x : Str) : Option Sg := S.find? fun s => decide (s.x = x)
def putS (S : List Sg) (s : Sg) : List Sg := if (look S s.x).isSome = true then S.map fun t => if t.x = s.x then s else t else S ++ [s]
/-- the places kept are some of the first four, in order -/
def AscK (ks : List Nat) : Prop := ∃ (n : Nat) (p : Nat → Bool), n ≤ 4 ∧ ks = (List.range n).filter p
structure SgOk (s : Sg) : Prop where
  nm : Nm s.x
  ks : AscK s.ks
theorem filter_min (p : Nat → Bool) (L : Nat) : ∀ n, ((List.range n).filter fun i => p i && decide (i < L)) = (List.range (min n L)).filter p
  | 0 => by simp
  | n + 1 => by
    rw [List.range_succ, List.filter_append, filter_min p L n]
    by_cases h : n < L
    · have e1 : min n L = n := by omega
      have e2 : min (n + 1) L = n + 1 := by omega
      rw [e1, e2, List.range_succ, List.filter_append]
      simp [List.filter, h]
    · have e1 : min n L = L := by omega
      have e2 : min (n + 1) L = L := by omega
      rw [e1, e2]
      simp [List.filter, h]
theorem keep_eq {ks : List Nat} (h : AscK ks) (L : Nat) : ((List.range L).filter fun i => decide (i ∈ ks)) = ks.filter fun k => decide (k < L) := by
  obtain ⟨n, p, _, rfl⟩ := h
  rw [List.filter_filter]
  have e1 : (List.range L).filter (fun i => decide (i ∈ (List.range n).filter p)) = (List.range L).filter fun i => p i && decide (i < n) := by
    apply List.filter_congr
    intro i _
    by_cases h1 : i < n <;> simp [List.mem_filter, h1]
  have e2 : (List.range n).filter (fun a => decide (a < L) && p a) = (List.range n).filter fun a => p a && decide (a < L) := by
    apply List.filter_congr
    intro i _
    exact Bool.and_comm _ _
  rw [e1, e2, filter_min, filter_min, Nat.min_comm]
def keepA (ks : List Nat) (as : List Opd) : List Opd := ((List.range as.length).filter fun i => decide (i ∈ ks)).map fun i => as.getD i (.w 0)
theorem keepA_mem {ks : List Nat} {as : List Opd} {a : Opd} (h : a ∈ keepA ks as) : a ∈ as := by
  obtain ⟨i, hi, rfl⟩ := List.mem_map.mp h
  have h1 := List.mem_range.mp (List.mem_filter.mp hi).1
  rw [List.getD_eq_getElem?_getD, List.getElem?_eq_getElem h1]
  exact List.getElem_mem h1
theorem keepA_len (ks : List Nat) (as : List Opd) : (keepA ks as).length ≤ as.length := by
  unfold keepA
  rw [List.length_map]
  refine Nat.le_trans (List.length_filter_le _ _) ?_
  rw [List.length_range]
  exact Nat.le_refl _
def lessR (S : List Sg) : Rw → Rw
  | .ca o x as => match look S x with
    | some s => .ca o x (keepA s.ks as)
    | none => .ca o x as
  | R => R
def lessB (S : List Sg) (b : Blk) : Blk := ⟨b.rows.map (lessR S), b.stop⟩
def lessG (S : List Sg) (g : Gr) : Gr := ⟨g.count, g.blocks.map (lessB S)⟩
def bareE : Stp → Stp
  | .rt _ => .rt none
  | E => E
def bareB (b : Blk) : Blk := ⟨b.rows, bareE b.stop⟩
def bareG (g : Gr) : Gr := ⟨g.count, g.blocks.map bareB⟩
theorem lessR_nil (R : Rw) : lessR [] R = R := by cases R <;> rfl
theorem lessG_nil (g : Gr) : lessG [] g = g := by
  unfold lessG
  have : ∀ l : List Blk, l.map (lessB []) = l := by
    intro l
    induction l with
    | nil => rfl
    | cons b r ih =>
      rw [List.map_cons, ih]
      congr 1
      unfold lessB
      have e : ∀ l : List Rw, l.map (lessR []) = l := by
        intro l
        induction l with
        | nil => rfl
        | cons R r ih => rw [List.map_cons, ih, lessR_nil]
      rw [e]
  rw [this]
theorem bare_less (S : List Sg) (g : Gr) : bareG (lessG S g) = lessG S (bareG g) := by
  unfold bareG lessG
  simp only [List.map_map]
  rfl
/-! ### rows of up to four arguments -/
def RwK (N : Nat) : Rw → Prop
  | .ca v x as => optOk N v ∧ Nm x ∧ as.length ≤ 4 ∧ ∀ a ∈ as, OpdOk N a
  | R => RwOk N R
structure BkK (N B : Nat) (b : Blk) : Prop where
  rows : ∀ R ∈ b.rows, RwK N R
  stop : StpOk N B b.stop
  len : b.rows.length ≤ 17
structure GrK (N : Nat) (g : Gr) : Prop where
  count : g.count ≤ 3
  cN : g.count < N
  small : N ≤ 10
  many : g.blocks.length ≤ 5
  blk : ∀ b ∈ g.blocks, BkK N 9 b
theorem rwK_of {N : Nat} {R : Rw} (h : RwOk N R) : RwK N R := by
  cases R with
  | ca v x as => exact ⟨h.1, h.2.1, by have := h.2.2.1; omega, h.2.2.2⟩
  | _ => exact h
theorem rwOk_of {N : Nat} {R : Rw} (h : RwK N R) (hn : ∀ v x as, R ≠ .ca v x as) : RwOk N R := by
  cases R with
  | ca v x as => exact absurd rfl (hn v x as)
  | _ => exact h
theorem rwK_less {N : Nat} {S : List Sg} {R : Rw} (h : RwK N R) : RwK N (lessR S R) := by
  cases R with
  | ca v x as =>
    show RwK N (match look S x with | some s => .ca v x (keepA s.ks as) | none => .ca v x as)
    cases look S x with
    | none => exact h
    | some s => exact ⟨h.1, h.2.1, Nat.le_trans (keepA_len _ _) h.2.2.1, fun a ha => h.2.2.2 a (keepA_mem ha)⟩
  | _ => exact h
theorem grK_less {N : Nat} {S : List Sg} {g : Gr} (h : GrK N g) : GrK N (lessG S g) := by
  refine ⟨h.count, h.cN, h.small, by unfold lessG; rw [List.length_map]; exact h.many, fun b hb => ?_⟩
  obtain ⟨b0, hb0, rfl⟩ := List.mem_map.mp hb
  have k := h.blk b0 hb0
  refine ⟨fun R hR => ?_, k.stop, by unfold lessB; rw [List.length_map]; exact k.len⟩
  obtain ⟨R0, hR0, rfl⟩ := List.mem_map.mp hR
  exact rwK_less (k.rows R0 hR0)
theorem grK_bare {N : Nat} {g : Gr} (h : GrK N g) : GrK N (bareG g) := by
  refine ⟨h.count, h.cN, h.small, by unfold bareG; rw [List.length_map]; exact h.many, fun b hb => ?_⟩
  obtain ⟨b0, hb0, rfl⟩ := List.mem_map.mp hb
  have k := h.blk b0 hb0
  refine ⟨k.rows, ?_, k.len⟩
  have hs := k.stop
  unfold bareB
  cases hb : b0.stop with
  | rt a => exact fun o z => by cases z
  | jp n => rw [hb] at hs; exact hs
  | br a n m => rw [hb] at hs; exact hs
  | ht i => rw [hb] at hs; exact hs
open P54 in
theorem fnRK {N : Nat} {R : Rw} (hN : N ≤ 10) (h : RwK N R) : Fine 0 66000 3 R.D := by
  cases R with
  | ca v x as =>
    obtain ⟨h1, h2, h3, h4⟩ := h
    have fa : Fine 0 (5 + 4 * (4100 + 2)) 2 (.tuple (as.map oD)) := Fine.tupN (n := 4) (d := 1) (W := 4100) (fun e he => by
      obtain ⟨a, ha, rfl⟩ := List.mem_map.mp he
      exact fnO hN (h4 a ha)) (by rw [List.length_map]; exact h3)
    have fw : Fine 0 16413 2 (.str "call") := (fnS 2 ⟨by decide +kernel, by decide +kernel⟩).up (Nat.le_refl _) (by decide) (Nat.le_refl _)
    refine (Fine.tupN (n := 4) (d := 2) (W := 16413) (ds := [.str "call", ovD v, .str x, .tuple (as.map oD)]) (fun e he => ?_) (Nat.le_refl 4)).up (Nat.le_refl _) (by decide) (Nat.le_refl _)
    simp only [List.mem_cons, List.not_mem_nil, or_false] at he
    rcases he with rfl | rfl | rfl | rfl
    · exact fw
    · exact (fnV 2 hN h1).up (Nat.le_refl _) (by decide) (Nat.le_refl _)
    · exact (fnS 2 h2).up (Nat.le_refl _) (by decide) (Nat.le_refl _)
    · exact fa.up (Nat.le_refl _) (by decide) (Nat.le_refl _)
  | _ => exact (fnR hN (rwOk_of h fun _ _ _ z => by cases z)).up (Nat.le_refl _) (by decide) (Nat.le_refl _)
open P54 in
theorem fnBK {N : Nat} {b : Blk} (hN : N ≤ 10) (h : BkK N 9 b) : Fine 0 1170000 5 b.D := by
  have hr : Fine 0 (5 + 17 * (66000 + 2)) 4 (.tuple (b.rows.map Rw.D)) := Fine.tupN (n := 17) (d := 3) (W := 66000) (fun e he => by
    obtain ⟨R, hR, rfl⟩ := List.mem_map.mp he
    exact fnRK hN (h.rows R hR)) (by rw [List.length_map]; exact h.len)
  have hs := fnE hN (Nat.le_refl 9) h.stop
  refine ⟨?_, ?_, ?_⟩
  · refine sm_tup.mpr fun d hd => ?_
    simp only [List.mem_cons, List.not_mem_nil, or_false] at hd
    rcases hd with rfl | rfl
    · exact hr.sm
    · exact hs.sm
  · have h1 := hr.wt
    have h2 := hs.wt
    simp only [wt_tup, wtAll] at h1 h2 ⊢
    omega
  · have h1 := hr.dp
    have h2 := hs.dp
    simp only [dp_tup, PyData.depthAll] at h1 h2 ⊢
    omega
open P54 in
theorem fnGK {N : Nat} {g : Gr} (h : GrK N g) : Fine 0 6000000 7 g.D := by
  have hb : Fine 0 (5 + 5 * (1170000 + 2)) 6 (.tuple (g.blocks.map Blk.D)) := Fine.tupN (n := 5) (d := 5) (W := 1170000) (fun e he => by
    obtain ⟨b, hb, rfl⟩ := List.mem_map.mp he
    exact fnBK h.small (h.blk b hb)) (by rw [List.length_map]; exact h.many)
  have hc : Fine 0 2000 6 (.int (g.count : Int)) := fnN 6 (by have := h.count; omega)
  refine ⟨?_, ?_, ?_⟩
  · refine sm_tup.mpr fun d hd => ?_
    simp only [List.mem_cons, List.not_mem_nil, or_false] at hd
    rcases hd with rfl | rfl
    · exact hc.sm
    · exact hb.sm
  · have h1 := hb.wt
    have h2 := hc.wt
    simp only [wt_tup, wtAll] at h1 h2 ⊢
    omega
  · have h1 := hb.dp
    have h2 := hc.dp
    simp only [dp_tup, PyData.depthAll] at h1 h2 ⊢
    omega
end P50

set_option maxHeartbeats 4000000
/-! P48: graphs without the stores to a name, in plain Lean. -/
namespace P48
open PySem PySem.Spec PyProof.Rows L2 HG P52 P50
/-- what goes: nm the name, n the known length (0: none) -/
def goes (nm : Str) (n : Nat) : Rw → Bool
  | .st x _ => decide (x = nm)
  | .wr x a _ => decide (x = nm) && (match a with
    | .w i => decide (i < (n : Int))
    | .v _ => false)
  | _ => false
def stayB (nm : Str) (n : Nat) (b : Blk) : Blk := ⟨b.rows.filter fun R => !goes nm n R, b.stop⟩
def stayG (nm : Str) (n : Nat) (g : Gr) : Gr := ⟨g.count, g.blocks.map (stayB nm n)⟩
/-- graphs with more rows: up to 19 in a block, up to 4 blocks -/
structure BkM (N B : Nat) (b : Blk) : Prop where
  rows : ∀ R ∈ b.rows, RwOk N R
  stop : StpOk N B b.stop
  len : b.rows.length ≤ 19
structure GrM (N : Nat) (g : Gr) : Prop where
  count : g.count ≤ 3
  small : N ≤ 10
  many : g.blocks.length ≤ 4
  blk : ∀ b ∈ g.blocks, BkM N 9 b
theorem grM_stay {N : Nat} {nm : Str} {n : Nat} {g : Gr} (h : GrM N g) : GrM N (stayG nm n g) := by
  refine ⟨h.count, h.small, by unfold stayG; rw [List.length_map]; exact h.many, fun b hb => ?_⟩
  obtain ⟨b0, hb0, rfl⟩ := List.mem_map.mp hb
  have k := h.blk b0 hb0
  exact ⟨fun R hR => k.rows R (List.mem_filter.mp hR).1, k.stop, Nat.le_trans (List.length_filter_le _ _) k.len⟩
open P54 in
theorem fnBM {N : Nat} {b : Blk} (hN : N ≤ 10) (h : BkM N 9 b) : Fine 0 900000 5 b.D := by
  have hr : Fine 0 (5 + 19 * (42000 + 2)) 4 (.tuple (b.rows.map Rw.D)) := Fine.tupN (n := 19) (d := 3) (W := 42000) (fun e he => by
    obtain ⟨R, hR, rfl⟩ := List.mem_map.mp he
    exact fnR hN (h.rows R hR)) (by rw [List.length_map]; exact h.len)
  have hs := fnE hN (Nat.le_refl 9) h.stop
  refine ⟨?_, ?_, ?_⟩
  · refine sm_tup.mpr fun d hd => ?_
    simp only [List.mem_cons, List.not_mem_nil, or_false] at hd
    rcases hd with rfl | rfl
    · exact hr.sm
    · exact hs.sm
  · have h1 := hr.wt
    have h2 := hs.wt
    simp only [wt_tup, wtAll] at h1 h2 ⊢
    omega
  · have h1 := hr.dp
    have h2 := hs.dp
    simp only [dp_tup, PyData.depthAll] at h1 h2 ⊢
    omega
open P54 in
theorem fnGM {N : Nat} {g : Gr} (h : GrM N g) : Fine 0 4000000 7 g.D := by
  have hb : Fine 0 (5 + 4 * (900000 + 2)) 6 (.tuple (g.blocks.map Blk.D)) := Fine.tupN (n := 4) (d := 5) (W := 900000) (fun e he => by
    obtain ⟨b, hb, rfl⟩ := List.mem_map.mp he
    exact fnBM h.small (h.blk b hb)) (by rw [List.length_map]; exact h.many)
  have hc : Fine 0 2000 6 (.int (g.count : Int)) := fnN 6 (by have := h.count; omega)
  refine ⟨?_, ?_, ?_⟩
  · refine sm_tup.mpr fun d hd => ?_
    simp only [List.mem_cons, List.not_mem_nil, or_false] at hd
    rcases hd with rfl | rfl
    · exact hc.sm
    · exact hb.sm
  · have h1 := hb.wt
    have h2 := hc.wt
    simp only [wt_tup, wtAll] at h1 h2 ⊢
    omega
  · have h1 := hb.dp
    have h2 := hc.dp
    simp only [dp_tup, PyData.depthAll] at h1 h2 ⊢
    omega
/-- the row's first two parts -/
theorem goes_row {nm : Str} {n : Nat} {R : Rw} (h : ∀ x r, R.rest = .str x :: r → x ≠ nm) : goes nm n R = false := by
  cases R with
  | st x a => exact decide_eq_false (h x _ rfl)
  | wr x a b =>
    show (decide (x = nm) && _) = false
    rw [decide_eq_false (h x _ rfl)]
    rfl
  | _ => rfl
theorem rest_str {R : Rw} {x : Str} {r : List PyData} (h : R.rest = .str x :: r) : (∃ a, R = .st x a) ∨ ∃ a b, R = .wr x a b := by
  cases R with
  | st y a => cases h; exact .inl ⟨a, rfl⟩
  | wr y a b => cases h; exact .inr ⟨a, b, rfl⟩
  | cw v i => cases h
  | cf v y => cases h
  | cp v u => cases h
  | op v y a b => cases h
  | ld v y => cases h
  | rd v y a => cases h
  | ca v y as => cases v <;> cases h
  | ap v f as => cases v <;> cases h
  | pr a => cases a <;> cases h
end P48

set_option maxHeartbeats 4000000
/-! HDT: {(..): v, ..}: a written dict whose keys are tuples of ints and texts. -/
namespace HG
open PySem PySem.Spec PyProof.Rows L2
def mergeT (kvs more : List (List Key × V)) : List (List Key × V) := more.foldl (fun acc kv => putK acc kv.1 kv.2) kvs
theorem length_mergeT : ∀ (more kvs : List (List Key × V)), (mergeT kvs more).length ≤ kvs.length + more.length
  | [], kvs => by show kvs.length ≤ kvs.length + 0; omega
  | p :: r, kvs => by
    have h1 := length_mergeT r (putK kvs p.1 p.2)
    have h2 := length_putK kvs p.1 p.2
    show (mergeT (putK kvs p.1 p.2) r).length ≤ _
    rw [List.length_cons]; omega
/-- what a display's keys are: the tuples' places and the values -/
structure KeyT where
  k : List Key
  a : Addr
  v : V
theorem carriesT {P : Program} {w : World} {H : Hp} {h : Heap} (ok : HOk P w H h) : ∀ {ks : List KeyT} {ws : List (Value × Value)}, VV (ks.map fun x => (V.ref x.a, x.v)) ws → (∀ x ∈ ks, H x.a = some (.tup (x.k.map kV))) →
    ∃ rs, CarriesH (tupleKind (mixKind P w)) h ws rs ∧ L2.KT H (ks.map fun x => (x.k, x.v)) rs
  | [], _, r, _ => by rw [List.map_nil] at r; cases r; exact ⟨[], True.intro, .nil⟩
  | p :: ks, _, r, hk => by
    rw [List.map_cons] at r
    cases r with
    | @cons a b as bs h t =>
      obtain ⟨rs, c, q⟩ := carriesT ok t fun x hx => hk x (List.mem_cons_of_mem _ hx)
      obtain ⟨b1, b2⟩ := b
      have e := hk p List.mem_cons_self
      exact ⟨(p.k, p.a, b2) :: rs, ⟨h.1, rfl, key_of ok e, c⟩, .cons ⟨rfl, e, h.2⟩ q⟩
theorem kt_merge {H : Hp} : ∀ {more : List (List Key × V)} {rs : List (List Key × Addr × Value)} {kvs : List (List Key × V)} {vs : List (List Key × Addr × Value)}, L2.KT H more rs → L2.KT H kvs vs → L2.KT H (mergeT kvs more) (storedAllH vs rs) := by
  intro more rs kvs vs r
  unfold L2.KT at r
  induction r generalizing kvs vs with
  | nil => intro q; exact q
  | @cons p q ps qs h t ih =>
    intro r0
    have e : L2.KT H (putK kvs p.1 p.2) (storedH vs q.1 q.2.1 q.2.2) := by
      have := r0.put p.1 h.2.1 h.2.2
      rw [← h.1]; exact this
    exact ih e
def tDispT (trs : List (TE × TE)) : TE := fun σ H Q => ∀ p, H p = none → tPairs trs σ (upd H p (.dT [])) fun ps H2 => H2 p = some (.dT []) ∧ ∃ ks : List KeyT, ps = ks.map (fun x => (V.ref x.a, x.v)) ∧ (∀ x ∈ ks, H2 x.a = some (.tup (x.k.map kV))) ∧ ks.length ≤ 15 ∧
  Q (.ref p) (upd H2 p (.dT (mergeT [] (ks.map fun x => (x.k, x.v)))))
theorem pe_dispT {X : Cx} {pos : Pos} {keys : List (Option Expr)} {values : List Expr} {trs : List (TE × TE)} (hu : X.A.units + 1 < cLine) (h : PPs X pos keys values trs) (hall : keys.all (·.isSome) = true) (hl : keys.length = values.length) (h0 : keys ≠ [])
    (h15 : keys.length ≤ 15) : PE X (.Dict keys values pos) (tDispT trs) := by
  refine ⟨fun pins s σ H Q I q => ?_⟩
  have hn := I.hok.fresh (Nat.le_refl s.heap.objs.size)
  have I1 := I.laid (a := s.heap.objs.size) (o := .dT []) (h' := s.heap.push { cls := .type "dict", data := .dict #[] }) (t' := s.toks) (fun _ _ q => Heap.get?_push_of_some _ q) (Nat.le_refl _) (dt_empty s.heap I.big)
  have hpl := pairTrees_length keys values X.env pos hall hl
  have hne : pairTrees keys values X.env pos ≠ [] := fun he => by
    rw [he] at hpl
    exact h0 (List.length_eq_zero_iff.mp hpl.symm)
  rw [arm_eval_Dict, zip_pairTrees keys values X.env pos hall hl, dictDisplay_pairs _ hne (by rw [hpl]; omega)]
  refine wpAny_bind (wpAny_standAt (wpAny_bind (wpAny_subDictH (knd := tupleKind (mixKind X.prog X.w)) (show X.A.units < cLine by omega) (by rw [hpl]; exact h15) (thn (h.run pins _ σ _ _ I1 (q _ hn)) fun ws s2 ⟨ps, H2, I2, rel, e, ks, ep, hk, lk, q2⟩ => ?_))))
  subst ep
  obtain ⟨rs, c, rk⟩ := carriesT (P := X.prog) (w := X.w) I2.hok rel hk
  obtain ⟨z, hd, vs0, r0, dd⟩ := dt_of I2.hok e
  cases r0
  refine ⟨rs, c, dd, fun h' tk dd' hs => wpAny_pure ⟨.ref s.heap.objs.size, _, ?_, rfl, q2⟩⟩
  have hz : (mergeT [] (ks.map fun x => (x.k, x.v))).length ≤ sizeLine := by
    have h1 := length_mergeT (ks.map fun x => (x.k, x.v)) []
    rw [List.length_nil, List.length_map] at h1
    rw [sizeLine_eq]; omega
  obtain ⟨o, es, ep, ho, h2, h3, h4, h6, h5⟩ := dd'
  refine d_write I2 (by rw [e]; exact True.intro) hs ⟨o, ho⟩ ⟨hz, hd, _, (kt_merge rk .nil).keeps fun c ys ec => ?_, o, es, ep, ho, h2, h3, h4, h5⟩
  rw [upd_ne (ne_of ec e (fun z => nomatch z))]
  exact ec
end HG

set_option maxHeartbeats 4000000
/-! HDT2: dicts with tuples as keys: dict(list of pairs), d.pop(k); x is not True of any value. -/
namespace HG
open PySem PySem.Spec PyProof.Rows L2
section
variable {X : Cx}
theorem refs_pairs {pins : List (Addr × Obj)} {σ : L2.St} {H : Hp} {s : Shared} (I : Inv X pins σ H s) : ∀ {ps : List Addr} {ks : List KeyT}, Paired (fun p (x : KeyT) => SqT X.K H p [.ref x.a, x.v]) ps ks → (∀ x ∈ ks, H x.a = some (.tup (x.k.map kV))) →
    ∃ rs : List (List Key × Addr × Value), L2.KT H (ks.map fun x => (x.k, x.v)) rs ∧ rs.length = ps.length ∧ ∀ (j : Nat) (q : List Key × Addr × Value), rs[j]? = some q → ∃ b : Addr, ps[j]? = some b ∧ s.heap.IsTuple b #[.ref q.2.1, q.2.2] ∧ H q.2.1 = some (.tup (q.1.map kV))
  | _, _, .nil, _ => ⟨[], .nil, rfl, fun j q e => by simp at e⟩
  | _, _, .cons (a := p) (b := x) h t, hk => by
    obtain ⟨rs, r, hl, hp⟩ := refs_pairs I t fun y hy => hk y (List.mem_cons_of_mem _ hy)
    obtain ⟨its, rv, ht, _⟩ := I.tuple h
    obtain ⟨u, y, ei, ru, ry⟩ := vals2 rv
    subst ei
    cases ru
    have ek := hk x List.mem_cons_self
    refine ⟨(x.k, x.a, y) :: rs, .cons ⟨rfl, ek, ry⟩ r, by rw [List.length_cons, List.length_cons, hl], fun j q e => ?_⟩
    cases j with
    | zero =>
      have e' : (x.k, x.a, y) = q := Option.some.inj e
      subst e'
      exact ⟨p, rfl, ht, ek⟩
    | succ j =>
      obtain ⟨b, e1, e2, e3⟩ := hp j q (by simpa using e)
      exact ⟨b, by simpa using e1, e2, e3⟩
/-- dict(xs), a list of pairs of a tuple and a value -/
theorem call_dictPT (hcalm : X.calm = true) (hu : X.A.units + 2 < cLine) : CallR X (.type "dict") (fun xs H Q => ∃ (a : Addr) (ps : List Addr) (ks : List KeyT), xs = [.ref a] ∧ SqL X.K H a (ps.map V.ref) ∧ Paired (fun p (x : KeyT) => SqT X.K H p [.ref x.a, x.v]) ps ks ∧
    (∀ x ∈ ks, H x.a = some (.tup (x.k.map kV))) ∧ ∀ p, H p = none → Q (.ref p) (upd H p (.dT (mergeT [] (ks.map fun x => (x.k, x.v)))))) := by
  intro pins s σ H xs us Q I r q
  obtain ⟨a, ps, ks, rfl, hq, hp, hk, q⟩ := q
  obtain ⟨u, rfl, rx⟩ := vals1 r
  cases rx
  obtain ⟨its, rv, pl, hz⟩ := I.list hq
  have ei := refs_at rv
  subst ei
  rw [List.length_map] at hz
  obtain ⟨rs, rel, hl, hpr⟩ := refs_pairs I hp hk
  obtain ⟨o, n, ho, hc, hd, hdat⟩ := pl
  have hcar : PairsHaveH (tupleKind (mixKind X.prog X.w)) (rs.map fun x => ((.ref x.2.1 : Value), x.2.2)).length (PairRel (rs.map fun x => ((.ref x.2.1 : Value), x.2.2))) rs := by
    refine ⟨(List.length_map _).symm, fun i key v h => ?_⟩
    have h : (rs.map fun x => ((.ref x.2.1 : Value), x.2.2))[i]? = some (key, v) := h
    rw [List.getElem?_map] at h
    obtain ⟨x, hx, e⟩ := Option.map_eq_some_iff.mp h
    injection e with e1 e2
    exact ⟨x.1, x.2.1, by rw [hx, ← e2], e1.symm⟩
  refine call_dict_pairsH (knd := tupleKind (mixKind X.prog X.w)) (ps := rs) (PairArg.list a ((ps.map Value.ref).toArray) (fun j => ps.getD j 0) (rs.map fun x => ((.ref x.2.1 : Value), x.2.2))) (I.ok.hd hcalm) (by show X.A.units + 1 + 1 < cLine; omega) ⟨⟨o, n, ho, hc, hd, hdat⟩, ?_, ?_⟩ hcar ?_ (by rw [List.length_map, hl]; exact hz) fun h' tk dd' hk' => ?_
  · rw [List.size_toArray, List.length_map, List.length_map, hl]
  · intro j k v hj
    rw [List.getElem?_map] at hj
    obtain ⟨x, hx, e⟩ := Option.map_eq_some_iff.mp hj
    injection e with e1 e2
    obtain ⟨b, hb, ht, _⟩ := hpr j x hx
    have eb : ps.getD j 0 = b := by rw [List.getD_eq_getElem?_getD, hb]; rfl
    refine ⟨by show _ = some (Value.ref (ps.getD j 0)); rw [eb]; simp [hb], .inl ?_⟩
    show s.heap.IsTuple (ps.getD j 0) #[k, v]
    rw [eb, ← e1, ← e2]
    exact ht
  · intro h' keep x hx
    obtain ⟨j, hj⟩ := List.getElem?_of_mem hx
    obtain ⟨b, _, _, ek⟩ := hpr j x hj
    obtain ⟨o2, items, n2, g1, g2, g3, g4⟩ := key_of I.hok ek
    have hne : x.2.1 ≠ s.heap.objs.size := Nat.ne_of_lt (Heap.lt_size g1)
    exact ⟨o2, items, n2, keep _ _ hne (fun z => nomatch z) g1, g2, g3, g4⟩
  · have hm : (s.heap.objs.size == sysModules) = false := beq_eq_false_iff_ne.mpr (Nat.ne_of_gt I.big)
    have hlen : (mergeT [] (ks.map fun x => (x.k, x.v))).length ≤ sizeLine := by
      refine Nat.le_trans (length_mergeT _ _) ?_
      rw [List.length_nil, Nat.zero_add, Paired.length rel, hl]
      exact hz
    have kk : ∀ b o, s.heap.get? b = some o → h'.get? b = some o := fun b o e => hk' b o (fun z => nomatch z) e
    have hn : H s.heap.objs.size = none := I.hok.fresh (Nat.le_refl _)
    obtain ⟨o2, es, ep, h1, h2, h3, h4, h6, h5⟩ := dd'
    refine ⟨.ref s.heap.objs.size, upd H s.heap.objs.size (.dT (mergeT [] (ks.map fun x => (x.k, x.v)))), I.laid (t' := tk) kk (Nat.le_refl _) ⟨hlen, hm, _, (kt_merge rel .nil).keeps fun c ys ec => ?_, o2, es, ep, h1, h2, h3, h4, h5⟩, rfl, q _ hn⟩
    rw [upd_ne (ne_of_none ec hn)]
    exact ec
/-- d.pop(k): the key is there -/
def rPopT1 : V → List V → Hp → VK → Prop := fun x xs H Q => ∃ (a : Addr) (kvs : List (List L2.Key × V)) (k : List L2.Key) (b : Addr) (v : V), x = .ref a ∧ xs = [.ref b] ∧ H a = some (.dT kvs) ∧ H b = some (.tup (k.map kV)) ∧ valV kvs k = some v ∧ Q v (upd H a (.dT (dropK kvs k)))
theorem mt_popT1 (hu : X.A.units + 1 < cLine) : MtR X "dict.pop" rPopT1 := by
  intro pins s σ H x xs v us Q I rx rxs h
  obtain ⟨a, kvs, k, b, v1, rfl, rfl, ha, hb, hv, q1⟩ := h
  cases rx
  obtain ⟨u1, rfl, r1⟩ := vals1 rxs
  cases r1
  obtain ⟨z, hd, xs', rel, dd⟩ := dt_of I.hok ha
  have hz : xs'.length ≤ sizeLine := by rw [← Paired.length rel]; exact z
  have r := rel.val k
  rw [hv] at r
  obtain ⟨p, hp, rp⟩ : ∃ p, atKey xs' k = some p ∧ RelV v1 p.2 := by
    cases ep : atKey xs' k with
    | none =>
      rw [ep] at r
      exact (show False from r).elim
    | some p =>
      rw [ep] at r
      exact ⟨p, rfl, r⟩
  refine call_pop_heap (hsz := hz) (knd := tupleKind (mixKind X.prog X.w)) (more := []) (.inl rfl) (PySem.F.args_dict_pop_2 _ _) (tupleKind_room_in1 hu) (key_of I.hok hb) hd dd hp fun h' dd' hs => ?_
  obtain ⟨o, es, ep, hq, h2, h3, h4, _, h5⟩ := dd'
  have I2 : Inv X pins σ (upd H a (.dT (dropK kvs k))) { s with heap := h', toks := s.toks + (tupleKind (mixKind X.prog X.w)).draws k } :=
    d_write I (by rw [ha]; exact True.intro) hs ⟨o, hq⟩ ⟨Nat.le_trans (dropK_le kvs k) z, hd, _, (L2.DX.KT_drop k rel).keeps (fun c ys ec => (by rw [upd_ne (ne_of ec ha (fun z => nomatch z))]; exact ec)), o, es, ep, hq, h2, h3, h4, h5⟩
  exact ⟨v1, _, I2, rp, q1⟩
/-- x is not True, x is not False -/
theorem op_isnotTF : OpR X (compareOp .IsNot) (fun x y H Q => ∃ b : Bool, y = .bl b ∧ Q (.bl (!decide (x = .bl b))) H) := by
  intro pins s σ H x y v u Q I rx ry h
  obtain ⟨b, rfl, q⟩ := h
  cases (show u = Value.bool b from ry)
  by_cases e : x = .bl b
  · subst e
    cases (show v = Value.bool b from rx)
    exact wpAny_isNot_self rfl ⟨.bl false, H, I, rfl, by simpa using q⟩
  · have q' : Q (.bl true) H := by simpa [e] using q
    cases x with
    | non => cases rx; exact wpAny_isNot_other rfl (fun z => nomatch z) ⟨.bl true, H, I, rfl, q'⟩
    | bl a => cases rx; exact wpAny_isNot_other rfl (fun z => e (congrArg V.bl (Value.bool.inj z))) ⟨.bl true, H, I, rfl, q'⟩
    | int i => obtain ⟨t, rfl⟩ := rx; exact wpAny_isNot_other rfl (fun z => nomatch z) ⟨.bl true, H, I, rfl, q'⟩
    | str i => obtain ⟨t, rfl⟩ := rx; exact wpAny_isNot_other rfl (fun z => nomatch z) ⟨.bl true, H, I, rfl, q'⟩
    | byt i => obtain ⟨t, rfl⟩ := rx; exact wpAny_isNot_other rfl (fun z => nomatch z) ⟨.bl true, H, I, rfl, q'⟩
    | flt i => obtain ⟨t, rfl⟩ := rx; exact wpAny_isNot_other rfl (fun z => nomatch z) ⟨.bl true, H, I, rfl, q'⟩
    | ref i => cases rx; exact wpAny_isNot_other rfl (fun z => nomatch z) ⟨.bl true, H, I, rfl, q'⟩
    | ty i => cases rx; exact wpAny_isNot_other rfl (fun z => nomatch z) ⟨.bl true, H, I, rfl, q'⟩
end
end HG

set_option maxHeartbeats 4000000
/-! HKg: D.get(k), D a written dict that has the key. -/
namespace HG
open PySem PySem.Spec PyProof.Rows L2
def tKGet (a : Addr) (kvs : List (Str × V)) (td ty : TE) : TE := fun σ H Q => td σ H fun x H1 => x = .ref a ∧ ty σ H1 fun y H2 => ∃ (z : Str) (v : V), y = .str z ∧ tabGet kvs z = some v ∧ Q v H2
section
variable {X : Cx} {o e : Expr} {apos cpos : Pos} {td ty : TE} {a : Addr} {kvs : List (Str × V)}
theorem pe_kget1 (T : KTab X.K X.w a kvs) (ho : PE X o td) (he : PE X e ty) (m : M1 X o "get" apos e cpos) : PE X (.Call (.Attribute o "get" apos) [e] [] cpos) (tKGet a kvs td ty) := by
  refine ⟨fun pins s σ H Q I h => ?_⟩
  obtain ⟨es, n, D⟩ := T.dict
  refine wpAny_Call_method m.base m.few m.line PySem.F.plainAttrs_dict PySem.F.slot_dict_get PySem.F.type_dict_get (thn (ho.run pins s σ H _ I h) fun u s1 ⟨x, H1, I1, rx, ex, q1⟩ => ?_)
  subst ex
  obtain rfl : u = Value.ref a := rx
  have M1 := PySem.W.mapOf_K (prog := X.prog) (w := X.w) I1.kIn D.at_ D.lit
  refine ⟨M1.typeIs, M1.noDict, ?_⟩
  rw [m.trees]
  refine Calls.callWith_builtin rfl (Calls.evalArgs_plain (Calls.spliced_cons (thn (he.run pins s1 σ H1 _ I1 q1) fun iv s2 ⟨y, H2, I2, ry, z, v, ey, hg, q2⟩ => Calls.spliced_nil ?_)))
  subst ey
  obtain ⟨t, rfl⟩ := (show ∃ t, iv = Value.str z t from ry)
  have M2 := PySem.W.mapOf_K (prog := X.prog) (w := X.w) I2.kIn D.at_ D.lit
  rcases ktab_get T z with ⟨v0, u0, e1, e2, e3⟩ | ⟨e1, e2⟩
  · rw [hg] at e1
    cases e1
    refine call_meetsIn PySem.F.slot_dict_get M2.typeIs PySem.F.entry_dict_get (PySem.F.args_dict_get_2 _ _) (meets_dict_get (strKind X.prog X.w) a (PySem.strKind_is X.prog X.w z t) D.low) ⟨_, M2, ?_⟩
    rw [PySem.W.find_K D.at_ e2]
    exact ⟨v, H2, I2.tok _, e3, q2⟩
  · rw [hg] at e1
    cases e1
end
end HG

set_option maxHeartbeats 4000000
/-! HKo: D.get(k), D a written dict, whether it has the key or not. -/
namespace HG
open PySem PySem.Spec PyProof.Rows L2
def tKGetO (a : Addr) (kvs : List (Str × V)) (td ty : TE) : TE := fun σ H Q => td σ H fun x H1 => x = .ref a ∧ ty σ H1 fun y H2 => ∃ (z : Str), y = .str z ∧ Q ((tabGet kvs z).getD .non) H2
section
variable {X : Cx} {o e : Expr} {apos cpos : Pos} {td ty : TE} {a : Addr} {kvs : List (Str × V)}
theorem pe_kgetO (T : KTab X.K X.w a kvs) (ho : PE X o td) (he : PE X e ty) (m : M1 X o "get" apos e cpos) : PE X (.Call (.Attribute o "get" apos) [e] [] cpos) (tKGetO a kvs td ty) := by
  refine ⟨fun pins s σ H Q I h => ?_⟩
  obtain ⟨es, n, D⟩ := T.dict
  refine wpAny_Call_method m.base m.few m.line PySem.F.plainAttrs_dict PySem.F.slot_dict_get PySem.F.type_dict_get (thn (ho.run pins s σ H _ I h) fun u s1 ⟨x, H1, I1, rx, ex, q1⟩ => ?_)
  subst ex
  obtain rfl : u = Value.ref a := rx
  have M1 := PySem.W.mapOf_K (prog := X.prog) (w := X.w) I1.kIn D.at_ D.lit
  refine ⟨M1.typeIs, M1.noDict, ?_⟩
  rw [m.trees]
  refine Calls.callWith_builtin rfl (Calls.evalArgs_plain (Calls.spliced_cons (thn (he.run pins s1 σ H1 _ I1 q1) fun iv s2 ⟨y, H2, I2, ry, z, ey, q2⟩ => Calls.spliced_nil ?_)))
  subst ey
  obtain ⟨t, rfl⟩ := (show ∃ t, iv = Value.str z t from ry)
  have M2 := PySem.W.mapOf_K (prog := X.prog) (w := X.w) I2.kIn D.at_ D.lit
  rcases ktab_get T z with ⟨v0, u0, e1, e2, e3⟩ | ⟨e1, e2⟩
  · rw [e1] at q2
    refine call_meetsIn PySem.F.slot_dict_get M2.typeIs PySem.F.entry_dict_get (PySem.F.args_dict_get_2 _ _) (meets_dict_get (strKind X.prog X.w) a (PySem.strKind_is X.prog X.w z t) D.low) ⟨_, M2, ?_⟩
    rw [PySem.W.find_K D.at_ e2]
    exact ⟨v0, H2, I2.tok _, e3, q2⟩
  · rw [e1] at q2
    refine call_meetsIn PySem.F.slot_dict_get M2.typeIs PySem.F.entry_dict_get (PySem.F.args_dict_get_2 _ _) (meets_dict_get (strKind X.prog X.w) a (PySem.strKind_is X.prog X.w z t) D.low) ⟨_, M2, ?_⟩
    rw [PySem.W.find_K D.at_ e2]
    exact ⟨.non, H2, I2.tok _, rfl, q2⟩
end
end HG

set_option maxHeartbeats 4000000
/-! HKn: not in, by the written part K; in among numbers. -/
namespace HG
open PySem PySem.Spec PyProof.Rows L2
theorem op_notIn_seqK {X : Cx} {K : PySem.W.Frag} (h : X.K = K) : OpR X (compareOp .NotIn) (rIn K true) := h ▸ op_notIn_seq
theorem in_nats (m : Nat) : ∀ l : List Nat, inV (.int (m : Int)) (l.map fun n : Nat => V.int (n : Int)) = decide (m ∈ l)
  | [] => by simp [inV]
  | n :: l => by
    have ih := in_nats m l
    have e : (inV (.int (m : Int)) ((n :: l).map fun n : Nat => V.int (n : Int))) = (eqV (.int (n : Int)) (.int (m : Int)) || inV (.int (m : Int)) (l.map fun n : Nat => V.int (n : Int))) := rfl
    rw [e, ih]
    have e2 : eqV (.int (n : Int)) (.int (m : Int)) = decide (m = n) := by
      by_cases h : m = n
      · subst h
        simp [eqV]
      · have h2 : ¬ ((n : Int) = (m : Int)) := by omega
        simp [eqV, h, h2]
    rw [e2]
    by_cases h : m = n
    · simp [h]
    · simp [h]
theorem flat_nats (l : List Nat) : (l.map fun n : Nat => V.int (n : Int)).all flatV = true := by
  rw [List.all_eq_true]
  intro x hx
  obtain ⟨k, _, rfl⟩ := List.mem_map.mp hx
  rfl
end HG

set_option maxHeartbeats 4000000
/-! HL: ints and bools alike: x + i, x - i, int(x), str(x). -/
namespace HG
open PySem PySem.Spec PyProof.Rows L2
def b2I (b : Bool) : Int := if b = true then 1 else 0
section
variable {X : Cx}
def rB (g : Int → Int → V) : R2 := fun x y H Q => ∃ b j, x = .bl b ∧ y = .int j ∧ Q (g (b2I b) j) H
theorem op_addBI : OpR X (binaryOp .Add) (rB fun i j => .int (i + j)) := by
  intro pins s σ H x y v u Q I rx ry h
  obtain ⟨b, j, rfl, rfl, q⟩ := h
  obtain rfl : v = .bool b := rx
  obtain ⟨t, rfl⟩ := ry
  exact PySem.IntBool.add_bool_int ⟨.int _, H, I.tok _, ⟨_, rfl⟩, q⟩
theorem op_subBI : OpR X (binaryOp .Sub) (rB fun i j => .int (i - j)) := by
  intro pins s σ H x y v u Q I rx ry h
  obtain ⟨b, j, rfl, rfl, q⟩ := h
  obtain rfl : v = .bool b := rx
  obtain ⟨t, rfl⟩ := ry
  exact PySem.IntBool.sub_bool_int ⟨.int _, H, I.tok _, ⟨_, rfl⟩, q⟩
theorem op_addIB : OpR X (binaryOp .Add) (fun x y H Q => (rI0 fun i j => .int (i + j)) x y H Q ∨ (rB fun i j => .int (i + j)) x y H Q) := op_add.or op_addBI
theorem op_subIB : OpR X (binaryOp .Sub) (fun x y H Q => (rI0 fun i j => .int (i - j)) x y H Q ∨ (rB fun i j => .int (i - j)) x y H Q) := op_sub.or op_subBI
def rIntIB : List V → Hp → VK → Prop := fun xs H Q => (∃ i, xs = [.int i] ∧ Q (.int i) H) ∨ ∃ b, xs = [.bl b] ∧ Q (.int (b2I b)) H
theorem call_intIB : CallR X (.type "int") rIntIB := by
  intro pins s σ H xs us Q I r h
  rcases h with ⟨i, rfl, q⟩ | ⟨b, rfl, q⟩
  · obtain ⟨u, rfl, t, rfl⟩ := vals1 r
    exact PySem.call_int_int ⟨.int _, H, I, ⟨_, rfl⟩, q⟩
  · obtain ⟨u, rfl, r1⟩ := vals1 r
    obtain rfl : u = .bool b := r1
    exact PySem.call_int_bool ⟨.int _, H, I.tok _, ⟨_, rfl⟩, q⟩
def bText (b : Bool) : Str := if b then "True" else "False"
def rStrIB : List V → Hp → VK → Prop := fun xs H Q => (∃ i, xs = [.int i] ∧ i.natAbs.log2 < 1920 ∧ Q (.str (toString i)) H) ∨ ∃ b, xs = [.bl b] ∧ Q (.str (bText b)) H
theorem call_strIB : CallR X (.type "str") rStrIB := by
  intro pins s σ H xs us Q I r h
  rcases h with h | ⟨b, rfl, q⟩
  · exact call_str_int pins s σ H xs us Q I r h
  · obtain ⟨u, rfl, r1⟩ := vals1 r
    obtain rfl : u = .bool b := r1
    exact PySem.P.str_of_bool ⟨.str _, H, I.tok _, ⟨_, rfl⟩, q⟩
end
end HG

set_option maxHeartbeats 4000000
/-! HP: defs and methods that may raise; raise of an own error without fields; isinstance of the caught one. -/
namespace HG
open PySem PySem.Spec PyProof.Rows L2 PySem.ErrX
section
variable {P : Program} {w : World} {K : PySem.W.Frag} {mg : Str → Option Value} {base : Heap}
/-- a def that may raise, by its body -/
theorem okX {x qual : Str} {params : Arguments} {body : List Stmt} {scope : Scope} {dvs : List V} {kws : List (Str × V)} {f : Addr} {fd : FuncData} {N ps : List Str} {k : Nat} {sp : Sp}
    (F : FunD K x qual params body scope dvs kws f fd) (S : FnScope N ps scope) (len : ∀ vs H Q E, sp vs H Q E → vs.length = ps.length)
    (hbody : ∀ (cdv : Value) (A : Around) (outer : List Env) (s : Shared) (H : Hp) (vs : List V) (Q : VK) (E : XK), Room k (A.deeper (envOfC qual scope s.heap.objs.size f cdv)) → sp vs H Q E →
      ∃ t, PSs (cxOf (L2.CX P w) P w K mg base N qual scope f cdv A outer s H E) body t ∧ t { nx := fun _ H' => Q .non H', rt := Q } (start N vs) H) : FnOk P w K mg base (L2.CX P w) (k + 1) f fd ps sp := by
  obtain ⟨oc, od, dV, kV, doc, pm, an, cdv, ct, osl, rfl, lk, hcd, _, _⟩ := F.ex
  exact fn_of lk hcd S len fun A outer s H vs Q E hr hsp => hbody cdv A outer s H vs Q E hr hsp
structure CalX (P : Program) (w : World) (K : PySem.W.Frag) (mg : Str → Option Value) (base : Heap) (x : Str) (k : Nat) (ps : List Str) (sp : Sp) : Prop where
  ex : ∃ fd, FnOk P w K mg base (L2.CX P w) k (He.ga K x) fd ps sp ∧ Binds K fd ps []
  gl : mg x = some (.ref (He.ga K x))
  kp : PySem.W.keepIn K (.ref (He.ga K x)) = true
structure MetX (P : Program) (w : World) (K : PySem.W.Frag) (mg : Str → Option Value) (base : Heap) (k : Nat) (C : Addr) (m : Str) (sp : Sp) : Prop where
  ex : ∃ (f : Addr) (fd : FuncData) (ps : List Str), Cls K C ∧ Meth K C m f ∧ FnOk P w K mg base (L2.CX P w) k f fd ps sp ∧ Binds K fd ps []
end
section
variable {X : Cx} {k j : Nat} {C : Addr} {x m : Str} {ps : List Str} {sp : Sp} {E : XK} {W : WX} {p pos apos : Pos} {e o : Expr} {es : List Expr} {ta : TE} {t : TA}
/-- in a body that hands its errors on: W of Takes -/
theorem pe_mtX {pl : Sem Bool} (c : MetX X.prog X.w X.K X.mg X.base k C m sp) (hr : Room j X.A) (hk : k ≤ j) (tk : Takes X (fun cls d _ H => E cls d H)) (he : PE X o ta) (ha : PA X (e :: es) t)
    (hst : starEach (e :: es) X.env = (false, eval e X.env) :: starEach es X.env := by rfl) (hpl : (backTo pos (starEach es X.env)).any (·.1) = false := by rfl)
    (ht : eval (.Call (.Attribute o m apos) (e :: es) [] pos) X.env = (do
      let ov ← eval o X.env
      standAt apos.atName
      let (f, first) ← holding [ov] (getMethod ov m pl)
      callWith pos f first (backTo pos (starEach (e :: es) X.env)) (backToKw pos (keywordEach [] X.env))) := by rfl) :
    PE X (.Call (.Attribute o m apos) (e :: es) [] pos) (tMeth C m sp [] E ta t) := by
  obtain ⟨f, fd, ps, c1, c2, F, b⟩ := c.ex
  exact pe_meth he c1 c2 F (hr.mono hk) b .nil (passes_call tk fun _ _ _ _ h => h) ha hst hpl ht
theorem pe_mt0X {pl : Sem Bool} (c : MetX X.prog X.w X.K X.mg X.base k C m sp) (hr : Room j X.A) (hk : k ≤ j) (tk : Takes X (fun cls d _ H => E cls d H)) (he : PE X o ta)
    (ht : eval (.Call (.Attribute o m apos) [] [] pos) X.env = (do
      let ov ← eval o X.env
      standAt apos.atName
      let (f, first) ← holding [ov] (getMethod ov m pl)
      callWith pos f first (backTo pos (starEach [] X.env)) (backToKw pos (keywordEach [] X.env))) := by rfl) :
    PE X (.Call (.Attribute o m apos) [] [] pos) (tMeth C m sp [] E ta tNil) := by
  obtain ⟨f, fd, ps, c1, c2, F, b⟩ := c.ex
  exact pe_meth0 he c1 c2 F (hr.mono hk) b .nil (passes_call tk fun _ _ _ _ h => h) ht
theorem pe_calX (c : CalX X.prog X.w X.K X.mg X.base x k ps sp) (hr : Room k X.A) (tk : Takes X (fun cls d _ H => E cls d H)) (hg : Gl X x) (ha : PA X (e :: es) t)
    (hdb : (x == ("__debug__" : Str)) = false := by decide)
    (he : starEach (e :: es) X.env = (false, eval e X.env) :: starEach es X.env := by rfl)
    (hpl : (backTo pos (starEach es X.env)).any (·.1) = false := by rfl) : PE X (.Call (.Name x p) (e :: es) [] pos) (tCall sp [] E t) := by
  obtain ⟨fd, F, b⟩ := c.ex
  exact pe_call F hr hg c.gl c.kp b .nil (passes_call tk fun _ _ _ _ h => h) ha hdb he hpl
/-- in a try -/
theorem pe_calS (c : CalX X.prog X.w X.K X.mg X.base x k ps sp) (hr : Room k X.A) (tk : Takes X W) (hg : Gl X x) (ha : PA X (e :: es) t)
    (hdb : (x == ("__debug__" : Str)) = false := by decide)
    (he : starEach (e :: es) X.env = (false, eval e X.env) :: starEach es X.env := by rfl)
    (hpl : (backTo pos (starEach es X.env)).any (·.1) = false := by rfl) : PE X (.Call (.Name x p) (e :: es) [] pos) (tCallS sp (WE W) t) := by
  obtain ⟨fd, F, b⟩ := c.ex
  exact pe_callS F hr hg c.gl c.kp b (fun σ => passAt tk σ) ha hdb he hpl
/-- C() to be raised -/
theorem pmk_err0 {q : Str} {args : Arguments} {body : List Stmt} {scope : Scope} (E : ErrC X.prog X.K X.mg x q args body scope []) (R : ExcC X.K (He.ga X.K x)) (ty : PySem.W.typeIn X.K (.ref (He.ga X.K x)) = some (.type "type")) (hr : Room 1 X.A) (hg : Gl X x)
    (hb : ∀ (e : Value) (doc pm ct : Value) (an : Option Addr) (cda cc : Addr), bindArgs (PySem.W.ksFn "__init__" q args body scope .none .none doc pm an (.ref cda) ct cc) ⟨[e], []⟩ = pure [(("self" : Str), e)])
    (hdb : (x == ("__debug__" : Str)) = false := by decide) :
    PMk X (.Call (.Name x p) [] [] pos) (fun _ H Q => Q (.ref (He.ga X.K x)) none H) := by
  obtain ⟨fI, T⟩ := E.t
  intro pins s σ H Q I h
  refine wpAny_Call_Name_kw (ld_glob I hg E.gl ?_ hdb)
  refine PySem.W.callWith_K0 I.kIn T.kC ?_
  have e0 := I.env0
  obtain ⟨mb, hmb, hbb⟩ := e0.mod.blt
  have bk : ∀ b o, X.base.get? b = some o → s.heap.get? b = some o := fun b o e => (e0.bs b o e).1
  obtain ⟨hp, g, dr, tk, os⟩ := s
  refine err_make (g := g) (d := dr) (os := os) T I.kIn hr (e0.mod.glob.keeps bk) E.sp (hmb.keeps bk) ((hbb _ (by decide)).trans PyProof.Rows.Boot.«super») (e0.mod.nolimit.keeps bk) (us := []) rfl (Nat.zero_le _) hb (fun h' tk' k hat => ?_)
  obtain ⟨L, _, at_⟩ := hat
  have ng : hp.get? (hp.objs.size + 1) = none := by
    cases z : hp.get? (hp.objs.size + 1) with
    | none => rfl
    | some o => exact absurd (Heap.lt_size z) (Nat.not_lt.mpr (Nat.le_succ _))
  rcases at_ with ⟨_, t1, ho⟩ | ⟨hne, _⟩
  · exact ⟨hp.objs.size + 1, _, _, ⟨hp, g, dr, tk, os⟩, H, .ref (He.ga X.K x), none, rfl, I, k, ng, ho, ⟨rfl, rfl⟩, rfl, rfl, I.hok.gone ng, rfl, I.bare, raises_own R.hs ty, h⟩
  · exact absurd rfl hne
def tRaise0 (W : WX) (C : Addr) : TS := fun _ σ H => W (.ref C) none σ H
theorem ps_raise0 {q : Str} {args : Arguments} {body : List Stmt} {scope : Scope} {pos2 : Pos} (hc : X.calm = true) (E : ErrC X.prog X.K X.mg x q args body scope []) (R : ExcC X.K (He.ga X.K x)) (ty : PySem.W.typeIn X.K (.ref (He.ga X.K x)) = some (.type "type")) (hr : Room 1 X.A) (tk : Takes X W) (hg : Gl X x)
    (hb : ∀ (e : Value) (doc pm ct : Value) (an : Option Addr) (cda cc : Addr), bindArgs (PySem.W.ksFn "__init__" q args body scope .none .none doc pm an (.ref cda) ct cc) ⟨[e], []⟩ = pure [(("self" : Str), e)])
    (hdb : (x == ("__debug__" : Str)) = false := by decide) :
    PS X (.Raise (some (.Call (.Name x p) [] [] pos)) none pos2) (tRaise0 W (He.ga X.K x)) := ps_raise hc tk (pmk_err0 E R ty hr hg hb hdb)
end
/-! ### isinstance(e, c), e the exception that the suite holds, without fields -/
def rIsC (K : PySem.W.Frag) (a : Addr) (cls : Value) (d : Option Addr) : List V → Hp → VK → Prop := fun xs H Q => ∃ (D : Addr) (c : V) (u : Value) (b : Bool), cls = .ref D ∧ d = none ∧ ExcC K D ∧ xs = [.ref a, c] ∧ ClsV c u ∧ PySem.W.kitOne K (.ref D) u = some b ∧ Q (.bl b) H
def rIsCT (K : PySem.W.Frag) (a : Addr) (cls : Value) (d : Option Addr) : List V → Hp → VK → Prop := fun xs H Q => ∃ (D tp : Addr) (cs : List V) (us : List Value) (b : Bool), cls = .ref D ∧ d = none ∧ ExcC K D ∧ xs = [.ref a, .ref tp] ∧ H tp = some (.tup cs) ∧ Paired ClsV cs us ∧ PySem.W.kitAny K (.ref D) us = some b ∧ Q (.bl b) H
section
variable {X : Cx} {a : Addr} {oe : Obj} {cls : Value} {d : Option Addr} {pn : List (Addr × Obj)}
theorem suite_at {pins : List (Addr × Obj)} {σ : L2.St} {H : Hp} {s : Shared} {D : Addr} (I : Inv (X.suite a ((a, oe) :: pn)) pins σ H s) (hz : Zc (.ref D) none oe) (hf : ∃ vs, oe.data = .fields vs) : PySem.W.InstAt s.heap a oe D none := by
  obtain ⟨hget, _⟩ := I.pin (a, oe) (List.mem_append.mpr (.inl List.mem_cons_self))
  obtain ⟨vs, hv⟩ := hf
  obtain ⟨oc, od, oda, osl⟩ := oe
  obtain ⟨h1, h2⟩ := hz
  dsimp only at h1 h2 hv
  subst h1 h2 hv
  exact ⟨hget, rfl, rfl, trivial⟩
theorem call_isC (hz : Zc cls d oe) (hf : ∃ vs, oe.data = .fields vs) : CallR (X.suite a ((a, oe) :: pn)) (.builtin "isinstance") (rIsC X.K a cls d) := by
  intro pins s σ H xs us Q I r h
  obtain ⟨D, c, u, b, rfl, rfl, C, rfl, k, e, q⟩ := h
  obtain ⟨u1, u2, rfl, r1, r2⟩ := vals2 r
  cases (show u1 = Value.ref a from r1)
  have e2 := k.eq r2
  subst e2
  exact PySem.W.kia_one (PySem.W.handS_kitx_exc C.hg C.hk C.hs C.hd C.ha C.hn C.ht C.hm) I.kIn (suite_at I hz hf) e (fun z => nomatch z) fun tk => ⟨.bl b, H, I.kept (t' := tk) fun _ _ z => z, rfl, q⟩
theorem call_isCT (hz : Zc cls d oe) (hf : ∃ vs, oe.data = .fields vs) : CallR (X.suite a ((a, oe) :: pn)) (.builtin "isinstance") (rIsCT X.K a cls d) := by
  intro pins s σ H xs us Q I r h
  obtain ⟨D, tp, cs, ws, b, rfl, rfl, C, rfl, hT, k, e, q⟩ := h
  obtain ⟨u1, u2, rfl, r1, r2⟩ := vals2 r
  cases (show u1 = Value.ref a from r1)
  cases (show u2 = Value.ref tp from r2)
  obtain ⟨_, its, rv, o, h1, h2, n, h3⟩ := (show ObjOk X.prog X.w H s.heap tp (.tup cs) from I.hok tp _ hT)
  have e3 := ClsV.all k rv
  subst e3
  obtain ⟨oc, od, dt, sl⟩ := o
  simp only at h2 h3
  subst h2 h3
  exact PySem.W.kia_tup (PySem.W.handS_kitx_exc C.hg C.hk C.hs C.hd C.ha C.hn C.ht C.hm) I.kIn (suite_at I hz hf) h1 e (fun z => nomatch z) fun tk => ⟨.bl b, H, I.kept (t' := tk) fun _ _ z => z, rfl, q⟩
end
end HG

set_option maxHeartbeats 4000000
/-! HJoin: several ways through an expression or a statement join in one: its reading asks for an invariant first. -/
namespace HG
open PySem PySem.Spec PyProof.Rows L2
section
variable {X : Cx}
def tJoin (t : TE) : TE := fun σ H Q => ∃ I : V → Hp → Prop, t σ H I ∧ ∀ v H', I v H' → Q v H'
theorem pe_join {e : Expr} {t : TE} (h : PE X e t) : PE X e (tJoin t) := ⟨fun pins s σ H Q I ⟨J, q, w⟩ =>
  thn (h.run pins s σ H J I q) fun u s' ⟨v, H', I', r, j⟩ => ⟨v, H', I', r, w v H' j⟩⟩
def sJoin (t : TS) : TS := fun D σ H => ∃ I : L2.St → Hp → Prop, t { D with nx := I } σ H ∧ ∀ σ' H', I σ' H' → D.nx σ' H'
theorem sp_nx {pins : List (Addr × Obj)} {D : Ends} {I : L2.St → Hp → Prop} (w : ∀ σ' H', I σ' H' → D.nx σ' H') {f : Flow} {s' : Shared} (h : SP X pins { D with nx := I } f s') : SP X pins D f s' := by
  cases f with
  | next =>
    obtain ⟨σ', H', I', j⟩ := h
    exact ⟨σ', H', I', w σ' H' j⟩
  | brk => exact h
  | cont => exact h
  | ret u => exact h
theorem ps_join {st : Stmt} {t : TS} (h : PS X st t) : PS X st (sJoin t) := ⟨fun pins s σ H D I ⟨J, q, w⟩ =>
  thn (h.run pins s σ H { D with nx := J } I q) fun f s' q' => sp_nx w q'⟩
theorem pss_join {st : List Stmt} {t : TS} (h : PSs X st t) : PSs X st (sJoin t) := ⟨fun pins s σ H D I ⟨J, q, w⟩ =>
  thn (h.run pins s σ H { D with nx := J } I q) fun f s' q' => sp_nx w q'⟩
def ttJoin (t : TT) : TT := fun σ H Q => ∃ I : Bool → Hp → Prop, t σ H I ∧ ∀ b H', I b H' → Q b H'
theorem pt_join {e : Expr} {t : TT} (h : PT X e t) : PT X e (ttJoin t) := ⟨fun pins s σ H Q I ⟨J, q, w⟩ =>
  thn (h.run pins s σ H J I q) fun u s' ⟨H', I', j⟩ => ⟨H', I', w u H' j⟩⟩
theorem pe_ifExpJ {c : Expr} {a b : Expr} {pos : Pos} {t : TT} {ta tb : TE} (hc : PT X c t) (ha : PE X a ta) (hb : PE X b tb) : PE X (.IfExp c a b pos) (tJoin (tIf t ta tb)) := pe_join (pe_ifExp hc ha hb)
/-- an expression that is not reached -/
theorem pe_never {e : Expr} : PE X e (fun _ _ _ => False) := ⟨fun _ _ _ _ _ _ h => h.elim⟩
end
/-! ### a def with defaults, some of them not handed in -/
structure CalD (P : Program) (w : World) (K : PySem.W.Frag) (mg : Str → Option Value) (base : Heap) (x : Str) (k : Nat) (ps : List Str) (dvs : List V) (sp : Sp) : Prop where
  ex : ∃ fd ds, FnOk P w K mg base CX0 k (He.ga K x) fd ps sp ∧ Vals dvs ds ∧ Binds K fd ps ds
  gl : mg x = some (.ref (He.ga K x))
  kp : PySem.W.keepIn K (.ref (He.ga K x)) = true
theorem pe_calD {X : Cx} {x : Str} {k : Nat} {ps : List Str} {dvs : List V} {sp : Sp} {p pos : Pos} {e : Expr} {es : List Expr} {t : TA} (C : CalD X.prog X.w X.K X.mg X.base x k ps dvs sp) (hr : Room k X.A) (hg : Gl X x) (ha : PA X (e :: es) t)
    (hdb : (x == ("__debug__" : Str)) = false := by decide)
    (he : starEach (e :: es) X.env = (false, eval e X.env) :: starEach es X.env := by rfl)
    (hpl : (backTo pos (starEach es X.env)).any (·.1) = false := by rfl) : PE X (.Call (.Name x p) (e :: es) [] pos) (tCall sp dvs E0 t) := by
  obtain ⟨fd, ds, F, hd, b⟩ := C.ex
  exact pe_call F hr hg C.gl C.kp b hd pass0 ha hdb he hpl
end HG

set_option maxHeartbeats 4000000
namespace K48
open PySem PySem.Spec PyProof.Rows L2 HG P52 P50 P48
theorem cr_sumK {X : Cx} {K : PySem.W.Frag} (h : X.K = K) (hc : X.calm = true) : CallR X (.builtin "sum") (rSum K) := h ▸ cr_sum hc
theorem str_dec (a b : Str) : decide (V.str a = V.str b) = decide (a = b) := by
  by_cases h : a = b
  · rw [decide_eq_true h, h]
    exact decide_eq_true rfl
  · rw [decide_eq_false h]
    exact decide_eq_false fun e => by injection e with e; exact h e
theorem sqT_same {K : PySem.W.Frag} {H H' : Hp} {a : Addr} {xs : List V} (s : Same H H') (h : SqT K H a xs) : SqT K H' a xs := by
  rcases h with (z | ⟨o, z⟩) | z
  · exact .inl (.inl (s _ _ z))
  · exact .inl (.inr ⟨o, s _ _ z⟩)
  · exact .inr z
theorem dpAll_nV {K : PySem.W.Frag} {H : Hp} : ∀ {ks : List Nat} {xs : List V}, DpAll K H xs (ks.map nD) → xs = ks.map nV
  | [], _, .nil => rfl
  | k :: ks, _, .cons h r => by
    cases h
    rw [dpAll_nV r]
    rfl
theorem tupN2 {K : PySem.W.Frag} {H : Hp} {p : Addr} {vs : List V} {ds : List PyData} (hp : H p = none) (h : DpAll K H vs ds) : Dp K (upd H p (.tup vs)) (.ref p) (.tuple ds) ∧ Same H (upd H p (.tup vs)) := ⟨dp_tupN hp h, same_new hp⟩
theorem filter_snoc {α : Type} {l : List α} {i : Nat} {m : α} (h : l[i]? = some m) (f : α → Bool) : (l.take (i + 1)).filter f = (l.take i).filter f ++ (if f m = true then [m] else []) := by
  rw [List.take_add_one, h, List.filter_append]
  congr 1
  simp only [Option.toList_some, List.filter]
  cases f m <;> rfl
theorem pi_tupK {X : Cx} {K : PySem.W.Frag} {tg e : Expr} {te : TE} (hK : X.K = K) (h : PE X e te) : PI X tg e (iTup K te) := hK ▸ pi_tup h
theorem take_snoc {α : Type} {l : List α} {i : Nat} {m : α} (h : l[i]? = some m) : l.take (i + 1) = l.take i ++ [m] := by
  rw [List.take_add_one, h]
  rfl
theorem dpAll_maps {α : Type} {K : PySem.W.Frag} {H : Hp} {f : α → V} {g : α → PyData} : ∀ l : List α, (∀ x ∈ l, Dp K H (f x) (g x)) → DpAll K H (l.map f) (l.map g)
  | [], _ => .nil
  | x :: l, h => .cons (h x List.mem_cons_self) (dpAll_maps l fun y hy => h y (List.mem_cons_of_mem _ hy))
/-! ### facts -/
abbrev kU (x : Str) : List Key := [Sum.inr "unread", Sum.inr x]
abbrev kL (x : Str) : List Key := [Sum.inr "length", Sum.inr x]
abbrev qU (x : Str) : List V := [.str "unread", .str x]
abbrev qL (x : Str) : List V := [.str "length", .str x]
def noneB : PyData → Bool
  | .none => true
  | _ => false
def posI : PyData → Bool
  | .int i => decide (0 < i)
  | _ => false
def wordB : PyData → Bool
  | .int i => decide (0 ≤ i) && decide (i ≤ 65535)
  | _ => false
/-- what is handed in: what is known, and else what is no answer -/
structure Fa (K : PySem.W.Frag) (H : Hp) (f : Addr) (u : Str → Option Bool) (l : Str → Option Nat) : Prop where
  ex : ∃ kvs, H f = some (.dT kvs) ∧ ∀ x,
    ((∃ b, u x = some b ∧ valV kvs (kU x) = some (.bl b)) ∨ (u x = none ∧ ∀ v, valV kvs (kU x) = some v → ∃ D, Dp K H v D ∧ isB D = false)) ∧
    ((∃ n, l x = some n ∧ 0 < n ∧ valV kvs (kL x) = some (.int (n : Int))) ∨ (l x = none ∧ ∀ v, valV kvs (kL x) = some v → ∃ D, Dp K H v D ∧ posI D = false))
theorem Fa.mono {K : PySem.W.Frag} {H H' : Hp} {f : Addr} {u : Str → Option Bool} {l : Str → Option Nat} (h : Fa K H f u l) (s : Same H H') : Fa K H' f u l := by
  obtain ⟨kvs, e, h⟩ := h.ex
  refine ⟨kvs, s _ _ e, fun x => ⟨?_, ?_⟩⟩
  · rcases (h x).1 with h1 | ⟨h1, h2⟩
    · exact .inl h1
    · exact .inr ⟨h1, fun v hv => let ⟨D, a, b⟩ := h2 v hv; ⟨D, dp_mono s _ _ a, b⟩⟩
  · rcases (h x).2 with h1 | ⟨h1, h2⟩
    · exact .inl h1
    · exact .inr ⟨h1, fun v hv => let ⟨D, a, b⟩ := h2 v hv; ⟨D, dp_mono s _ _ a, b⟩⟩
def uV : Option Bool → V
  | some b => .bl b
  | none => .int (-1)
def LV (o : Option Nat) (v : V) : Prop := (∃ n, o = some n ∧ v = .int (n : Int)) ∨ (o = none ∧ (v = .int (-1) ∨ v = .non))
section
variable {P : Program} {w : World} {K : PySem.W.Frag} {mg : Str → Option Value} {base : Heap}
def gSize (bs : List Blk) : Nat := (bs.map fun b => b.rows.length + 1).sum
def spSize (K : PySem.W.Frag) : Sp := fun vs H Q _ => ∃ (v : V) (g : Gr), vs = [v] ∧ Dp K H v g.D ∧ g.blocks.length ≤ 1000 ∧ ∀ H', Same H H' → Q (.int (gSize g.blocks : Int)) H'
theorem size_sum (bs : List Blk) : (bs.map fun b => ((b.rows.length : Nat) : Int) + 1).sum = (gSize bs : Int) := by
  induction bs with
  | nil => rfl
  | cons b r ih =>
    unfold gSize at ih ⊢
    rw [List.map_cons, List.map_cons, List.sum_cons, List.sum_cons, ih]
    omega
set_option pp.maxSteps 200 in
set_option pp.maxSteps 600 in
theorem c_size_of (T : Txt w K mg) : Cal P w K mg base "size_of" 1 ["graph"] (spSize K) := by
  obtain ⟨fd, F⟩ := T.d_size_of
  refine ⟨⟨fd, F.ok sc_size_of (fun vs H Q E h => by repeat (first | (obtain ⟨e, _⟩ := h; subst e; rfl) | (obtain ⟨_, h⟩ := h))) (fun cdv A outer s H vs Q E hr h => ?_), F.bindsN fun _ _ _ _ _ _ us hl => match us, hl with | [_], _ => rfl⟩, T.g _ (by decide), F.kp⟩
  obtain ⟨v, g, rfl, hv, hl, q⟩ := h
  refine ⟨_, PSs.nox (pss_one (ps_ret (pe_callB (cr_sumK rfl rfl) (by rfl) T.n_sum (by decide +kernel) (pa_cons (pe_lc (own := [("instructions", 1), ("terminator", 2)]) (by rfl) sc_size_of.nd (pi_tup (pe_ix (ix_P (K := K) rfl) (pv 0) pe_int (fun _ _ => rfl))) (blkOk_by (own := [("instructions", 1), ("terminator", 2)]) (N := N_size_of) (sc := defScope s_size_of) (by decide +kernel)) (fun _ _ _ _ _ => (pg_tupK (K := K) (n := 2) rfl rfl (pgs_cons (pg_name (i := 1) sc_size_of.nd rfl (.inl rfl)) (pgs_cons (pg_name (i := 2) sc_size_of.nd rfl (.inl rfl)) pgs_nil)))) (fun _ _ _ _ _ => pts_nil) (fun _ _ _ _ _ => (pe_op op_add (pe_callB (lenK (K := K) rfl) (by rfl) T.n_len (by decide +kernel) (pa_cons (pv 1) pa_nil)) pe_int))) pa_nil)))), ?_⟩
  refine ⟨v, rfl, _, 1, _, hv, rfl, rfl, fun zb hzb => ?_⟩
  cases hzb with
  | @tup ab xb _ sqb hab =>
    have hlb := dpAll_len hab
    rw [List.length_map] at hlb
    refine ⟨ab, rfl, ⟨_, sqb⟩, fun D hD => ?_⟩
    refine lc_tup (xs := xb) (fun i H3 => H3 D = some (.lst (((g.blocks.take i).map fun b => ((b.rows.length : Nat) : Int) + 1).map V.int)) ∧ Same H H3) ⟨upd_same, same_new hD⟩ ?_ ?_ ?_
    · rintro i H3 _ ⟨_, s3⟩
      exact sqT_same s3 sqb
    · rintro i x H3 hx ⟨h3, s3⟩
      obtain ⟨b, hb, hxb⟩ := dpAll_map_get hab hx
      have hi : i < xb.length := (List.getElem?_eq_some_iff.mp hx).1
      have hxb := dp_mono s3 _ _ hxb
      cases hxb with
      | @tup a2 x2 _ sq2 ha2 =>
        cases ha2 with
        | cons y0 r0 =>
          cases r0 with
          | cons y1 r1 =>
            cases r1
            cases y0 with
            | @tup a3 x3 _ sq3 ha3 =>
              have hl3 := dpAll_len ha3
              rw [List.length_map] at hl3
              refine ⟨a2, _, rfl, sq2, rfl, _, _, rfl, _, _, rfl, rfl, rfl, tyes ⟨.ref a3, rfl, .ref a3, x3.length, rfl, .inr ⟨x3, sq3, rfl⟩, _, _, rfl, rfl, _, h3, Nat.lt_of_le_of_lt (show (((g.blocks.take i).map fun b => ((b.rows.length : Nat) : Int) + 1).map V.int).length ≤ 1000 by rw [List.length_map, List.length_map, List.length_take]; omega) (by decide), ?_, fun b o h => ?_⟩⟩
              · rw [upd_same, List.take_add_one, hb, List.map_append, List.map_append, hl3]
                rfl
              · rw [upd_ne (ne_of_none h hD)]
                exact s3 _ _ h
    · rintro H3 ⟨h3, s3⟩
      rw [List.take_of_length_le (by omega)] at h3
      refine ⟨D, _, rfl, .inl (.inl h3), ?_⟩
      rw [size_sum]
      exact q _ s3
def spIsInt (K : PySem.W.Frag) : Sp := fun vs H Q _ => ∃ (v : V) (D : PyData), vs = [v] ∧ Dp K H v D ∧ Q (.bl (isI D && !isB D)) H
set_option pp.maxSteps 600 in
theorem c_is_integer (T : Txt w K mg) : Cal P w K mg base "is_integer" 1 ["thing"] (spIsInt K) := by
  obtain ⟨fd, F⟩ := T.d_is_integer
  refine ⟨⟨fd, F.ok sc_is_integer (fun vs H Q E h => by repeat (first | (obtain ⟨e, _⟩ := h; subst e; rfl) | (obtain ⟨_, h⟩ := h))) (fun cdv A outer s H vs Q E hr h => ?_), F.bindsN fun _ _ _ _ _ _ us hl => match us, hl with | [_], _ => rfl⟩, T.g _ (by decide), F.kp⟩
  obtain ⟨v, D, rfl, hv, q⟩ := h
  refine ⟨_, PSs.nox (pss_one (ps_ret (pe_and (pe_callB (isiK (K := K) rfl) (by rfl) T.n_isinstance (by decide +kernel) (pa_cons (pv 0) (pa_cons (pe_bltn (v := .ty "int") (u := .type "int") (by rfl) T.n_int (by decide +kernel) rfl) pa_nil))) (pe_one (pe_not (pe_callB (isiK (K := K) rfl) (by rfl) T.n_isinstance (by decide +kernel) (pa_cons (pv 0) (pa_cons (pe_bltn (v := .ty "bool") (u := .type "bool") (by rfl) T.n_bool (by decide +kernel) rfl) pa_nil)))))))), ?_⟩
  refine ⟨v, rfl, v, .ty "int", _, _, _, rfl, .ty _, dp_ty hv, kit_ty (kit_int D), _, rfl, ?_⟩
  cases e : isI D with
  | false =>
    rw [e] at q
    exact iteF q
  | true =>
    rw [e] at q
    exact iteT ⟨v, rfl, v, .ty "bool", _, _, _, rfl, .ty _, dp_ty hv, kit_ty (kit_bool D), _, rfl, q⟩
def spIsWord (K : PySem.W.Frag) : Sp := fun vs H Q _ => ∃ (v : V) (D : PyData), vs = [v] ∧ Dp K H v D ∧ Q (.bl (wordB D)) H
set_option pp.maxSteps 600 in
theorem c_is_word (T : Txt w K mg) : Cal P w K mg base "is_word" 2 ["thing"] (spIsWord K) := by
  obtain ⟨fd, F⟩ := T.d_is_word
  have C_is_integer := c_is_integer (P := P) (w := w) (base := base) T
  refine ⟨⟨fd, F.ok sc_is_word (fun vs H Q E h => by repeat (first | (obtain ⟨e, _⟩ := h; subst e; rfl) | (obtain ⟨_, h⟩ := h))) (fun cdv A outer s H vs Q E hr h => ?_), F.bindsN fun _ _ _ _ _ _ us hl => match us, hl with | [_], _ => rfl⟩, T.g _ (by decide), F.kp⟩
  obtain ⟨v, D, rfl, hv, q⟩ := h
  refine ⟨_, PSs.nox (pss_one (ps_ret (pe_and (pe_cal C_is_integer (hr.mono (by omega)) (by rfl) (pa_cons (pv 0) pa_nil)) (pe_one (pe_chain op_le op_le pe_int (pv 0) (pe_globI T.c_GREATEST_WORD rfl)))))), ?_⟩
  refine ⟨v, rfl, v, D, rfl, hv, _, rfl, ?_⟩
  cases hv with
  | int i =>
    refine iteT ⟨.int i, rfl, _, _, rfl, rfl, _, rfl, ?_⟩
    by_cases h0 : 0 ≤ i
    · have e0 : decide (0 ≤ i) = true := decide_eq_true h0
      rw [e0]
      refine iteT ⟨_, _, rfl, rfl, ?_⟩
      show Q (.bl (decide (i ≤ 65535))) H
      have e : wordB (.int i) = decide (i ≤ 65535) := by simp [wordB, h0]
      rw [← e]
      exact q
    · have e0 : decide (0 ≤ i) = false := decide_eq_false h0
      rw [e0]
      have e : wordB (.int i) = false := by simp [wordB, h0]
      rw [e] at q
      exact iteF q
  | non => exact iteF q
  | bl b => exact iteF q
  | str z => exact iteF q
  | lst _ _ => exact iteF q
  | tup _ _ => exact iteF q
def spFits (K : PySem.W.Frag) : Sp := fun vs H Q _ => ∃ (qa : Addr) (x : Str) (v : V) (D : PyData), vs = [.ref qa, v] ∧ Dp K H v D ∧
  ((H qa = some (.tup (qU x)) ∧ Q (.bl (isB D)) H) ∨ (H qa = some (.tup (qL x)) ∧ Q (.bl (noneB D || posI D)) H))
set_option pp.maxSteps 200 in
set_option pp.maxSteps 600 in
theorem c_answer_fits (T : Txt w K mg) : Cal P w K mg base "answer_fits" 3 ["question", "answer"] (spFits K) := by
  obtain ⟨fd, F⟩ := T.d_answer_fits
  have C_is_word := c_is_word (P := P) (w := w) (base := base) T
  have C_is_integer := c_is_integer (P := P) (w := w) (base := base) T
  refine ⟨⟨fd, F.ok sc_answer_fits (fun vs H Q E h => by repeat (first | (obtain ⟨e, _⟩ := h; subst e; rfl) | (obtain ⟨_, h⟩ := h))) (fun cdv A outer s H vs Q E hr h => ?_), F.bindsN fun _ _ _ _ _ _ us hl => match us, hl with | [_, _], _ => rfl⟩, T.g _ (by decide), F.kp⟩
  obtain ⟨qa, x, v, D, rfl, hv, ⟨hq, q⟩ | ⟨hq, q⟩⟩ := h
  · refine ⟨_, PSs.nox (pss_cons (ps_set (i := 2) sc_answer_fits.nd rfl (.inl rfl) (pe_ix (ix_P (K := K) rfl) (pv 0) pe_int (fun _ _ => rfl)))
      (pss_cons (ps_if (pt_cmpR (op_in_seqK (K := K) rfl) (pv 2) (pe_glob (v := .ref _) (by rfl) (T.g "YES_OR_NO" (by decide)) rfl) (by rfl)) (pss_one (ps_ret (pe_callB (isiK (K := K) rfl) (by rfl) T.n_isinstance (by decide +kernel) (pa_cons (pv 1) (pa_cons (pe_bltn (v := .ty "bool") (u := .type "bool") (by rfl) T.n_bool (by decide +kernel) rfl) pa_nil))))) pss_nil)
      (pss_cons (ps_if (pt_cmpR (op_in_seqK (K := K) rfl) (pv 2) (pe_glob (v := .ref _) (by rfl) (T.g "NAME_TUPLES" (by decide)) rfl) (by rfl)) pss_never pss_nil)
      (pss_cons (ps_if (pt_cmpR op_isN (pv 1) pe_non (nomark _)) (pss_one (ps_ret pe_bl)) pss_nil)
      (pss_cons (ps_if (pt_cmpR (op_in_seqK (K := K) rfl) (pv 2) (pe_glob (v := .ref _) (by rfl) (T.g "WORD_OR_NONE" (by decide)) rfl) (by rfl)) (pss_one (ps_ret (pe_cal C_is_word (hr.mono (by omega)) (by rfl) (pa_cons (pv 1) pa_nil)))) pss_nil)
      (pss_cons (ps_if (pt_cmpR op_eq (pv 2) pe_str (nomark _)) pss_never pss_nil)
      (pss_cons (ps_if (pt_cmpR op_eq (pv 2) pe_str (nomark _)) (pss_one (ps_ret (pe_callB (isiK (K := K) rfl) (by rfl) T.n_isinstance (by decide +kernel) (pa_cons (pv 1) (pa_cons (pe_bltn (v := .ty "str") (u := .type "str") (by rfl) T.n_str (by decide +kernel) rfl) pa_nil))))) pss_nil)
      (pss_cons (ps_if (pt_cmpR op_eq (pv 2) pe_str (nomark _)) (pss_one (ps_ret (pe_and (pe_cal C_is_integer (hr.mono (by omega)) (by rfl) (pa_cons (pv 1) pa_nil)) (pe_one (pe_cmpR op_gt (pv 1) pe_int (nomark _)))))) pss_nil)
      pss_never)))))))), ?_⟩
    refine ⟨.ref qa, rfl, _, 0, _, (.tup (.inl (.inl hq)) (.cons (.str _) (.cons (.str _) .nil)) : Dp K H (.ref qa) (.tuple [.str "unread", .str x])), rfl, rfl, fun z hz => ?_⟩
    cases hz
    exact ⟨_, rfl, _, _, rfl, .inr (T.u_YES_OR_NO _), rfl, rfl, _, rfl, iteT ⟨v, rfl, v, .ty "bool", _, _, _, rfl, .ty _, dp_ty hv, kit_ty (kit_bool D), q⟩⟩
  · refine ⟨_, PSs.nox (pss_cons (ps_set (i := 2) sc_answer_fits.nd rfl (.inl rfl) (pe_ix (ix_P (K := K) rfl) (pv 0) pe_int (fun _ _ => rfl)))
      (pss_cons (ps_if (pt_cmpR (op_in_seqK (K := K) rfl) (pv 2) (pe_glob (v := .ref _) (by rfl) (T.g "YES_OR_NO" (by decide)) rfl) (by rfl)) (pss_one (ps_ret (pe_callB (isiK (K := K) rfl) (by rfl) T.n_isinstance (by decide +kernel) (pa_cons (pv 1) (pa_cons (pe_bltn (v := .ty "bool") (u := .type "bool") (by rfl) T.n_bool (by decide +kernel) rfl) pa_nil))))) pss_nil)
      (pss_cons (ps_if (pt_cmpR (op_in_seqK (K := K) rfl) (pv 2) (pe_glob (v := .ref _) (by rfl) (T.g "NAME_TUPLES" (by decide)) rfl) (by rfl)) pss_never pss_nil)
      (pss_cons (ps_if (pt_cmpR op_isN (pv 1) pe_non (nomark _)) (pss_one (ps_ret pe_bl)) pss_nil)
      (pss_cons (ps_if (pt_cmpR (op_in_seqK (K := K) rfl) (pv 2) (pe_glob (v := .ref _) (by rfl) (T.g "WORD_OR_NONE" (by decide)) rfl) (by rfl)) (pss_one (ps_ret (pe_cal C_is_word (hr.mono (by omega)) (by rfl) (pa_cons (pv 1) pa_nil)))) pss_nil)
      (pss_cons (ps_if (pt_cmpR op_eq (pv 2) pe_str (nomark _)) pss_never pss_nil)
      (pss_cons (ps_if (pt_cmpR op_eq (pv 2) pe_str (nomark _)) (pss_one (ps_ret (pe_callB (isiK (K := K) rfl) (by rfl) T.n_isinstance (by decide +kernel) (pa_cons (pv 1) (pa_cons (pe_bltn (v := .ty "str") (u := .type "str") (by rfl) T.n_str (by decide +kernel) rfl) pa_nil))))) pss_nil)
      (pss_cons (ps_if (pt_cmpR op_eq (pv 2) pe_str (nomark _)) (pss_one (ps_ret (pe_and (pe_cal C_is_integer (hr.mono (by omega)) (by rfl) (pa_cons (pv 1) pa_nil)) (pe_one (pe_cmpR op_gt (pv 1) pe_int (nomark _)))))) pss_nil)
      pss_never)))))))), ?_⟩
    refine ⟨.ref qa, rfl, _, 0, _, (.tup (.inl (.inl hq)) (.cons (.str _) (.cons (.str _) .nil)) : Dp K H (.ref qa) (.tuple [.str "length", .str x])), rfl, rfl, fun z hz => ?_⟩
    cases hz
    refine ⟨_, rfl, _, _, rfl, .inr (T.u_YES_OR_NO _), rfl, rfl, _, rfl, iteF ⟨_, rfl, _, _, rfl, .inr (T.u_NAME_TUPLES _), rfl, rfl, _, rfl, iteF ⟨v, rfl, rfl, _, rfl, ?_⟩⟩⟩
    have go : ∀ {A : Prop} {B : Prop}, (D = .none → A) → (D ≠ .none → B) → if decide (v = .non) = true then A else B := by
      intro A B hA hB
      cases hv with
      | non => exact iteT (hA rfl)
      | bl b => exact iteF (hB (fun z => by cases z))
      | int i => exact iteF (hB (fun z => by cases z))
      | str z => exact iteF (hB (fun z => by cases z))
      | lst _ _ => exact iteF (hB (fun z => by cases z))
      | tup _ _ => exact iteF (hB (fun z => by cases z))
    refine go (fun e => ?_) (fun hn => ?_)
    · rw [e] at q
      exact q
    have no : ∀ {y : Str} {A B : Prop}, decide (("length" : Str) = y) = false → B → if decide (V.str "length" = V.str y) = true then A else B := fun {y A B} h b => by
      rw [str_dec, h]
      exact iteF b
    refine ⟨_, rfl, _, _, rfl, .inr (T.u_WORD_OR_NONE _), rfl, rfl, _, rfl, iteF ⟨_, rfl, rfl, _, rfl, no (by decide +kernel) ⟨_, rfl, rfl, _, rfl, no (by decide +kernel) ⟨_, rfl, rfl, _, rfl, ?_⟩⟩⟩⟩
    show if decide (V.str "length" = V.str "length") = true then _ else _
    rw [str_dec, show decide (("length" : Str) = "length") = true by decide +kernel]
    refine iteT ⟨v, rfl, v, D, rfl, hv, _, rfl, ?_⟩
    have hnb : noneB D = false := by cases D <;> first | rfl | exact absurd rfl hn
    rw [hnb] at q
    cases hv with
    | int i => exact iteT ⟨_, rfl, _, _, rfl, rfl, q⟩
    | non => exact absurd rfl hn
    | bl b => exact iteF q
    | str z => exact iteF q
    | lst _ _ => exact iteF q
    | tup _ _ => exact iteF q
def spKnown (K : PySem.W.Frag) : Sp := fun vs H Q _ => ∃ (f qa : Addr) (u : Str → Option Bool) (l : Str → Option Nat) (x : Str), vs = [.ref f, .ref qa] ∧ Fa K H f u l ∧
  ((H qa = some (.tup (qU x)) ∧ Q (uV (u x)) H) ∨ (H qa = some (.tup (qL x)) ∧ ∀ v, LV (l x) v → Q v H))
set_option pp.maxSteps 200 in
set_option pp.maxSteps 600 in
theorem c_known_answer (T : Txt w K mg) : Cal P w K mg base "known_answer" 4 ["facts", "question"] (spKnown K) := by
  obtain ⟨fd, F⟩ := T.d_known_answer
  have C_answer_fits := c_answer_fits (P := P) (w := w) (base := base) T
  refine ⟨⟨fd, F.ok sc_known_answer (fun vs H Q E h => by repeat (first | (obtain ⟨e, _⟩ := h; subst e; rfl) | (obtain ⟨_, h⟩ := h))) (fun cdv A outer s H vs Q E hr h => ?_), F.bindsN fun _ _ _ _ _ _ us hl => match us, hl with | [_, _], _ => rfl⟩, T.g _ (by decide), F.kp⟩
  obtain ⟨f, qa, u, l, x, rfl, hf, ⟨hq, q⟩ | ⟨hq, q⟩⟩ := h
  · have hu := hu_of hr
    refine ⟨_, PSs.nox (pss_cons (ps_if (pt_cmp (pc_dnotin hu (pv 1) (pv 0))) (pss_one (ps_ret (pe_globI T.c_UNKNOWN rfl))) pss_nil)
      (pss_cons (ps_set (i := 2) sc_known_answer.nd rfl (.inl rfl) (pe_dget hu (pv 0) (pv 1) (fun _ _ => rfl)))
      (pss_one (ps_ret (pe_ifExp (pt_val (pe_cal C_answer_fits (hr.mono (by omega)) (by rfl) (pa_cons (pv 1) (pa_cons (pv 2) pa_nil)))) (pv 2) (pe_globI T.c_UNKNOWN rfl)))))), ?_⟩
    obtain ⟨kvs, ef, hf⟩ := hf.ex
    have hg : DGet H f (.ref qa) (valV kvs (kU x)) := DGet.t (k := kU x) ef hq
    refine ⟨.ref qa, rfl, .ref f, rfl, f, _, rfl, hg, ?_⟩
    rcases (hf x).1 with ⟨b, e1, e2⟩ | ⟨e1, e2⟩
    · rw [e2] at hg ⊢
      rw [e1] at q
      exact ⟨_, rfl, iteF ⟨.ref f, rfl, .ref qa, rfl, f, _, rfl, hg, .ref qa, rfl, _, rfl, qa, x, .bl b, .bool b, rfl, .bl b, .inl ⟨hq, _, rfl, iteT ⟨_, rfl, q⟩⟩⟩⟩
    · rw [e1] at q
      cases ev : valV kvs (kU x) with
      | none => exact ⟨_, rfl, iteT q⟩
      | some v =>
        rw [ev] at hg
        obtain ⟨D, hD, hb⟩ := e2 v ev
        exact ⟨_, rfl, iteF ⟨.ref f, rfl, .ref qa, rfl, f, _, rfl, hg, .ref qa, rfl, _, rfl, qa, x, v, D, rfl, hD, .inl ⟨hq, _, rfl, by rw [hb]; exact iteF q⟩⟩⟩
  · have hu := hu_of hr
    refine ⟨_, PSs.nox (pss_cons (ps_if (pt_cmp (pc_dnotin hu (pv 1) (pv 0))) (pss_one (ps_ret (pe_globI T.c_UNKNOWN rfl))) pss_nil)
      (pss_cons (ps_set (i := 2) sc_known_answer.nd rfl (.inl rfl) (pe_dget hu (pv 0) (pv 1) (fun _ _ => rfl)))
      (pss_one (ps_ret (pe_ifExp (pt_val (pe_cal C_answer_fits (hr.mono (by omega)) (by rfl) (pa_cons (pv 1) (pa_cons (pv 2) pa_nil)))) (pv 2) (pe_globI T.c_UNKNOWN rfl)))))), ?_⟩
    obtain ⟨kvs, ef, hf⟩ := hf.ex
    have hg : DGet H f (.ref qa) (valV kvs (kL x)) := DGet.t (k := kL x) ef hq
    refine ⟨.ref qa, rfl, .ref f, rfl, f, _, rfl, hg, ?_⟩
    rcases (hf x).2 with ⟨n, e1, e0, e2⟩ | ⟨e1, e2⟩
    · rw [e2] at hg ⊢
      have qn := q (.int (n : Int)) (.inl ⟨n, e1, rfl⟩)
      have ep : (noneB (.int (n : Int)) || posI (.int (n : Int))) = true := by
        rw [show posI (.int (n : Int)) = true from decide_eq_true (by omega), Bool.or_true]
      exact ⟨_, rfl, iteF ⟨.ref f, rfl, .ref qa, rfl, f, _, rfl, hg, .ref qa, rfl, _, rfl, qa, x, .int (n : Int), .int (n : Int), rfl, .int _, .inr ⟨hq, _, rfl, by rw [ep]; exact iteT ⟨_, rfl, qn⟩⟩⟩⟩
    · cases ev : valV kvs (kL x) with
      | none => exact ⟨_, rfl, iteT (q _ (.inr ⟨e1, .inl rfl⟩))⟩
      | some v =>
        rw [ev] at hg
        obtain ⟨D, hD, hb⟩ := e2 v ev
        refine ⟨_, rfl, iteF ⟨.ref f, rfl, .ref qa, rfl, f, _, rfl, hg, .ref qa, rfl, _, rfl, qa, x, v, D, rfl, hD, .inr ⟨hq, _, rfl, ?_⟩⟩⟩
        rw [hb, Bool.or_false]
        by_cases hn : D = .none
        · subst hn
          cases hD
          exact iteT ⟨_, rfl, q _ (.inr ⟨e1, .inr rfl⟩)⟩
        · have hnb : noneB D = false := by cases D <;> first | rfl | exact absurd rfl hn
          rw [hnb]
          exact iteF (q _ (.inr ⟨e1, .inl rfl⟩))
def inB (n : Nat) : Opd → Bool
  | .w i => decide (i < (n : Int))
  | .v _ => false
def spWithin (K : PySem.W.Frag) : Sp := fun vs H Q _ => ∃ (f : Addr) (u : Str → Option Bool) (l : Str → Option Nat) (x : Str) (v : V) (a : Opd) (N : Nat), vs = [v, .str x, .ref f] ∧ Fa K H f u l ∧ Dp K H v (oD a) ∧ OpdOk N a ∧ ∀ H', Same H H' → Q (.bl (inB ((l x).getD 0) a)) H'
set_option pp.maxSteps 200 in
set_option pp.maxSteps 600 in
theorem c_is_within (T : Txt w K mg) : Cal P w K mg base "is_within" 5 ["index", "array", "facts"] (spWithin K) := by
  obtain ⟨fd, F⟩ := T.d_is_within
  have C_known_answer := c_known_answer (P := P) (w := w) (base := base) T
  have C_is_word := c_is_word (P := P) (w := w) (base := base) T
  have C_is_integer := c_is_integer (P := P) (w := w) (base := base) T
  refine ⟨⟨fd, F.ok sc_is_within (fun vs H Q E h => by repeat (first | (obtain ⟨e, _⟩ := h; subst e; rfl) | (obtain ⟨_, h⟩ := h))) (fun cdv A outer s H vs Q E hr h => ?_), F.bindsN fun _ _ _ _ _ _ us hl => match us, hl with | [_, _, _], _ => rfl⟩, T.g _ (by decide), F.kp⟩
  obtain ⟨f, u, l, x, v, a, N, rfl, hf, hv, ho, q⟩ := h
  refine ⟨_, PSs.nox (pss_cons (ps_set (i := 3) sc_is_within.nd rfl (.inl rfl) (pe_cal C_known_answer (hr.mono (by omega)) (by rfl) (pa_cons (pv 2) (pa_cons (pe_tup (pa_cons pe_str (pa_cons (pv 1) pa_nil))) pa_nil))))
      (pss_one (ps_ret (pe_and (pe_cal C_is_word (hr.mono (by omega)) (by rfl) (pa_cons (pv 0) pa_nil)) (pe_and (pe_cal C_is_integer (hr.mono (by omega)) (by rfl) (pa_cons (pv 3) pa_nil)) (pe_one (pe_cmpR op_lt (pv 0) (pv 3) (nomark _)))))))), ?_⟩
  refine ⟨.ref f, rfl, .str x, rfl, (by show 2 ≤ sizeLine; decide), fun qa hqa => ?_⟩
  have s1 := same_new (o := .tup (qL x)) hqa
  refine ⟨f, qa, u, l, x, rfl, hf.mono s1, .inr ⟨upd_same, fun z hz => ?_⟩⟩
  have q := q _ s1
  have hv := dp_mono s1 _ _ hv
  generalize upd H qa (.tup (qL x)) = H1 at q hv ⊢
  refine ⟨v, rfl, v, oD a, rfl, hv, _, rfl, ?_⟩
  cases a with
  | v n => exact iteF q
  | w i =>
    cases hv
    have hw : wordB (oD (.w i)) = true := by
      have := ho.1
      have := ho.2
      show (decide (0 ≤ i) && decide (i ≤ 65535)) = true
      rw [decide_eq_true ho.1, decide_eq_true (by omega)]
      rfl
    rw [hw]
    rcases hz with ⟨n, e, rfl⟩ | ⟨e, rfl | rfl⟩
    · rw [e] at q
      exact iteT ⟨_, rfl, _, .int (n : Int), rfl, .int _, _, rfl, iteT ⟨_, rfl, _, rfl, _, _, rfl, rfl, q⟩⟩
    · rw [e] at q
      have e0 : inB (Option.getD none 0) (.w i) = false := decide_eq_false (by have := ho.1; show ¬ i < ((0 : Nat) : Int); omega)
      rw [e0] at q
      refine iteT ⟨_, rfl, _, .int (-1), rfl, .int _, _, rfl, iteT ⟨_, rfl, _, rfl, _, _, rfl, rfl, ?_⟩⟩
      have e1 : decide (i < (-1 : Int)) = false := decide_eq_false (by have := ho.1; omega)
      rw [← e1] at q
      exact q
    · rw [e] at q
      have e0 : inB (Option.getD none 0) (.w i) = false := decide_eq_false (by have := ho.1; show ¬ i < ((0 : Nat) : Int); omega)
      rw [e0] at q
      exact iteT ⟨_, rfl, _, .none, rfl, .non, _, rfl, iteF q⟩
def spNeed (K : PySem.W.Frag) : Sp := fun vs H Q _ => ∃ (f : Addr) (u : Str → Option Bool) (l : Str → Option Nat) (x : Str) (v : V) (R : Rw) (N : Nat), vs = [v, .str x, .ref f] ∧ Fa K H f u l ∧ Dp K H v R.D ∧ RwOk N R ∧ ∀ H', Same H H' → Q (.bl (goes x ((l x).getD 0) R)) H'
theorem st_word {R : Rw} (h : R.word = "store") : ∃ x a, R = .st x a := by
  cases R <;> first | exact ⟨_, _, rfl⟩ | (dsimp only [Rw.word] at h; exact absurd h (by decide +kernel))
theorem wr_word {R : Rw} (h : R.word = "write") : ∃ x a b, R = .wr x a b := by
  cases R <;> first | exact ⟨_, _, _, rfl⟩ | (dsimp only [Rw.word] at h; exact absurd h (by decide +kernel))
theorem goes_other {R : Rw} {x : Str} {n : Nat} (h1 : R.word ≠ "store") (h2 : R.word ≠ "write") : goes x n R = false := by
  cases R <;> first | rfl | exact absurd rfl h1 | exact absurd rfl h2
set_option pp.maxSteps 200 in
set_option pp.maxSteps 600 in
theorem c_is_needless (T : Txt w K mg) : Cal P w K mg base "is_needless" 6 ["instruction", "name", "facts"] (spNeed K) := by
  obtain ⟨fd, F⟩ := T.d_is_needless
  have C_is_within := c_is_within (P := P) (w := w) (base := base) T
  refine ⟨⟨fd, F.ok sc_is_needless (fun vs H Q E h => by repeat (first | (obtain ⟨e, _⟩ := h; subst e; rfl) | (obtain ⟨_, h⟩ := h))) (fun cdv A outer s H vs Q E hr h => ?_), F.bindsN fun _ _ _ _ _ _ us hl => match us, hl with | [_, _, _], _ => rfl⟩, T.g _ (by decide), F.kp⟩
  obtain ⟨f, u, l, x, v, R, N, rfl, hf, hv, ho, q⟩ := h
  refine ⟨_, PSs.nox (pss_cons (ps_if (pt_cmpR op_eq (pe_ix (ix_P (K := K) rfl) (pv 0) pe_int (fun _ _ => rfl)) pe_str (nomark _)) (pss_one (ps_ret (pe_cmpR op_eq (pe_ix (ix_P (K := K) rfl) (pv 0) pe_int (fun _ _ => rfl)) (pv 1) (nomark _)))) pss_nil)
      (pss_one (ps_ret (pe_and (pe_cmpR op_eq (pe_ix (ix_P (K := K) rfl) (pv 0) pe_int (fun _ _ => rfl)) pe_str (nomark _)) (pe_and (pe_cmpR op_eq (pe_ix (ix_P (K := K) rfl) (pv 0) pe_int (fun _ _ => rfl)) (pv 1) (nomark _)) (pe_one (pe_cal C_is_within (hr.mono (by omega)) (by rfl) (pa_cons (pe_ix (ix_P (K := K) rfl) (pv 0) pe_int (fun _ _ => rfl)) (pa_cons (pv 1) (pa_cons (pv 2) pa_nil)))))))))), ?_⟩
  refine ⟨v, rfl, _, 0, _, hv, rfl, rfl, fun zw hzw => ?_⟩
  cases hzw
  refine ⟨rfl, _, rfl, ?_⟩
  show if decide (V.str R.word = V.str "store") = true then _ else _
  rw [str_dec]
  have q0 := q H (Same.refl _)
  cases hw : decide (R.word = "store") with
  | true =>
    obtain ⟨y, a, rfl⟩ := st_word (of_decide_eq_true hw)
    refine iteT ⟨v, rfl, _, 1, _, hv, rfl, rfl, fun zx hzx => ?_⟩
    cases hzx
    refine ⟨_, rfl, rfl, ?_⟩
    have e : goes x ((l x).getD 0) (.st y a) = decide (V.str y = V.str x) := (str_dec y x).symm
    rw [e] at q0
    exact q0
  | false =>
    refine iteF ⟨v, rfl, _, 0, _, hv, rfl, rfl, fun zw2 hzw2 => ?_⟩
    cases hzw2
    refine ⟨rfl, _, rfl, ?_⟩
    show if decide (V.str R.word = V.str "write") = true then _ else _
    rw [str_dec]
    cases hw2 : decide (R.word = "write") with
    | false =>
      rw [goes_other (of_decide_eq_false hw) (of_decide_eq_false hw2)] at q0
      exact iteF q0
    | true =>
      obtain ⟨y, a, b, rfl⟩ := wr_word (of_decide_eq_true hw2)
      refine iteT ⟨v, rfl, _, 1, _, hv, rfl, rfl, fun zx hzx => ?_⟩
      cases hzx
      refine ⟨_, rfl, rfl, _, rfl, ?_⟩
      show if decide (V.str y = V.str x) = true then _ else _
      rw [str_dec]
      have eg : goes x ((l x).getD 0) (.wr y a b) = (decide (y = x) && inB ((l x).getD 0) a) := by cases a <;> rfl
      cases hx : decide (y = x) with
      | false =>
        rw [eg, hx] at q0
        exact iteF q0
      | true =>
        refine iteT ⟨v, rfl, _, 2, _, hv, rfl, rfl, fun za hza => ⟨_, rfl, .ref f, rfl, f, u, l, x, za, a, N, rfl, hf, hza, ho.2.1, fun H' s => ?_⟩⟩
        have q1 := q H' s
        rw [eg, hx] at q1
        exact q1
end
end K48

set_option maxHeartbeats 4000000
namespace K48
open PySem PySem.Spec PyProof.Rows L2 HG P52 P50 P48
abbrev IR (K : PySem.W.Frag) : Value := .ref (He.ga K "InvalidRewrite")
/-- the name of a rewrite that is possible -/
def Yes (u : Str → Option Bool) (D : PyData) (x : Str) : Prop := D = .str x ∧ u x = some true
structure GSm (g : Gr) : Prop where
  ex : ∃ N, ∀ b ∈ g.blocks, ∀ R ∈ b.rows, RwOk N R
  len : g.blocks.length ≤ 1000
  rows : ∀ b ∈ g.blocks, b.rows.length ≤ 1000
  size : gSize g.blocks ≤ 2000
theorem nlRsF (x : Str) (n : Nat) (l : List Rw) : noLAll ((l.filter fun R => !goes x n R).map Rw.D) = true := nlRs _
section
variable {P : Program} {w : World} {K : PySem.W.Frag} {mg : Str → Option Value} {base : Heap}
def spWS (K : PySem.W.Frag) : Sp := fun vs H Q E => ∃ (vg vn : V) (f : Addr) (g : Gr) (D : PyData) (u : Str → Option Bool) (l : Str → Option Nat), vs = [vg, vn, .ref f] ∧ Dp K H vg g.D ∧ Dp K H vn D ∧ GSm g ∧ Fa K H f u l ∧
  (∀ x, Yes u D x → ∀ z H', Same H H' → Dp K H' z (stayG x ((l x).getD 0) g).D → Q z H') ∧ ((∀ x, ¬ Yes u D x) → ∀ H', Same H H' → E (IR K) none H')
set_option pp.maxSteps 200 in
set_option pp.maxSteps 600 in
theorem c_without_stores (T : Txt w K mg) (hP : PrgOk file P) : CalX P w K mg base "without_stores" 7 ["graph", "name", "facts"] (spWS K) := by
  obtain ⟨fd, F⟩ := T.d_without_stores
  have C_known_answer := c_known_answer (P := P) (w := w) (base := base) T
  have C_is_needless := c_is_needless (P := P) (w := w) (base := base) T
  refine ⟨⟨fd, okX F sc_without_stores (fun vs H Q E h => by repeat (first | (obtain ⟨e, _⟩ := h; subst e; rfl) | (obtain ⟨_, h⟩ := h))) (fun cdv A outer s H vs Q E hr h => ?_), F.bindsN fun _ _ _ _ _ _ us hl => match us, hl with | [_, _, _], _ => rfl⟩, T.g _ (by decide), F.kp⟩
  obtain ⟨vg, vn, f, g, D, u, l, rfl, hg, hn, gs, hf, q1, q2⟩ := h
  obtain ⟨N, hN⟩ := gs.ex
  refine ⟨_, (pss_cons (ps_if (PW.pt (pw_or (pt_not (pt_val (pe_callB (isiK (K := K) rfl) (by rfl) T.n_isinstance (by decide +kernel) (pa_cons (pv 1) (pa_cons (pe_bltn (v := .ty "str") (u := .type "str") (by rfl) T.n_str (by decide +kernel) rfl) pa_nil))))) (pw_or1 (pt_cmpR op_isnotTF (pe_cal C_known_answer (hr.mono (by omega)) (by rfl) (pa_cons (pv 2) (pa_cons (pe_tup (pa_cons pe_str (pa_cons (pv 1) pa_nil))) pa_nil))) pe_bl (nomark _))))) (pss_one (ps_raise0 rfl (T.e_InvalidRewrite hP) T.x_InvalidRewrite.ex T.x_InvalidRewrite.ty (hr.mono (by omega)) (takes_of rfl rfl rfl rfl) (by rfl) (fun _ _ _ _ _ _ _ => rfl))) pss_nil)
      (pss_cons (ps_set (i := 3) sc_without_stores.nd rfl (.inl rfl) (pe_lst pa_nil))
      (pss_cons (ps_for (passes_of rfl) rfl (pi_tup (pe_ix (ix_P (K := K) rfl) (pv 0) pe_int (fun _ _ => rfl))) (pg_tupK (K := K) (n := 2) rfl rfl (pgs_cons (pg_name (i := 4) sc_without_stores.nd rfl (.inl rfl)) (pgs_cons (pg_name (i := 5) sc_without_stores.nd rfl (.inl rfl)) pgs_nil))) (pss_cons (ps_setLc (i := 6) (own := [("instruction", 7)]) (by rfl) sc_without_stores.nd rfl rfl (sw_true rfl rfl rfl (by decide +kernel)) (pi_tup (pv 4)) (blkOk_by (own := [("instruction", 7)]) (N := N_without_stores) (sc := defScope s_without_stores) (by decide +kernel)) (fun _ _ _ _ _ => (pg_name (i := 7) sc_without_stores.nd rfl (.inl rfl))) (fun _ _ _ _ _ => pts_one (pt_not (pt_val (pe_cal C_is_needless (hr.mono (by omega)) (by rfl) (pa_cons (pv 7) (pa_cons (pv 1) (pa_cons (pv 2) pa_nil))))))) (fun _ _ _ _ _ => (pv 7)))
      (pss_one (ps_expr (pe_bm PySem.F.plainAttrs_list PySem.F.slot_list_append PySem.F.type_list_append mt_append (pv 3) (pa_cons (pe_tup (pa_cons (pe_callTy call_tuple_of (by rfl) T.n_tuple (by decide +kernel) (pa_cons (pv 6) pa_nil)) (pa_cons (pv 5) pa_nil))) pa_nil))))))
      (pss_one (ps_ret (pe_tup (pa_cons (pe_ix (ix_P (K := K) rfl) (pv 0) pe_int (fun _ _ => rfl)) (pa_cons (pe_callTy call_tuple_of (by rfl) T.n_tuple (by decide +kernel) (pa_cons (pv 3) pa_nil)) pa_nil)))))))), ?_⟩
  refine ⟨vn, rfl, vn, .ty "str", _, _, _, rfl, .ty _, dp_ty hn, kit_ty (kit_str D), _, rfl, ?_⟩
  obtain ⟨x, rfl⟩ | hs : (∃ x, D = .str x) ∨ isS D = false := by
    cases D with
    | str x => exact .inl ⟨x, rfl⟩
    | _ => exact .inr rfl
  case inr =>
    have no : ∀ x, ¬ Yes u D x := fun x h => by rw [h.1] at hs; cases hs
    have fin := q2 no H (Same.refl _)
    clear q1 q2 no
    cases D with
    | str x => cases hs
    | _ => exact iteT (iteT fin)
  cases hn
  refine iteF ⟨.ref f, rfl, .str x, rfl, (by show 2 ≤ sizeLine; decide), fun qa hqa => ?_⟩
  have s1 := same_new (o := .tup (qU x)) hqa
  refine ⟨f, qa, u, l, x, rfl, hf.mono s1, .inl ⟨upd_same, true, rfl, _, rfl, ?_⟩⟩
  have hf1 := hf.mono s1
  have hg1 := dp_mono s1 _ _ hg
  generalize upd H qa (.tup (qU x)) = H1 at s1 hf1 hg1 ⊢
  cases hu : decide (uV (u x) = .bl true) with
  | false =>
    refine iteT (q2 (fun y h => ?_) H1 s1)
    obtain ⟨e, h⟩ := h
    injection e with e
    subst e
    rw [h] at hu
    exact absurd (show decide (V.bl true = V.bl true) = false from hu) (by rw [decide_eq_true rfl]; exact fun z => by cases z)
  | true =>
    have hux : u x = some true := by
      have h := of_decide_eq_true hu
      cases e : u x with
      | none => rw [e] at h; cases h
      | some b => rw [e] at h; injection h with h; rw [h]
    refine iteF ⟨Nat.zero_le _, fun bl hbl => ?_⟩
    have s2 := same_new (o := .lst []) hbl
    refine ⟨vg, rfl, _, 1, _, dp_mono s2 _ _ hg1, rfl, rfl, fun zb hzb => ?_⟩
    cases hzb with
    | @tup ab xb _ sqb hab =>
    have hxb := dpAll_len hab
    rw [List.length_map] at hxb
    refine ⟨ab, rfl, ⟨_, sqb⟩, ?_⟩
    have hlb := gs.len
    refine for_tup (xs := xb) (fun i σ H2 => ∃ x4 x5 x6 acc, σ = [some vg, some (.str x), some (.ref f), some (.ref bl), x4, x5, x6, none] ∧ H2 bl = some (.lst acc) ∧ DpAll K H2 acc (((g.blocks.take i).map (stayB x ((l x).getD 0))).map Blk.D) ∧ Same H1 H2 ∧ KT (upd H1 bl (.lst [])) H2) ⟨_, _, _, [], rfl, upd_same, .nil, s2, KT.refl _⟩ ?_ ?_ ?_
    · rintro i σ H2 _ ⟨x4, x5, x6, acc, rfl, _, _, _, k2⟩
      exact sqT_kt k2 sqb
    · rintro i y σ H2 hy ⟨x4, x5, x6, acc, rfl, e2, h2, sH, k2⟩
      obtain ⟨b, hb, hyD⟩ := dpAll_map_get hab hy
      have hbm := List.mem_of_getElem? hb
      have hyD := dp_kt k2 _ _ (nlB b) hyD
      have hib := (List.getElem?_eq_some_iff.mp hy).1
      cases hyD with
      | @tup a2 x2 _ sq2 ha2 =>
      cases ha2 with
      | cons k0 kr =>
      cases kr with
      | cons k1 kr1 =>
      cases kr1
      cases k0 with
      | @tup ar xr _ sqr har =>
      have hlr2 := dpAll_len har
      rw [List.length_map] at hlr2
      have hbl1000 := gs.rows b hbm
      refine ⟨a2, _, rfl, sq2, rfl, _, _, rfl, _, _, rfl, rfl, .ref ar, rfl, ar, rfl, ⟨_, sqr⟩, fun D hD => ?_⟩
      refine lc_tup (xs := xr) (fun j H3 => ∃ acc2, H3 D = some (.lst acc2) ∧ DpAll K H3 acc2 (((b.rows.take j).filter fun R => !goes x ((l x).getD 0) R).map Rw.D) ∧ Same H2 H3) ⟨[], upd_same, .nil, same_new hD⟩ ?_ ?_ ?_
      · rintro j H3 _ ⟨acc2, _, _, s3⟩
        exact sqT_same s3 sqr
      · rintro j y H3 hy ⟨acc2, e3, h3, s3⟩
        obtain ⟨R, hR, hyD⟩ := dpAll_map_get har hy
        have hj := (List.getElem?_eq_some_iff.mp hy).1
        refine ⟨rfl, y, rfl, .str x, rfl, .ref f, rfl, f, u, l, x, y, R, N, rfl, hf1.mono (sH.trans s3), dp_mono s3 _ _ hyD, hN b hbm R (List.mem_of_getElem? hR), fun H4 s4 => ⟨_, rfl, ?_⟩⟩
        have e4 := s4 _ _ e3
        have h4 := dpAll_mono s4 _ _ h3
        rw [filter_snoc hR]
        cases hgo : goes x ((l x).getD 0) R with
        | true =>
          refine iteF ⟨acc2, e4, ?_, s3.trans s4⟩
          rw [if_neg (show ¬ (!true) = true from by decide), List.append_nil]
          exact h4
        | false =>
          have hl := dpAll_len h3
          rw [List.length_map] at hl
          have hfl := List.length_filter_le (fun R => !goes x ((l x).getD 0) R) (b.rows.take j)
          rw [List.length_take] at hfl
          have ke := KT.lst (o := .lst (acc2 ++ [y])) e4
          refine iteT ⟨y, rfl, acc2, e4, small_line (by omega), acc2 ++ [y], upd_same, ?_, fun b' o' hb' => ?_⟩
          · rw [if_pos (show (!false) = true from rfl), List.map_append]
            exact dpAll_app (dpAll_kt ke _ _ (nlRs _) h4) (.cons (dp_kt ke _ _ (nlR R) (dp_mono (s3.trans s4) _ _ hyD)) .nil)
          · rw [upd_ne (ne_of_none hb' hD)]
            exact s4 _ _ (s3 _ _ hb')
      rintro H3 ⟨acc2, e3, h3, s3⟩
      rw [List.take_of_length_le (by omega)] at h3
      refine ⟨.ref bl, rfl, .inl ⟨rfl, _, .inl (.inl (s3 _ _ e2))⟩, .ref D, rfl, D, _, rfl, .inl ⟨.inl (.inl e3), fun p4 hp4 => ⟨_, rfl, (by show 2 ≤ sizeLine; decide), fun p5 hp5 => ?_⟩⟩⟩
      have g4 := dp_tupN (K := K) hp4 h3
      have s34 := s3.trans (same_new (o := .tup acc2) hp4)
      obtain ⟨g5, u5⟩ := tupN2 (K := K) hp5 (.cons g4 (.cons (dp_mono s34 _ _ k1) .nil))
      have s25 := s34.trans u5
      have e5 := s25 _ _ e2
      have hl := dpAll_len h2
      rw [List.length_map, List.length_map, List.length_take] at hl
      have ke := KT.lst (o := .lst (acc ++ [.ref p5])) e5
      refine ⟨bl, acc, .ref p5, rfl, rfl, e5, small_line (by omega), _, _, _, acc ++ [.ref p5], rfl, upd_same, ?_, fun b' o' hb' => ?_, (k2.trans (KT.of s25)).trans ke⟩
      · rw [take_snoc hb, List.map_append, List.map_append]
        refine dpAll_app (dpAll_kt ke _ _ ?_ (dpAll_mono s25 _ _ h2)) (.cons (dp_kt ke _ _ (nlB (stayB x ((l x).getD 0) b)) g5) .nil)
        exact noLAll_map fun x _ => nlB x
      · rw [upd_ne (ne_of_none hb' hbl)]
        exact s25 _ _ (sH _ _ hb')
    rintro σ H2 ⟨x4, x5, x6, acc, rfl, e2, h2, sH, k2⟩
    rw [List.take_of_length_le (by omega)] at h2
    refine ⟨vg, rfl, _, 0, _, dp_mono sH _ _ hg1, rfl, rfl, fun z0 hz0 => ⟨.ref bl, rfl, bl, _, rfl, .inl ⟨.inl (.inl e2), fun p3 hp3 => ⟨(by show 2 ≤ sizeLine; decide), fun p4 hp4 => ?_⟩⟩⟩⟩
    have g3 := dp_tupN (K := K) hp3 h2
    have g4 := dp_tupN (K := K) hp4 (.cons (dp_mono (same_new hp3) _ _ hz0) (.cons g3 .nil))
    exact q1 x ⟨rfl, hux⟩ _ _ (s1.trans (sH.trans ((same_new hp3).trans (same_new hp4)))) g4
end
end K48

set_option maxHeartbeats 4000000
namespace K48
open PySem PySem.Spec PyProof.Rows L2 HG P52 P50 P48
abbrev partsV : List (Str × V) := [("inline", .int 3), ("devirtualize", .int 3), ("fold", .int 2), ("propagate", .int 2), ("eliminate", .int 2), ("drop_stores", .int 2), ("tidy", .int 1), ("drop_arguments", .int 1), ("drop_result", .int 1)]
def rwB : PyData → Bool
  | .tuple (.str x :: r) => decide ((tabGet partsV x).getD .non = V.int ((r.length + 1 : Nat) : Int))
  | _ => false
def FmD (D : PyData) : Prop := (∃ x r, D = .tuple (.str x :: r) ∧ SeqAt.shaped D = true) ∨ (∃ ds, D = .list ds) ∨ (∃ z, D = .str z) ∨ ∃ i, D = .int i
/-- a drop_stores that is possible -/
def Hit (u : Str → Option Bool) (D : PyData) (x : Str) : Prop := D = .tuple [.str "drop_stores", .str x] ∧ u x = some true
def FmS (D : PyData) : Prop := FmD D ∧ ∀ x r, D = .tuple (.str x :: r) → x = "drop_stores"
theorem rwB_two {D : PyData} (h : FmS D) (hb : rwB D = true) : ∃ E, D = .tuple [.str "drop_stores", E] := by
  obtain ⟨h1, h2⟩ := h
  rcases h1 with ⟨x, r, rfl, _⟩ | ⟨ds, rfl⟩ | ⟨z, rfl⟩ | ⟨i, rfl⟩
  · have e := h2 x r rfl
    subst e
    have hb := of_decide_eq_true (show decide ((tabGet partsV "drop_stores").getD .non = V.int ((r.length + 1 : Nat) : Int)) = true from hb)
    have e2 : (tabGet partsV "drop_stores").getD .non = V.int 2 := by decide +kernel
    rw [e2] at hb
    injection hb with hb
    match r, hb with
    | [E], _ => exact ⟨E, rfl⟩
    | [], hb => simp at hb
    | _ :: _ :: _, hb => simp at hb; omega
  · cases hb
  · cases hb
  · cases hb
theorem rwB_hit {u : Str → Option Bool} {D : PyData} {x : Str} (h : Hit u D x) : rwB D = true := by
  rw [h.1]
  show decide ((tabGet partsV "drop_stores").getD .non = V.int ((1 + 1 : Nat) : Int)) = true
  decide +kernel
theorem gSize_stay (x : Str) (n : Nat) (g : Gr) : gSize (stayG x n g).blocks ≤ gSize g.blocks := by
  have h : ∀ l : List Blk, gSize (l.map (stayB x n)) ≤ gSize l := by
    intro l
    induction l with
    | nil => exact Nat.le_refl _
    | cons b r ih =>
      unfold gSize at ih ⊢
      rw [List.map_cons, List.map_cons, List.map_cons, List.sum_cons, List.sum_cons]
      have : (stayB x n b).rows.length ≤ b.rows.length := List.length_filter_le _ _
      omega
  exact h g.blocks
theorem len_stay (x : Str) (n : Nat) (g : Gr) : (stayG x n g).blocks.length = g.blocks.length := List.length_map _
section
variable {P : Program} {w : World} {K : PySem.W.Frag} {mg : Str → Option Value} {base : Heap}
def spIsRw (K : PySem.W.Frag) : Sp := fun vs H Q _ => ∃ (v : V) (D : PyData), vs = [v] ∧ Dp K H v D ∧ FmD D ∧ ∀ H', Same H H' → Q (.bl (rwB D)) H'
set_option pp.maxSteps 200 in
set_option pp.maxSteps 600 in
theorem c_is_rewrite (T : Txt w K mg) : Cal P w K mg base "is_rewrite" 1 ["thing"] (spIsRw K) := by
  obtain ⟨fd, F⟩ := T.d_is_rewrite
  refine ⟨⟨fd, F.ok sc_is_rewrite (fun vs H Q E h => by repeat (first | (obtain ⟨e, _⟩ := h; subst e; rfl) | (obtain ⟨_, h⟩ := h))) (fun cdv A outer s H vs Q E hr h => ?_), F.bindsN fun _ _ _ _ _ _ us hl => match us, hl with | [_], _ => rfl⟩, T.g _ (by decide), F.kp⟩
  obtain ⟨v, D, rfl, hv, hD, q⟩ := h
  refine ⟨_, PSs.nox (pss_cons (ps_if (PW.pt (pw_or (pt_not (pt_val (pe_callB (isiK (K := K) rfl) (by rfl) T.n_isinstance (by decide +kernel) (pa_cons (pv 0) (pa_cons (pe_bltn (v := .ty "tuple") (u := .type "tuple") (by rfl) T.n_tuple (by decide +kernel) rfl) pa_nil))))) (pw_or (pt_cmpR (op_eqDK (K := K) rfl hr.units) (pv 0) (pe_tup pa_nil) (nomark _)) (pw_or1 (pt_not (pt_val (pe_callB (isiK (K := K) rfl) (by rfl) T.n_isinstance (by decide +kernel) (pa_cons (pe_ix (ix_P (K := K) rfl) (pv 0) pe_int (fun _ _ => rfl)) (pa_cons (pe_bltn (v := .ty "str") (u := .type "str") (by rfl) T.n_str (by decide +kernel) rfl) pa_nil))))))))) (pss_one (ps_ret pe_bl)) pss_nil)
      (pss_one (ps_ret (pe_cmpR op_eq (pe_kgetO T.t_PARTS (pe_glob (v := .ref _) (by rfl) (T.g "PARTS" (by decide)) rfl) (pe_ix (ix_P (K := K) rfl) (pv 0) pe_int (fun _ _ => rfl)) ⟨rfl, rfl, rfl, rfl⟩) (pe_callB (lenK (K := K) rfl) (by rfl) T.n_len (by decide +kernel) (pa_cons (pv 0) pa_nil)) (nomark _))))), ?_⟩
  refine ⟨v, rfl, v, .ty "tuple", _, _, _, rfl, .ty _, dp_ty hv, kit_ty (kit_tuple D), _, rfl, ?_⟩
  rcases hD with ⟨x, r, rfl, hs⟩ | ⟨ds, rfl⟩ | ⟨z, rfl⟩ | ⟨i, rfl⟩
  · cases hv with
    | @tup a vs _ sq ha =>
    have hvl := dpAll_len ha
    refine iteF ⟨.ref a, rfl, Nat.zero_le _, fun p hp => ?_⟩
    have s1 := same_new (o := .tup []) hp
    have g1 : Dp K (upd H p (.tup [])) (.ref p) (.tuple []) := dp_tupN hp .nil
    have hv1 : Dp K (upd H p (.tup [])) (.ref a) (.tuple (.str x :: r)) := dp_mono s1 _ _ (.tup sq ha)
    have sq1 := sqT_same s1 sq
    generalize upd H p (.tup []) = H1 at s1 g1 hv1 sq1 ⊢
    have eq0 : PyData.eqv (.tuple (.str x :: r)) (.tuple []) = false := rfl
    refine ⟨.tuple (.str x :: r), .tuple [], hv1, g1, hs, by decide, _, rfl, ?_⟩
    rw [eq0]
    refine iteF ⟨.ref a, rfl, _, 0, _, hv1, rfl, rfl, fun z hz => ?_⟩
    cases hz
    refine ⟨_, .ty "str", _, _, _, rfl, .ty _, dp_ty (.str _ : Dp K H1 _ (.str x)), kit_ty (kit_str (.str x)), _, rfl, iteF ?_⟩
    refine ⟨rfl, .ref a, rfl, _, 0, _, hv1, rfl, rfl, fun z hz => ?_⟩
    cases hz
    refine ⟨_, rfl, .ref a, rfl, .ref a, vs.length, rfl, .inr ⟨vs, sq1, rfl⟩, ?_⟩
    have hflat : ∀ u : Int, scal ((tabGet partsV x).getD .non) (.int u) = true := by
      intro u
      unfold tabGet
      cases e : partsV.find? fun q => decide (q.1 = x) with
      | none => rfl
      | some kv =>
        have := List.mem_of_find?_eq_some e
        simp only [List.mem_cons, List.not_mem_nil, or_false] at this
        rcases this with rfl | rfl | rfl | rfl | rfl | rfl | rfl | rfl | rfl <;> rfl
    refine ⟨hflat _, ?_⟩
    have e : decide ((tabGet partsV x).getD .non = V.int (vs.length : Int)) = rwB (.tuple (.str x :: r)) := by
      rw [hvl]
      rfl
    have e2 := q _ s1
    rw [← e] at e2
    exact e2
  · exact iteT (q H (Same.refl _))
  · cases hv
    exact iteT (q H (Same.refl _))
  · cases hv
    exact iteT (q H (Same.refl _))
def spCh (K : PySem.W.Frag) : Sp := fun vs H Q E => ∃ (vg vr vn v4 v5 : V) (f : Addr) (g : Gr) (D : PyData) (u : Str → Option Bool) (l : Str → Option Nat), vs = [vg, vr, vn, .ref f, v4, v5] ∧ Dp K H vg g.D ∧ Dp K H vr (.tuple [.str "drop_stores", D]) ∧ GSm g ∧ Fa K H f u l ∧
  (∀ x, Yes u D x → ∀ z H', Same H H' → Dp K H' z (stayG x ((l x).getD 0) g).D → Q z H') ∧ ((∀ x, ¬ Yes u D x) → ∀ H', Same H H' → E (IR K) none H')
set_option pp.maxSteps 600 in
theorem c_changed_by (T : Txt w K mg) (hP : PrgOk file P) : CalX P w K mg base "changed_by" 8 ["graph", "rewrite", "name", "facts", "graphs", "signatures"] (spCh K) := by
  obtain ⟨fd, F⟩ := T.d_changed_by
  have C_without_stores := c_without_stores (P := P) (w := w) (base := base) T hP
  refine ⟨⟨fd, okX F sc_changed_by (fun vs H Q E h => by repeat (first | (obtain ⟨e, _⟩ := h; subst e; rfl) | (obtain ⟨_, h⟩ := h))) (fun cdv A outer s H vs Q E hr h => ?_), F.bindsN fun _ _ _ _ _ _ us hl => match us, hl with | [_, _, _, _, _, _], _ => rfl⟩, T.g _ (by decide), F.kp⟩
  obtain ⟨vg, vr, vn, v4, v5, f, g, D, u, l, rfl, hg, hr1, gs, hf, q1, q2⟩ := h
  refine ⟨_, (pss_cons (ps_set (i := 6) sc_changed_by.nd rfl (.inl rfl) (pe_ix (ix_P (K := K) rfl) (pv 1) pe_int (fun _ _ => rfl)))
      (pss_cons (ps_if (pt_cmpR op_eq (pv 6) pe_str (nomark _)) pss_never pss_nil)
      (pss_cons (ps_if (pt_cmpR op_eq (pv 6) pe_str (nomark _)) pss_never pss_nil)
      (pss_cons (ps_if (pt_cmpR op_eq (pv 6) pe_str (nomark _)) pss_never pss_nil)
      (pss_cons (ps_if (pt_cmpR op_eq (pv 6) pe_str (nomark _)) pss_never pss_nil)
      (pss_cons (ps_if (pt_cmpR op_eq (pv 6) pe_str (nomark _)) pss_never pss_nil)
      (pss_cons (ps_if (pt_cmpR op_eq (pv 6) pe_str (nomark _)) (pss_one (ps_ret (pe_calX C_without_stores (hr.mono (by omega)) (takes_of rfl rfl rfl rfl) (by rfl) (pa_cons (pv 0) (pa_cons (pe_ix (ix_P (K := K) rfl) (pv 1) pe_int (fun _ _ => rfl)) (pa_cons (pv 3) pa_nil)))))) pss_nil)
      (pss_cons (ps_if (pt_cmpR op_eq (pv 6) pe_str (nomark _)) pss_never pss_nil)
      (pss_one (ps_ret (pe_ifExp (pt_cmpR op_eq (pv 6) pe_str (nomark _)) pe_never pe_never))))))))))), ?_⟩
  have hr0 := hr1
  refine ⟨vr, rfl, _, 0, _, hr0, rfl, rfl, fun z0 hz0 => ?_⟩
  cases hz0
  have no : ∀ {y : Str} {A B : Prop}, decide (("drop_stores" : Str) = y) = false → B → if decide (V.str "drop_stores" = V.str y) = true then A else B := fun {y A B} h b => by
    rw [str_dec, h]
    exact iteF b
  refine ⟨_, rfl, rfl, _, rfl, no (by decide +kernel) ⟨_, rfl, rfl, _, rfl, no (by decide +kernel) ⟨_, rfl, rfl, _, rfl, no (by decide +kernel) ⟨_, rfl, rfl, _, rfl, no (by decide +kernel) ⟨_, rfl, rfl, _, rfl, no (by decide +kernel) ⟨_, rfl, rfl, _, rfl, ?_⟩⟩⟩⟩⟩⟩
  show if decide (V.str "drop_stores" = V.str "drop_stores") = true then _ else _
  rw [str_dec, show decide (("drop_stores" : Str) = "drop_stores") = true by decide +kernel]
  exact iteT ⟨vg, rfl, vr, rfl, _, 1, _, hr0, rfl, rfl, fun zn hzn => ⟨.ref f, rfl, vg, zn, f, g, D, u, l, rfl, hg, hzn, gs, hf, q1, q2⟩⟩
def spRw (K : PySem.W.Frag) : Sp := fun vs H Q E => ∃ (vg vr vn : V) (f d4 : Addr) (g : Gr) (D : PyData) (u : Str → Option Bool) (l : Str → Option Nat), vs = [vg, vr, vn, .ref f, .ref d4, .non] ∧ Dp K H vg g.D ∧ Dp K H vr D ∧ FmS D ∧ H d4 = some (.dK []) ∧ GSm g ∧ Fa K H f u l ∧
  (∀ x, Hit u D x → ∀ z H', Same H H' → Dp K H' z (stayG x ((l x).getD 0) g).D → Q z H') ∧ ((∀ x, ¬ Hit u D x) → ∀ H', Same H H' → E (IR K) none H')
set_option pp.maxSteps 600 in
theorem c_rewritten (T : Txt w K mg) (hP : PrgOk file P) : ∃ fd ds, FnOk P w K mg base (L2.CX P w) 9 (He.ga K "rewritten") fd ["graph", "rewrite", "name", "facts", "graphs", "signatures"] (spRw K) ∧ Vals [] ds ∧ Binds K fd ["graph", "rewrite", "name", "facts", "graphs", "signatures"] ds ∧ PySem.W.keepIn K (.ref (He.ga K "rewritten")) = true := by
  obtain ⟨fd, F⟩ := T.d_rewritten
  have C_is_rewrite := c_is_rewrite (P := P) (w := w) (base := base) T
  have C_changed_by := c_changed_by (P := P) (w := w) (base := base) T hP
  have C_size_of := c_size_of (P := P) (w := w) (base := base) T
  obtain ⟨ds, hds, hb⟩ := F.binds1 (ps := ["graph", "rewrite", "name", "facts", "graphs", "signatures"]) 6 2 (by simp) rfl (fun T kV doc pm an cdv ct us its h1 h2 => match us, h1, its, h2 with
      | [_, _, _, _, _, _], _, [_, _], _ => ⟨_, rfl, rfl⟩)
  refine ⟨fd, ds, okX F sc_rewritten (fun vs H Q E h => by repeat (first | (obtain ⟨e, _⟩ := h; subst e; rfl) | (obtain ⟨_, h⟩ := h))) (fun cdv A outer s H vs Q E hr h => ?_), hds, hb, F.kp⟩
  obtain ⟨vg, vr, vn, f, d4, g, D, u, l, rfl, hg, hr1, hD, h4, gs, hf, q1, q2⟩ := h
  refine ⟨_, (pss_cons (ps_if (pt_not (pt_val (pe_cal C_is_rewrite (hr.mono (by omega)) (by rfl) (pa_cons (pv 1) pa_nil)))) (pss_one (ps_raise0 rfl (T.e_InvalidRewrite hP) T.x_InvalidRewrite.ex T.x_InvalidRewrite.ty (hr.mono (by omega)) (takes_of rfl rfl rfl rfl) (by rfl) (fun _ _ _ _ _ _ _ => rfl))) pss_nil)
      (pss_cons (ps_set (i := 6) sc_rewritten.nd rfl (.inl rfl) (pe_calX C_changed_by (hr.mono (by omega)) (takes_of rfl rfl rfl rfl) (by rfl) (pa_cons (pv 0) (pa_cons (pv 1) (pa_cons (pv 2) (pa_cons (pv 3) (pa_cons (pe_orT (pv 4) (pe_one pe_dnewK)) (pa_cons (pe_orT (pv 5) (pe_one pe_dnewK)) pa_nil))))))))
      (pss_cons (ps_if (pt_cmpR op_gt (pe_cal C_size_of (hr.mono (by omega)) (by rfl) (pa_cons (pv 6) pa_nil)) (pe_globI T.c_MOST_INSTRUCTIONS rfl) (nomark _)) (pss_one (ps_raise0 rfl (T.e_InvalidRewrite hP) T.x_InvalidRewrite.ex T.x_InvalidRewrite.ty (hr.mono (by omega)) (takes_of rfl rfl rfl rfl) (by rfl) (fun _ _ _ _ _ _ _ => rfl))) pss_nil)
      (pss_one (ps_ret (pv 6)))))), ?_⟩
  refine ⟨vr, rfl, vr, D, rfl, hr1, hD.1, fun H1 s1 => ⟨_, rfl, ?_⟩⟩
  cases hB : rwB D with
  | false =>
    refine iteT (q2 (fun x h => ?_) H1 s1)
    rw [rwB_hit h] at hB
    cases hB
  | true =>
    obtain ⟨E, rfl⟩ := rwB_two hD hB
    refine iteF ⟨vg, rfl, vr, rfl, vn, rfl, .ref f, rfl, .ref d4, rfl, false, .inr (.inr ⟨[], s1 _ _ h4, rfl⟩), iteF fun d1 hd1 => ⟨.non, rfl, false, rfl, iteF fun d2 hd2 => ?_⟩⟩
    have s3 := s1.trans ((same_new (o := .dK []) hd1).trans (same_new (o := .dK []) hd2))
    generalize upd (upd H1 d1 (.dK [])) d2 (.dK []) = H3 at s3 ⊢
    refine ⟨vg, vr, vn, .ref d1, .ref d2, f, g, E, u, l, rfl, dp_mono s3 _ _ hg, dp_mono s3 _ _ hr1, gs, hf.mono s3, ?_, fun no H4 s4 => q2 (fun x h => ?_) H4 (s3.trans s4)⟩
    · intro x hx z H4 s4 hz
      refine ⟨z, rfl, z, stayG x ((l x).getD 0) g, rfl, hz, by rw [len_stay]; exact gs.len, fun H5 s5 => ?_⟩
      have := gs.size
      have := gSize_stay x ((l x).getD 0) g
      refine ⟨_, _, rfl, rfl, _, rfl, ?_⟩
      rw [decide_eq_false (show ¬ ((2000 : Int) < (gSize (stayG x ((l x).getD 0) g).blocks : Int)) by omega)]
      exact iteF ⟨z, rfl, q1 x ⟨by rw [hx.1], hx.2⟩ z H5 (s3.trans (s4.trans s5)) (dp_mono s5 _ _ hz)⟩
    · refine no x ⟨?_, h.2⟩
      have e := h.1
      injection e with e
      injection e with _ e
      injection e with e _
/-! ### told -/
def suiteB : List Stmt := match (defBody s__law_told).getD 1 (.Pass ⟨0, 0, 0, 0⟩) with
  | .Try _ [.ExceptHandler _ _ b _] _ _ _ => b
  | _ => []
abbrev XH (P : Program) (w : World) (K : PySem.W.Frag) (mg : Str → Option Value) (base : Heap) (cdv : Value) (A : Around) (outer : List Env) (s : Shared) (H0 : Hp) (E : XK) : Cx := (cxOf CX0 P w K mg base N__law_told "_law_told" (defScope s__law_told) (He.ga K "_law_told") cdv A outer s H0 E).nox
def tsH (K : PySem.W.Frag) (a : Addr) (cls : Value) (d : Option Addr) : TS :=
  tSeq (tAsg (tAndV (tCB (rIsC K a cls d) (tCons (tVar 5) (tCons (tC (V.ref (He.ga K "InvalidRewrite"))) tNil))) (tCB (rIsC K a cls d) (tCons (tVar 5) (tCons (tC (V.ty "ValueError")) tNil)))) (gName 4)) (tSeq (tIfS (tB (tCB (rIsCT K a cls d) (tCons (tVar 5) (tCons (tTup (tCons (tC (V.ref (He.ga K "Conflict"))) (tCons (tC (V.ref (He.ga K "Disagreement"))) (tCons (tC (V.ref (He.ga K "Incompatible"))) (tCons (tC (V.ref (He.ga K "InvalidCommand"))) (tCons (tC (V.ref (He.ga K "InvalidModule"))) (tCons (tC (V.ref (He.ga K "InvalidObject"))) tNil))))))) tNil)))) (tAsg (tC (.bl false)) (gName 4)) tNext) (tIfS (tB (tCB (rIsCT K a cls d) (tCons (tVar 5) (tCons (tTup (tCons (tC (V.ref (He.ga K "InvalidText"))) (tCons (tC (V.ref (He.ga K "Missing"))) (tCons (tC (V.ref (He.ga K "NoEntry"))) (tCons (tC (V.ref (He.ga K "NoImage"))) (tCons (tC (V.ref (He.ga K "Outdated"))) (tCons (tC (V.ref (He.ga K "Rejected"))) (tCons (tC (V.ref (He.ga K "Stale"))) (tCons (tC (V.ref (He.ga K "Undefined"))) (tCons (tC (V.ref (He.ga K "UnknownModule"))) tNil)))))))))) tNil)))) (tAsg (tC (.bl false)) (gName 4)) tNext))
theorem told_suite (T : Txt w K mg) {cdv : Value} {A : Around} {outer : List Env} {s : Shared} {H0 : Hp} {E : XK} {a : Addr} {oe : Obj} {cls : Value} {d : Option Addr} {pn : List (Addr × Obj)} (hz : Zc cls d oe) (hf : ∃ vs, oe.data = .fields vs) :
    PSs ((XH P w K mg base cdv A outer s H0 E).suite a ((a, oe) :: pn)) suiteB (tsH K a cls d) :=
  pss_cons (ps_set (i := 4) sc__law_told.nd rfl (.inl rfl) (pe_and (pe_callB (call_isC hz hf) (by rfl) T.n_isinstance (by decide +kernel) (pa_cons (pv 5) (pa_cons (pe_glob (v := .ref _) (by rfl) (T.g "InvalidRewrite" (by decide)) rfl) pa_nil))) (pe_one (pe_callB (call_isC hz hf) (by rfl) T.n_isinstance (by decide +kernel) (pa_cons (pv 5) (pa_cons (pe_bltn (v := .ty "ValueError") (u := .type "ValueError") (by rfl) T.n_ValueError (by decide +kernel) rfl) pa_nil))))))
    (pss_cons (ps_if (pt_val (pe_callB (call_isCT hz hf) (by rfl) T.n_isinstance (by decide +kernel) (pa_cons (pv 5) (pa_cons (pe_tup (pa_cons (pe_glob (v := .ref _) (by rfl) (T.g "Conflict" (by decide)) rfl) (pa_cons (pe_glob (v := .ref _) (by rfl) (T.g "Disagreement" (by decide)) rfl) (pa_cons (pe_glob (v := .ref _) (by rfl) (T.g "Incompatible" (by decide)) rfl) (pa_cons (pe_glob (v := .ref _) (by rfl) (T.g "InvalidCommand" (by decide)) rfl) (pa_cons (pe_glob (v := .ref _) (by rfl) (T.g "InvalidModule" (by decide)) rfl) (pa_cons (pe_glob (v := .ref _) (by rfl) (T.g "InvalidObject" (by decide)) rfl) pa_nil))))))) pa_nil)))) (pss_one (ps_set (i := 4) sc__law_told.nd rfl (.inl rfl) pe_bl)) pss_nil)
    (pss_one (ps_if (pt_val (pe_callB (call_isCT hz hf) (by rfl) T.n_isinstance (by decide +kernel) (pa_cons (pv 5) (pa_cons (pe_tup (pa_cons (pe_glob (v := .ref _) (by rfl) (T.g "InvalidText" (by decide)) rfl) (pa_cons (pe_glob (v := .ref _) (by rfl) (T.g "Missing" (by decide)) rfl) (pa_cons (pe_glob (v := .ref _) (by rfl) (T.g "NoEntry" (by decide)) rfl) (pa_cons (pe_glob (v := .ref _) (by rfl) (T.g "NoImage" (by decide)) rfl) (pa_cons (pe_glob (v := .ref _) (by rfl) (T.g "Outdated" (by decide)) rfl) (pa_cons (pe_glob (v := .ref _) (by rfl) (T.g "Rejected" (by decide)) rfl) (pa_cons (pe_glob (v := .ref _) (by rfl) (T.g "Stale" (by decide)) rfl) (pa_cons (pe_glob (v := .ref _) (by rfl) (T.g "Undefined" (by decide)) rfl) (pa_cons (pe_glob (v := .ref _) (by rfl) (T.g "UnknownModule" (by decide)) rfl) pa_nil)))))))))) pa_nil)))) (pss_one (ps_set (i := 4) sc__law_told.nd rfl (.inl rfl) pe_bl)) pss_nil)))
/-- what is told: the new graph, or True -/
def spTold (K : PySem.W.Frag) : Sp := fun vs H Q _ => ∃ (vg vr : V) (f : Addr) (g : Gr) (D : PyData) (u : Str → Option Bool) (l : Str → Option Nat), vs = [vg, vr, .ref f, .non] ∧ Dp K H vg g.D ∧ Dp K H vr D ∧ FmS D ∧ GSm g ∧ Fa K H f u l ∧
  (∀ x, Hit u D x → ∀ z H', Same H H' → Dp K H' z (stayG x ((l x).getD 0) g).D → Q z H') ∧ ((∀ x, ¬ Hit u D x) → ∀ H', Same H H' → Q (.bl true) H')
set_option pp.maxSteps 600 in
theorem f_told (T : Txt w K mg) (hP : PrgOk file P) : ∃ fd, FunD K "_law_told" "_law_told" (defArgs s__law_told) (defBody s__law_told) (defScope s__law_told) [V.non] [] (He.ga K "_law_told") fd ∧ FnOk P w K mg base CX0 10 (He.ga K "_law_told") fd ["_law_graph_here", "_law_rewrite", "_law_handed", "_law_others"] (spTold K) := by
  obtain ⟨fd, F⟩ := T.d__law_told
  obtain ⟨fr, ds, Fr, hds, hb, hkp⟩ := c_rewritten (P := P) (base := base) T hP
  refine ⟨fd, F, F.ok (k := 9) sc__law_told (fun vs H Q E h => by repeat (first | (obtain ⟨e, _⟩ := h; subst e; rfl) | (obtain ⟨_, h⟩ := h))) (fun cdv A outer s H vs Q E hr h => ?_)⟩
  obtain ⟨vg, vr, f, g, D, u, l, rfl, hg, hr1, hD, gs, hf, q1, q2⟩ := h
  refine ⟨_, PSs.nox (pss_cons (ps_set (i := 4) sc__law_told.nd rfl (.inl rfl) pe_non) (pss_cons
    (ps_try_as (i := 5) (tb := fun W => tAsg (tCallSD (spRw K) [] (WE W) (tCons (tVar 0) (tCons (tVar 1) (tCons (tC (V.str "main")) (tCons (tVar 2) (tCons tDNewK (tCons (tVar 3) tNil))))))) (gName 4)) (ts := tsH K) (Wout := fun _ _ _ _ => False) rfl rfl sc__law_told.nd rfl rfl ⟨rfl, by decide, Or.inl (T.g "WholeError" (by decide))⟩ takes0
      (fun W pn xe tk _ => pss_one (ps_set (i := 4) sc__law_told.nd rfl (.inl rfl) (by exact (pe_callSD Fr (hr.mono (by omega)) (by rfl) (T.g "rewritten" (by decide)) hkp hb hds (fun σ => passAt tk σ) (pa_cons (pv 0) (pa_cons (pv 1) (pa_cons pe_str (pa_cons (pv 2) (pa_cons pe_dnewK (pa_cons (pv 3) pa_nil))))))))))
      (fun a oe cls d pn hz hf => told_suite T hz hf))
    (pss_one (ps_ret (pv 4))))), ?_⟩
  refine ⟨vg, rfl, vr, rfl, .ref f, rfl, fun d4 hd4 => ?_⟩
  have s1 := same_new (o := .dK []) hd4
  refine ⟨.non, rfl, vg, vr, .str "main", f, d4, g, D, u, l, rfl, dp_mono s1 _ _ hg, dp_mono s1 _ _ hr1, hD, upd_same, gs, hf.mono s1, ?_, ?_⟩
  · exact fun x hx z H' s hz => ⟨z, rfl, q1 x hx z H' (s1.trans s) hz⟩
  · intro no H' s
    refine ⟨true, T.exm, fun _ a ha => ?_, fun q => Bool.noConfusion q⟩
    refine ⟨.ref a, rfl, _, _, _, true, rfl, rfl, T.x_InvalidRewrite.ex, rfl, .own _, T.isR, _, rfl, iteT ⟨.ref a, rfl, _, _, _, true, rfl, rfl, T.x_InvalidRewrite.ex, rfl, .ty _, T.isV, ?_⟩⟩
    refine ⟨.ref a, rfl, (by show 6 ≤ sizeLine; decide), fun tp htp => ⟨_, tp, _, _, false, rfl, rfl, T.x_InvalidRewrite.ex, rfl, upd_same, (.cons (.own _) (.cons (.own _) (.cons (.own _) (.cons (.own _) (.cons (.own _) (.cons (.own _) .nil)))))), T.isO1, _, rfl, iteF ?_⟩⟩
    refine ⟨.ref a, rfl, (by show 9 ≤ sizeLine; decide), fun tp2 htp2 => ⟨_, tp2, _, _, false, rfl, rfl, T.x_InvalidRewrite.ex, rfl, upd_same, (.cons (.own _) (.cons (.own _) (.cons (.own _) (.cons (.own _) (.cons (.own _) (.cons (.own _) (.cons (.own _) (.cons (.own _) (.cons (.own _) .nil))))))))), T.isO2, _, rfl, iteF ?_⟩⟩
    exact ⟨.bl true, rfl, q2 no _ (s1.trans (s.trans ((same_new htp).trans (same_new htp2))))⟩
theorem c_told3 (T : Txt w K mg) (hP : PrgOk file P) : CalD P w K mg base "_law_told" 10 ["_law_graph_here", "_law_rewrite", "_law_handed", "_law_others"] [V.non] (spTold K) := by
  obtain ⟨fd, F, G⟩ := f_told (P := P) (base := base) T hP
  obtain ⟨ds, h1, h2⟩ := F.binds1 (ps := ["_law_graph_here", "_law_rewrite", "_law_handed", "_law_others"]) 3 0 (by simp) rfl (fun T kV doc pm an cdv ct us its h1 h2 => match us, h1, its, h2 with
      | [_, _, _], _, [_], _ => ⟨_, rfl, rfl⟩)
  exact ⟨⟨fd, ds, G, h1, h2⟩, T.g _ (by decide), F.kp⟩
end
end K48

set_option maxHeartbeats 4000000
/-! HOff: t + u, t[a:b] of data that lie apart from two places (the deck). -/
namespace HG
open PySem PySem.Spec PyProof.Rows L2
section
variable {X : Cx} {K : PySem.W.Frag}
theorem off_new {d c p : Addr} {H : Hp} {o : HO} (hd : H d ≠ none) (hc : H c ≠ none) (hp : H p = none) : Same (off d c H) (off d c (upd H p o)) := fun b u e => by
  unfold off at e ⊢
  split at e
  · cases e
  · rename_i n
    rw [if_neg n]
    exact upd_get hp e
theorem off_at {d c p : Addr} {H : Hp} {o : HO} (hd : H d ≠ none) (hc : H c ≠ none) (hp : H p = none) : off d c (upd H p o) p = some o := by
  have n1 : p ≠ d := fun z => hd (by rw [← z]; exact hp)
  have n2 : p ≠ c := fun z => hc (by rw [← z]; exact hp)
  rw [off_get n1 n2, upd_same]
theorem dp_tupO {d c p : Addr} {H : Hp} {vs : List V} {ds : List PyData} (hd : H d ≠ none) (hc : H c ≠ none) (hp : H p = none) (h : DpAll K (off d c H) vs ds) : Dp K (off d c (upd H p (.tup vs))) (.ref p) (.tuple ds) :=
  .tup (.inl (.inl (off_at hd hc hp))) (dpAll_mono (off_new hd hc hp) _ _ h)
theorem dp_lstO {d c p : Addr} {H : Hp} {vs : List V} {ds : List PyData} (hd : H d ≠ none) (hc : H c ≠ none) (hp : H p = none) (h : DpAll K (off d c H) vs ds) : Dp K (off d c (upd H p (.lst vs))) (.ref p) (.list ds) :=
  .lst (.inl (.inl (off_at hd hc hp))) (dpAll_mono (off_new hd hc hp) _ _ h)
theorem sqT_off {d c a : Addr} {H : Hp} {xs : List V} (h : SqT K (off d c H) a xs) : SqT K H a xs := sqT_kt (KT.of off_same) h
def rCatO (K : PySem.W.Frag) : R2 := fun x y H Q => ∃ d c ds es, Dp K (off d c H) x (.tuple ds) ∧ Dp K (off d c H) y (.tuple es) ∧ H d ≠ none ∧ H c ≠ none ∧ ds.length + es.length ≤ sizeLine ∧ ∀ z H', Same H H' → Dp K (off d c H') z (.tuple (ds ++ es)) → Q z H'
theorem op_catO (hK : X.K = K) : OpR X (binaryOp .Add) (rCatO K) := by
  subst hK
  intro pins s σ H x y v u Q I rx ry h
  obtain ⟨d, c, ds, es, hx, hy, nd, nc, hz, q⟩ := h
  cases hx with
  | @tup a xs _ sa ha =>
    cases hy with
    | @tup b ys _ sb hb =>
      have l1 := dpAll_len ha
      have l2 := dpAll_len hb
      refine op_catA pins s σ H _ _ v u Q I rx ry ⟨a, b, xs, ys, rfl, rfl, sqT_off sa, sqT_off sb, by omega, fun e => ?_, fun _ e => ?_, fun _ _ p hp => ?_⟩
      · subst e
        cases ha
        exact q _ _ (Same.refl _) (.tup sb hb)
      · subst e
        cases hb
        rw [List.append_nil] at q
        exact q _ _ (Same.refl _) (.tup sa ha)
      · exact q _ _ (same_new hp) (dp_tupO nd nc hp (dpAll_app ha hb))
def rSlO (K : PySem.W.Frag) : V → Option Int → Option Int → Hp → VK → Prop := fun x lo hi H Q => ∃ d c ds, Dp K (off d c H) x (.tuple ds) ∧ H d ≠ none ∧ H c ≠ none ∧ ∀ z H', Same H H' → Dp K (off d c H') z (.tuple (cutP ds lo hi)) → Q z H'
theorem sl_O (hK : X.K = K) : SlR X (rSlO K) := by
  subst hK
  intro pins s σ H x v vl vu lo hi sl Q I rx hs pl pu h
  obtain ⟨d, c, ds, hx, nd, nc, q⟩ := h
  cases hx with
  | @tup a xs _ sa ha =>
    have l1 := dpAll_len ha
    refine sl_tupA pins s σ H _ v vl vu lo hi sl Q I rx hs pl pu ⟨a, xs, rfl, sqT_off sa, fun e => ?_, fun _ p hp => ?_⟩
    · rw [l1] at e
      rw [cutD_all ds lo hi e] at q
      exact q _ _ (Same.refl _) (.tup sa ha)
    · exact q _ _ (same_new hp) (dp_tupO nd nc hp (dpAll_cut lo hi ha))
theorem same_ne {H H' : Hp} (s : Same H H') {a : Addr} (h : H a ≠ none) : H' a ≠ none := by
  cases e : H a with
  | none => exact absurd e h
  | some o =>
    rw [s _ _ e]
    exact fun z => by cases z
theorem off_mono {d c : Addr} {H H' : Hp} (s : Same H H') : Same (off d c H) (off d c H') := fun b o e => by
  unfold off at e ⊢
  split at e
  · cases e
  · rename_i n
    rw [if_neg n]
    exact s _ _ e
end
end HG

set_option maxHeartbeats 4000000
/-! HLs: lists of data, apart from the deck (two places) and from a list that is being made (a third). -/
namespace HG
open PySem PySem.Spec PyProof.Rows L2
section
variable {K : PySem.W.Frag}
structure LsD (K : PySem.W.Frag) (H : Hp) (a : Addr) (Ds : List PyData) : Prop where
  ex : ∃ vs, H a = some (.lst vs) ∧ DpAll K H vs Ds
theorem LsD.mono {H H' : Hp} {a : Addr} {Ds : List PyData} (h : LsD K H a Ds) (s : Same H H') : LsD K H' a Ds := by
  obtain ⟨vs, e, g⟩ := h.ex
  exact ⟨vs, s _ _ e, dpAll_mono s _ _ g⟩
def off3 (d c D : Addr) (H : Hp) : Hp := off D D (off d c H)
theorem off3_get {d c D b : Addr} {H : Hp} (h1 : b ≠ d) (h2 : b ≠ c) (h3 : b ≠ D) : off3 d c D H b = H b := by
  unfold off3
  rw [off_get h3 h3, off_get h1 h2]
theorem off3_same {d c D : Addr} {H : Hp} : Same (off3 d c D H) (off d c H) := off_same
theorem off3_mono {d c D : Addr} {H H' : Hp} (s : Same (off d c H) (off d c H')) : Same (off3 d c D H) (off3 d c D H') := off_mono s
theorem off3_new {d c D p : Addr} {H : Hp} {o : HO} (hp : H p = none) : Same (off3 d c D H) (off3 d c D (upd H p o)) := off_mono (off_mono (same_new hp))
theorem off3_upd {d c D : Addr} {H : Hp} {o : HO} (h1 : D ≠ d) (h2 : D ≠ c) : Same (off3 d c D H) (off3 d c D (upd H D o)) := fun b u e => by
  unfold off3 off at e ⊢
  split at e
  · cases e
  rename_i n
  have nb : b ≠ D := fun z => n (.inl z)
  rw [if_neg n]
  split at e
  · cases e
  rename_i n2
  rw [if_neg n2, upd_ne nb]
  exact e
theorem off3_in {d c D : Addr} {H H' : Hp} (hD : H D = none) (X : Ext d c H H') : Same (off d c H) (off3 d c D H') := fun b u e => by
  have nb : b ≠ D := fun z => by
    rw [z] at e
    unfold off at e
    split at e
    · cases e
    · rw [hD] at e
      cases e
  have e2 := X b u e
  unfold off3
  rw [off_get nb nb]
  exact e2
theorem dp_tup3 {d c D p : Addr} {H : Hp} {vs : List V} {ds : List PyData} (h1 : p ≠ d) (h2 : p ≠ c) (h3 : p ≠ D) (hp : H p = none) (h : DpAll K (off3 d c D H) vs ds) : Dp K (off3 d c D (upd H p (.tup vs))) (.ref p) (.tuple ds) :=
  .tup (.inl (.inl (by rw [off3_get h1 h2 h3, upd_same]))) (dpAll_mono (off3_new hp) _ _ h)
theorem dp_lst3 {d c D p : Addr} {H : Hp} {vs : List V} {ds : List PyData} (h1 : p ≠ d) (h2 : p ≠ c) (h3 : p ≠ D) (hp : H p = none) (h : DpAll K (off3 d c D H) vs ds) : Dp K (off3 d c D (upd H p (.lst vs))) (.ref p) (.list ds) :=
  .lst (.inl (.inl (by rw [off3_get h1 h2 h3, upd_same]))) (dpAll_mono (off3_new hp) _ _ h)
/-- a list that is being made at D: what it holds so far -/
structure Mk3 (K : PySem.W.Frag) (d c D : Addr) (H : Hp) (acc : List V) (Ds : List PyData) : Prop where
  at_ : H D = some (.lst acc)
  nd : D ≠ d
  nc : D ≠ c
  all : DpAll K (off3 d c D H) acc Ds
theorem Mk3.step {d c D : Addr} {H : Hp} {acc : List V} {Ds : List PyData} {v : V} {E : PyData} (h : Mk3 K d c D H acc Ds) (hv : Dp K (off3 d c D H) v E) : Mk3 K d c D (upd H D (.lst (acc ++ [v]))) (acc ++ [v]) (Ds ++ [E]) :=
  ⟨upd_same, h.nd, h.nc, dpAll_mono (off3_upd h.nd h.nc) _ _ (dpAll_app h.all (.cons hv .nil))⟩
theorem Mk3.mono {d c D : Addr} {H H' : Hp} {acc : List V} {Ds : List PyData} (h : Mk3 K d c D H acc Ds) (s : Ext d c H H') : Mk3 K d c D H' acc Ds :=
  ⟨s.at h.nd h.nc h.at_, h.nd, h.nc, dpAll_mono (off3_mono s) _ _ h.all⟩
theorem Mk3.done {d c D : Addr} {H : Hp} {acc : List V} {Ds : List PyData} (h : Mk3 K d c D H acc Ds) : LsD K (off d c H) D Ds :=
  ⟨acc, by rw [off_get h.nd h.nc]; exact h.at_, dpAll_mono off3_same _ _ h.all⟩
theorem Mk3.start {d c D : Addr} {H : Hp} (h1 : D ≠ d) (h2 : D ≠ c) : Mk3 K d c D (upd H D (.lst [])) [] [] := ⟨upd_same, h1, h2, .nil⟩
theorem offA {d c a : Addr} {H : Hp} {o : HO} (h : off d c H a = some o) : H a = some o := off_same _ _ h
variable {X : Cx}
/-- a + b, two lists of data -/
def rCatLs (K : PySem.W.Frag) : R2 := fun x y H Q => ∃ d c a b Ds Es, x = .ref a ∧ y = .ref b ∧ LsD K (off d c H) a Ds ∧ LsD K (off d c H) b Es ∧ H d ≠ none ∧ H c ≠ none ∧ Ds.length + Es.length ≤ sizeLine ∧ ∀ p H', H p = none → Same H H' → LsD K (off d c H') p (Ds ++ Es) → Q (.ref p) H'
theorem op_catLs (hK : X.K = K) : OpR X (binaryOp .Add) (rCatLs K) := by
  subst hK
  intro pins s σ H x y v u Q I rx ry h
  obtain ⟨d, c, a, b, Ds, Es, rfl, rfl, ⟨xs, ea, ga⟩, ⟨ys, eb, gb⟩, nd, nc, hz, q⟩ := h
  have l1 := dpAll_len ga
  have l2 := dpAll_len gb
  refine op_cat pins s σ H _ _ v u Q I rx ry ⟨a, b, xs, ys, rfl, rfl, offA ea, offA eb, by omega, fun p hp => ?_⟩
  exact q p _ hp (same_new hp) ⟨xs ++ ys, off_at nd nc hp, dpAll_mono (off_new nd nc hp) _ _ (dpAll_app ga gb)⟩
/-- t + u, tuples of data apart from three places -/
def rCat3 (K : PySem.W.Frag) : R2 := fun x y H Q => ∃ d c D ds es, Dp K (off3 d c D H) x (.tuple ds) ∧ Dp K (off3 d c D H) y (.tuple es) ∧ H d ≠ none ∧ H c ≠ none ∧ H D ≠ none ∧ ds.length + es.length ≤ sizeLine ∧ ∀ z H', Same H H' → Dp K (off3 d c D H') z (.tuple (ds ++ es)) → Q z H'
theorem op_cat3 (hK : X.K = K) : OpR X (binaryOp .Add) (rCat3 K) := by
  subst hK
  intro pins s σ H x y v u Q I rx ry h
  obtain ⟨d, c, D, ds, es, hx, hy, nd, nc, nD, hz, q⟩ := h
  cases hx with
  | @tup a xs _ sa ha =>
    cases hy with
    | @tup b ys _ sb hb =>
      have l1 := dpAll_len ha
      have l2 := dpAll_len hb
      refine op_catA pins s σ H _ _ v u Q I rx ry ⟨a, b, xs, ys, rfl, rfl, sqT_off (sqT_off sa), sqT_off (sqT_off sb), by omega, fun e => ?_, fun _ e => ?_, fun _ _ p hp => ?_⟩
      · subst e
        cases ha
        exact q _ _ (Same.refl _) (.tup sb hb)
      · subst e
        cases hb
        rw [List.append_nil] at q
        exact q _ _ (Same.refl _) (.tup sa ha)
      · have n1 : p ≠ d := fun z => nd (by rw [← z]; exact hp)
        have n2 : p ≠ c := fun z => nc (by rw [← z]; exact hp)
        have n3 : p ≠ D := fun z => nD (by rw [← z]; exact hp)
        exact q _ _ (same_new hp) (dp_tup3 n1 n2 n3 hp (dpAll_app ha hb))
end
end HG

set_option maxHeartbeats 4000000
namespace K48
open PySem PySem.Spec PyProof.Rows L2 HG P52 P50 P48
theorem opt_up {M N : Nat} {v : Option Nat} (h : optOk M v) (hN : M ≤ N) : optOk N v := fun n e => Nat.lt_of_lt_of_le (h n e) hN
theorem rwOk_up {M N : Nat} {R : Rw} (h : RwOk M R) (hN : M ≤ N) : RwOk N R := by
  cases R with
  | cw v i => exact ⟨Nat.lt_of_lt_of_le h.1 hN, h.2⟩
  | cf v x => exact ⟨Nat.lt_of_lt_of_le h.1 hN, h.2⟩
  | cp v u => exact ⟨Nat.lt_of_lt_of_le h.1 hN, Nat.lt_of_lt_of_le h.2 hN⟩
  | op v x a b => exact ⟨Nat.lt_of_lt_of_le h.1 hN, h.2.1, opd_up h.2.2.1 hN, opd_up h.2.2.2 hN⟩
  | ld v x => exact ⟨Nat.lt_of_lt_of_le h.1 hN, h.2⟩
  | rd v x a => exact ⟨Nat.lt_of_lt_of_le h.1 hN, h.2.1, opd_up h.2.2 hN⟩
  | ca v x as => exact ⟨opt_up h.1 hN, h.2.1, h.2.2.1, fun a ha => opd_up (h.2.2.2 a ha) hN⟩
  | ap v f as => exact ⟨opt_up h.1 hN, Nat.lt_of_lt_of_le h.2.1 hN, h.2.2.1, fun a ha => opd_up (h.2.2.2 a ha) hN⟩
  | st x a => exact ⟨h.1, opd_up h.2 hN⟩
  | pr a => exact opd_up h hN
  | wr x a b => exact ⟨h.1, opd_up h.2.1 hN, opd_up h.2.2 hN⟩
theorem stp9 {N B : Nat} {E : Stp} (h : StpOk N B E) (hB : B ≤ 9) : StpOk N 9 E := by
  cases E with
  | jp n => exact Nat.lt_of_lt_of_le h hB
  | br a n m => exact ⟨h.1, Nat.lt_of_lt_of_le h.2.1 hB, Nat.lt_of_lt_of_le h.2.2 hB⟩
  | rt a => exact h
  | ht i => exact h
theorem gSize_le {m : Nat} : ∀ bs : List Blk, (∀ b ∈ bs, b.rows.length ≤ m) → gSize bs ≤ (m + 1) * bs.length
  | [], _ => Nat.le_refl _
  | b :: r, hb => by
    have h1 := hb b List.mem_cons_self
    have h2 := gSize_le r fun x hx => hb x (List.mem_cons_of_mem _ hx)
    unfold gSize at h2 ⊢
    rw [List.map_cons, List.sum_cons, List.length_cons, Nat.mul_succ]
    omega
theorem gsm_of {N : Nat} {g : Gr} (h : GrM N g) : GSm g := by
  have h1 := gSize_le g.blocks fun b hb => (h.blk b hb).len
  have h2 := h.many
  exact ⟨⟨N, fun b hb R hR => (h.blk b hb).rows R hR⟩, by omega, fun b hb => by have := (h.blk b hb).len; omega, by omega⟩
theorem dk_ne {d c : Addr} {n : Nat} {H : Hp} (D : Deck d c n H) : H d ≠ none ∧ H c ≠ none := by
  obtain ⟨ns, m, t, e1, e2, _⟩ := D.ex
  exact ⟨fun z => by (rw [e1] at z; cases z), fun z => by (rw [e2] at z; cases z)⟩
def spMore (K : PySem.W.Frag) : Sp := fun vs H Q _ => ∃ (d c wd : Addr) (n N : Nat) (vg : V) (g : Gr), vs = [.ref d, .ref wd, vg] ∧ n < 2 ^ 46 ∧ Deck d c n H ∧ Wd K (off d c H) wd ∧ Dp K H vg g.D ∧ GrOk N g ∧ g.blocks.length ≤ 4 ∧
  ∀ (v : V) (g2 : Gr) (N2 : Nat) (H' : Hp), Deck d c (n + 200) H' → Ext d c H H' → Dp K H' v g2.D → GrM N2 g2 → Q v H'
section
variable {P : Program} {w : World} {K : PySem.W.Frag} {mg : Str → Option Value} {base : Heap}
set_option pp.maxSteps 100 in
set_option pp.maxSteps 600 in
theorem c_more_stores (T : Txt w K mg) : Cal P w K mg base "_law_more_stores" 4 ["_law_deck_here", "_law_world_here", "_law_graph_here"] (spMore K) := by
  obtain ⟨fd, F⟩ := T.d__law_more_stores
  have C__law_draw := c_draw (P := P) (w := w) (base := base) T
  have C__law_pick := c_pick (P := P) (w := w) (base := base) T
  have C__law_word := c_word (P := P) (w := w) (base := base) T
  refine ⟨⟨fd, F.ok sc__law_more_stores (fun vs H Q E h => by repeat (first | (obtain ⟨e, _⟩ := h; subst e; rfl) | (obtain ⟨_, h⟩ := h))) (fun cdv A outer s H vs Q E hr h => ?_), F.bindsN fun _ _ _ _ _ _ us hl => match us, hl with | [_, _, _], _ => rfl⟩, T.g _ (by decide), F.kp⟩
  obtain ⟨d, c, wd, n, N, vg, g, rfl, hn, dk, hwd, hg, ok, hl5, q⟩ := h
  have hu := hu_of hr
  refine ⟨_, PSs.nox (pss_cons (ps_par (i := 3) (j := 4) rfl sc__law_more_stores.nd rfl rfl (by decide) rfl rfl (pa_cons (pe_lst pa_nil) (pa_cons (pe_lc (own := [("_law_name", 10), ("_law_size", 11)]) (by rfl) sc__law_more_stores.nd (pi_list (pe_dget hu (pv 1) pe_str (fun _ _ => rfl))) (blkOk_by (own := [("_law_name", 10), ("_law_size", 11)]) (N := N__law_more_stores) (sc := defScope s__law_more_stores) (by decide +kernel)) (fun _ _ _ _ _ => (pg_tupK (K := K) (n := 2) rfl rfl (pgs_cons (pg_name (i := 10) sc__law_more_stores.nd rfl (.inl rfl)) (pgs_cons (pg_name (i := 11) sc__law_more_stores.nd rfl (.inl rfl)) pgs_nil)))) (fun _ _ _ _ _ => pts_nil) (fun _ _ _ _ _ => (pv 10))) pa_nil)) (by rfl))
      (pss_cons (ps_for PassesOwn.never rfl (pi_tup (pe_ix (ix_P (K := K) rfl) (pv 2) pe_int (fun _ _ => rfl))) (pg_tupK (K := K) (n := 2) rfl rfl (pgs_cons (pg_name (i := 5) sc__law_more_stores.nd rfl (.inl rfl)) (pgs_cons (pg_name (i := 6) sc__law_more_stores.nd rfl (.inl rfl)) pgs_nil))) (pss_cons (ps_set (i := 5) sc__law_more_stores.nd rfl (.inl rfl) (pe_callTy call_list_of (by rfl) T.n_list (by decide +kernel) (pa_cons (pv 5) pa_nil)))
      (pss_cons (ps_for PassesOwn.never rfl (pi_range1 (by rfl) T.n_range (pa_cons (pe_cal C__law_draw (hr.mono (by omega)) (by rfl) (pa_cons (pv 0) (pa_cons pe_int pa_nil))) pa_nil)) (pg_name (i := 7) sc__law_more_stores.nd rfl (.inl rfl)) (pss_cons (ps_set (i := 8) sc__law_more_stores.nd rfl (.inl rfl) (pe_cal C__law_draw (hr.mono (by omega)) (by rfl) (pa_cons (pv 0) (pa_cons (pe_op op_add (pe_callB (lenK (K := K) rfl) (by rfl) T.n_len (by decide +kernel) (pa_cons (pv 5) pa_nil)) pe_int) pa_nil))))
      (pss_cons (ps_set (i := 9) sc__law_more_stores.nd rfl (.inl rfl) (pe_tup (pa_cons pe_str (pa_cons (pe_cal C__law_pick (hr.mono (by omega)) (by rfl) (pa_cons (pv 0) (pa_cons (pe_dget hu (pv 1) pe_str (fun _ _ => rfl)) pa_nil))) (pa_cons (pe_cal C__law_word (hr.mono (by omega)) (by rfl) (pa_cons (pv 0) pa_nil)) pa_nil)))))
      (pss_cons (ps_if (pt_cmpR op_eq (pe_cal C__law_draw (hr.mono (by omega)) (by rfl) (pa_cons (pv 0) (pa_cons pe_int pa_nil))) pe_int (nomark _)) (pss_one (ps_set (i := 9) sc__law_more_stores.nd rfl (.inl rfl) (pe_tup (pa_cons pe_str (pa_cons (pe_cal C__law_pick (hr.mono (by omega)) (by rfl) (pa_cons (pv 0) (pa_cons (pv 4) pa_nil))) (pa_cons (pe_cal C__law_draw (hr.mono (by omega)) (by rfl) (pa_cons (pv 0) (pa_cons pe_int pa_nil))) (pa_cons (pe_cal C__law_word (hr.mono (by omega)) (by rfl) (pa_cons (pv 0) pa_nil)) pa_nil))))))) pss_nil)
      (pss_one (ps_expr (pe_bm PySem.F.plainAttrs_list PySem.F.slot_list_insert PySem.F.type_list_insert mt_insert (pv 5) (pa_cons (pv 8) (pa_cons (pv 9) pa_nil)))))))))
      (pss_one (ps_expr (pe_bm PySem.F.plainAttrs_list PySem.F.slot_list_append PySem.F.type_list_append mt_append (pv 3) (pa_cons (pe_tup (pa_cons (pe_callTy call_tuple_of (by rfl) T.n_tuple (by decide +kernel) (pa_cons (pv 5) pa_nil)) (pa_cons (pv 6) pa_nil))) pa_nil)))))))
      (pss_one (ps_ret (pe_tup (pa_cons (pe_ix (ix_P (K := K) rfl) (pv 2) pe_int (fun _ _ => rfl)) (pa_cons (pe_callTy call_tuple_of (by rfl) T.n_tuple (by decide +kernel) (pa_cons (pv 3) pa_nil)) pa_nil))))))), ?_⟩
  refine ⟨Nat.zero_le _, fun bl hbl => ?_⟩
  have nbl := dk.has hbl
  have s1 := same_new (o := .lst []) hbl
  have dk1 := dk.same s1
  have e1 : (upd H bl (.lst [])) bl = some (.lst []) := upd_same
  have X1 : Ext d c H (upd H bl (.lst [])) := off_same_mono s1
  have hg1 := dp_mono s1 _ _ hg
  have hwd1 := hwd.mono X1
  generalize upd H bl (.lst []) = H1 at dk1 e1 X1 hg1 hwd1 ⊢
  clear s1
  obtain ⟨ca, ce, ar, hh, cs, as, cvs, avs, es, w1, w2, w3, w4, w5, w6, hcl, hcs, hel, hes, hal, has, hho⟩ := hwd1.ex
  have hav := dpAll_len w6
  rw [List.length_map, hal] at hav
  refine ⟨.ref wd, rfl, wd, _, rfl, DGet.k (k := Sum.inr "arrays") (off_at w1).1, ar, rfl, ⟨avs, .inl (.inl (off_at w5).1)⟩, fun sp hsp => ?_⟩
  refine lc_list (xs := avs) (fun i H2 => H2 sp = some (.lst (((as.take i).map fun p => p.1).map V.str)) ∧ Same H1 H2) ⟨upd_same, same_new hsp⟩ ?_ ?_ ?_
  · rintro i H2 _ ⟨_, s2⟩
    exact .inl (.inl (s2 _ _ (off_at w5).1))
  · rintro i x H2 hx ⟨e2, s2⟩
    obtain ⟨⟨nm, sz⟩, hp, hxD⟩ := dpAll_map_get w6 hx
    have hxD := dp_mono s2 _ _ (offD hxD)
    cases hxD with
    | @tup ax xx _ sqx hax =>
    cases hax with
    | cons y0 r0 =>
    cases r0 with
    | cons y1 r1 =>
    cases r1
    cases y0
    cases y1
    refine ⟨ax, _, rfl, sqx, rfl, _, _, rfl, _, _, rfl, rfl, rfl, tyes ⟨_, rfl, _, e2, small_line (by rw [List.length_map, List.length_map, List.length_take]; omega), ?_, fun b o hb => ?_⟩⟩
    · rw [upd_same, take_snoc hp, List.map_append, List.map_append]
      rfl
    · rw [upd_ne (ne_of_none hb hsp)]
      exact s2 _ _ hb
  rintro H2 ⟨esp, s2⟩
  have nsp := dk1.has hsp
  rw [List.take_of_length_le (by omega)] at esp
  have dk2 := dk1.same s2
  have X2 := X1.trans (off_same_mono s2)
  have hg2 := dp_mono s2 _ _ hg1
  have ebl := s2 _ _ e1
  have nsb : sp ≠ bl := fun z => by rw [z, e1] at hsp; cases hsp
  clear hg1 hwd1 w1 w2 w3 w4 w5 w6 hav e1 dk1 X1 s2
  refine ⟨_, _, rfl, vg, rfl, _, 1, _, hg2, rfl, rfl, fun zb hzb => ?_⟩
  cases hzb with
  | @tup ab xb _ sqb hab =>
  have hxb := dpAll_len hab
  rw [List.length_map] at hxb
  refine ⟨ab, rfl, ⟨_, sqb⟩, ?_⟩
  refine for_tup (xs := xb) (fun i σ H3 => ∃ x5 x6 x7 x8 x9 acc bs, σ = [some (.ref d), some (.ref wd), some vg, some (.ref bl), some (.ref sp), x5, x6, x7, x8, x9, none, none] ∧ H3 bl = some (.lst acc) ∧ H3 sp = some (.lst ((as.map fun p => p.1).map V.str)) ∧ DpAll K H3 acc (bs.map Blk.D) ∧ bs.length = i ∧ (∀ b ∈ bs, BkM N 9 b) ∧ Deck d c (n + 40 * i) H3 ∧ Ext d c H H3 ∧ KT H2 H3) ⟨_, _, _, _, _, [], [], rfl, ebl, esp, .nil, rfl, (fun _ h => nomatch h), dk2, X2, KT.refl _⟩ ?_ ?_ ?_
  · rintro i σ H3 _ ⟨x5, x6, x7, x8, x9, acc, bs, rfl, _, _, _, _, _, _, _, k2⟩
    exact sqT_kt k2 sqb
  · rintro i x σ H3 hx ⟨x5, x6, x7, x8, x9, acc, bs, rfl, e2, esp3, h2, hbl2, hbk, dk3, X3, k2⟩
    obtain ⟨b, hb, hxD⟩ := dpAll_map_get hab hx
    have okb := ok.blk b (List.mem_of_getElem? hb)
    have hxD := dp_kt k2 _ _ (nlB b) hxD
    have hi := (List.getElem?_eq_some_iff.mp hx).1
    cases hxD with
    | @tup a2 x2 _ sq2 ha2 =>
    cases ha2 with
    | cons k0 kr =>
    cases kr with
    | cons k1 kr1 =>
    cases kr1
    cases k0 with
    | @tup ar0 xr _ sqr har =>
    have hlr := dpAll_len har
    rw [List.length_map] at hlr
    have hrl := okb.len
    refine ⟨a2, _, rfl, sq2, rfl, _, _, rfl, _, _, rfl, rfl, .ref ar0, rfl, ar0, _, rfl, .inr sqr, fun L hL => ?_⟩
    have nL := dk3.has hL
    have nLb : L ≠ bl := fun z => by rw [z, e2] at hL; cases hL
    have nLs : L ≠ sp := fun z => by rw [z, esp3] at hL; cases hL
    have sL := same_new (o := .lst xr) hL
    have dk4 := dk3.same sL
    have eL : (upd H3 L (.lst xr)) L = some (.lst xr) := upd_same
    have har4 := dpAll_mono sL _ _ har
    have X34 : Ext d c H3 (upd H3 L (.lst xr)) := off_same_mono sL
    generalize upd H3 L (.lst xr) = H4 at dk4 eL har4 X34 ⊢
    refine ⟨.ref d, rfl, d, c, _, 5, rfl, by decide, by decide, by omega, dk4, fun r HA r0 r1 dkA XA => ?_⟩
    obtain ⟨m, rfl⟩ := Int.eq_ofNat_of_zero_le r0
    have hm : m ≤ 4 := by omega
    refine ⟨_, rfl, by omega, by omega, for_range (lo := 0) (n := ((m : Nat) : Int).toNat) (fun k σ H5 => ∃ x7 x8 x9 us rs, σ = [some (.ref d), some (.ref wd), some vg, some (.ref bl), some (.ref sp), some (.ref L), some _, x7, x8, x9, none, none] ∧ H5 L = some (.lst us) ∧ DpAll K H5 us (rs.map Rw.D) ∧ rs.length ≤ 15 + k ∧ (∀ R ∈ rs, RwOk N R) ∧ Deck d c (n + 40 * i + 1 + 7 * k) H5 ∧ Ext d c H3 H5)
      ⟨_, _, _, xr, b.rows, rfl, XA.at nL.1 nL.2 eL, dpAll_kt (ext_kt dk4 XA) _ _ (nlRs b.rows) har4, by omega, okb.rows, dkA, X34.trans XA⟩ ?_ ?_⟩
    · rintro k σ H5 hk ⟨x7, x8, x9, us, rs, rfl, e5, h5, hl, hrk, dk5, X5⟩
      have hk : k < 4 := by omega
      have i5 : i < 4 := by omega
      have hul := dpAll_len h5
      rw [List.length_map] at hul
      refine ⟨.ref d, rfl, .ref L, rfl, .ref L, us.length, rfl, .inl ⟨us, .inl (.inl e5), rfl⟩, _, _, rfl, rfl, d, c, _, ((us.length : Nat) : Int) + 1, rfl, by omega, by have : (1001 : Int) < 10 ^ 40 := (by decide); omega, by omega, dk5, fun r6 H6 r60 r61 dk6 X6 => ?_⟩
      have hwd6 := hwd.mono (X3.trans (X5.trans X6))
      obtain ⟨ca, ce, ar, hh, cs, as9, cvs, avs, es, w1, w2, w3, w4, w5, w6, hcl, hcs, hel, hes, hal2, has9, hho⟩ := hwd6.ex
      refine ⟨.ref d, rfl, .ref wd, rfl, wd, _, rfl, DGet.k (k := Sum.inr "cells") (off_at w1).1, d, c, ce, _, es.map V.str, rfl, dk6, by omega, .inl (.inl w4), by rw [List.length_map]; omega, by rw [List.length_map]; omega, fun j y H7 hy dk7 X7 => ?_⟩
      rw [List.getElem?_map] at hy
      obtain ⟨z, hz, rfl⟩ := Option.map_eq_some_iff.mp hy
      have hzn := hes z (List.mem_of_getElem? hz)
      refine ⟨.ref d, rfl, d, c, _, rfl, by omega, dk7, fun wi H8 w0 w1a dk8 X8 => ⟨(by show 3 ≤ sizeLine; decide), fun pr hpr => ?_⟩⟩
      have X58 := X6.trans (X7.trans X8)
      clear X6 X7 X8 w1 w2 w3 w4 w5 w6 dk6 dk7 hwd6
      have npr := dk8.has hpr
      have sp8 := same_new (o := .tup [.str "store", .str z, .int wi]) hpr
      have e8 : (upd H8 pr (.tup [.str "store", .str z, .int wi])) pr = some (.tup [.str "store", .str z, .int wi]) := upd_same
      have dk9 := dk8.same sp8
      have X59 := X58.trans (off_same_mono sp8)
      generalize upd H8 pr (.tup [.str "store", .str z, .int wi]) = H9 at sp8 e8 dk9 X59 ⊢
      refine ⟨.ref d, rfl, d, c, _, 2, rfl, by decide, by decide, by omega, dk9, fun r10 HB r100 r101 dkB XB => ⟨rfl, _, rfl, ?_⟩⟩
      have eB := XB.at npr.1 npr.2 e8
      have X5B := X59.trans XB
      cases hb : decide (V.int r10 = V.int 0) with
      | true =>
        refine iteT ⟨.ref d, rfl, .ref sp, rfl, d, c, sp, _, (as.map fun p => p.1).map V.str, rfl, dkB, by omega, .inl (.inl ?_), by rw [List.length_map, List.length_map]; omega, by rw [List.length_map, List.length_map]; omega, fun j y HC hy dkC XC => ?_⟩
        · rw [off_get nsp.1 nsp.2]
          exact (X5.trans X5B).at nsp.1 nsp.2 esp3
        rw [List.getElem?_map] at hy
        obtain ⟨x, hx2, rfl⟩ := Option.map_eq_some_iff.mp hy
        rw [List.getElem?_map] at hx2
        obtain ⟨px, hpx, rfl⟩ := Option.map_eq_some_iff.mp hx2
        have hxn := (has px (List.mem_of_getElem? hpx)).1
        refine ⟨.ref d, rfl, d, c, _, 6, rfl, by decide, by decide, by omega, dkC, fun ri HD ri0 ri1 dkD XD => ⟨.ref d, rfl, d, c, _, rfl, by omega, dkD, fun wj HE wj0 wj1 dkE XE => ⟨(by show 4 ≤ sizeLine; decide), fun pr hpr => ?_⟩⟩⟩
        have X5E := X5B.trans (XC.trans (XD.trans XE))
        have eL9 := X5E.at nL.1 nL.2 e5
        have h9 := dpAll_kt (ext_kt dk5 X5E) _ _ (nlRs rs) h5
        obtain ⟨g9, s9⟩ := tupN2 (K := K) hpr (.cons (.str "write") (.cons (.str px.1) (.cons (.int ri) (.cons (.int wj) .nil))))
        have e9 := s9 _ _ eL9
        refine ⟨.ref L, rfl, .inl ⟨rfl, _, .inl (.inl e9)⟩, _, rfl, _, rfl, L, us, r6, .ref pr, rfl, rfl, e9, small_line (by omega), by omega, by omega, ?_⟩
        obtain ⟨pos, hpos⟩ := Int.eq_ofNat_of_zero_le r60
        rw [hpos, Int.toNat_natCast]
        have ke := KT.lst (o := .lst (us.take pos ++ [.ref pr] ++ us.drop pos)) e9
        have h9 := dpAll_kt ke _ _ (nlRs rs) (dpAll_mono s9 _ _ h9)
        have g9' := dp_kt ke _ _ (nlR (.wr px.1 (.w ri) (.w wj))) g9
        refine ⟨_, _, _, us.take pos ++ [.ref pr] ++ us.drop pos, rs.take pos ++ [.wr px.1 (.w ri) (.w wj)] ++ rs.drop pos, rfl, upd_same, ?_, ?_, ?_, ((dkE.same s9).upd nL.1 nL.2).up (by omega), ?_⟩
        · rw [List.map_append, List.map_append, List.map_take, List.map_drop]
          exact dpAll_app (dpAll_app (dpAll_take pos h9) (.cons g9' .nil)) (dpAll_drop pos h9)
        · simp only [List.length_append, List.length_take, List.length_drop, List.length_cons, List.length_nil]
          omega
        · intro R hR2
          rcases List.mem_append.mp hR2 with h | h
          · rcases List.mem_append.mp h with h | h
            · exact hrk R (List.mem_of_mem_take h)
            · rw [List.mem_singleton.mp h]
              exact ⟨hxn, ⟨ri0, by omega⟩, ⟨wj0, wj1⟩⟩
          · exact hrk R (List.mem_of_mem_drop h)
        · exact (X5.trans (X5E.trans (off_same_mono s9))).mut hL
      | false =>
        refine iteF ?_
        have eL9 := X5B.at nL.1 nL.2 e5
        have h9 := dpAll_kt (ext_kt dk5 X5B) _ _ (nlRs rs) h5
        have g9 : Dp K HB (.ref pr) (Rw.st z (.w wi)).D := .tup (.inl (.inl eB)) (.cons (.str _) (.cons (.str _) (.cons (.int _) .nil)))
        have s9 := Same.refl HB
        have e9 := eL9
        refine ⟨.ref L, rfl, .inl ⟨rfl, _, .inl (.inl e9)⟩, _, rfl, _, rfl, L, us, r6, .ref pr, rfl, rfl, e9, small_line (by omega), by omega, by omega, ?_⟩
        obtain ⟨pos, hpos⟩ := Int.eq_ofNat_of_zero_le r60
        rw [hpos, Int.toNat_natCast]
        have ke := KT.lst (o := .lst (us.take pos ++ [.ref pr] ++ us.drop pos)) e9
        have h9 := dpAll_kt ke _ _ (nlRs rs) (dpAll_mono s9 _ _ h9)
        have g9' := dp_kt ke _ _ (nlR (.st z (.w wi))) g9
        refine ⟨_, _, _, us.take pos ++ [.ref pr] ++ us.drop pos, rs.take pos ++ [.st z (.w wi)] ++ rs.drop pos, rfl, upd_same, ?_, ?_, ?_, ((dkB.same s9).upd nL.1 nL.2).up (by omega), ?_⟩
        · rw [List.map_append, List.map_append, List.map_take, List.map_drop]
          exact dpAll_app (dpAll_app (dpAll_take pos h9) (.cons g9' .nil)) (dpAll_drop pos h9)
        · simp only [List.length_append, List.length_take, List.length_drop, List.length_cons, List.length_nil]
          omega
        · intro R hR2
          rcases List.mem_append.mp hR2 with h | h
          · rcases List.mem_append.mp h with h | h
            · exact hrk R (List.mem_of_mem_take h)
            · rw [List.mem_singleton.mp h]
              exact ⟨hzn, ⟨w0, w1a⟩⟩
          · exact hrk R (List.mem_of_mem_drop h)
        · exact (X5.trans (X5B.trans (off_same_mono s9))).mut hL
    rintro σ H5 ⟨x7, x8, x9, us, rs, rfl, e5, h5, hl, hrk, dk5, X5⟩
    have i5 : i < 4 := by omega
    have e5b := X5.at nbl.1 nbl.2 e2
    have h5b := dpAll_kt (ext_kt dk3 X5) _ _ (noLAll_map fun b _ => nlB b) h2
    have k15 := dp_kt (ext_kt dk3 X5) _ _ (nlE b.stop) k1
    refine ⟨.ref bl, rfl, .inl ⟨rfl, _, .inl (.inl e5b)⟩, .ref L, rfl, L, _, rfl, .inl ⟨.inl (.inl e5), fun tr htr => ⟨_, rfl, (by show 2 ≤ sizeLine; decide), fun tb htb => ?_⟩⟩⟩
    have g6 := dp_tupN (K := K) htr h5
    have s6 := same_new (o := .tup us) htr
    obtain ⟨g7, s7⟩ := tupN2 (K := K) htb (.cons g6 (.cons (dp_mono s6 _ _ k15) .nil))
    have s67 := s6.trans s7
    have e7 := s67 _ _ e5b
    have esp7 := s67 _ _ (X5.at nsp.1 nsp.2 esp3)
    have hal3 := dpAll_len h2
    rw [List.length_map] at hal3
    have ke := KT.lst (o := .lst (acc ++ [.ref tb])) e7
    refine ⟨bl, acc, .ref tb, rfl, rfl, e7, small_line (by omega), _, _, _, _, _, acc ++ [.ref tb], bs ++ [⟨rs, b.stop⟩], rfl, upd_same, ?_, ?_, by rw [List.length_append, hbl2]; rfl, ?_, ((dk5.same s67).upd nbl.1 nbl.2).up (by omega), ?_, ?_⟩
    · rw [upd_ne nsb]
      exact esp7
    · rw [List.map_append]
      refine dpAll_app (dpAll_kt ke _ _ (noLAll_map fun b _ => nlB b) (dpAll_mono s67 _ _ h5b)) (.cons (dp_kt ke _ _ (nlB ⟨rs, b.stop⟩) g7) .nil)
    · intro y hy
      rcases List.mem_append.mp hy with h | h
      · exact hbk y h
      · rw [List.mem_singleton.mp h]
        exact ⟨hrk, stp9 okb.stop ok.many, by show rs.length ≤ 19; omega⟩
    · exact ((X3.trans X5).trans (off_same_mono s67)).mut hbl
    · exact (k2.trans ((ext_kt dk3 X5).trans (KT.of s67))).trans ke
  rintro σ H3 ⟨x5, x6, x7, x8, x9, acc, bs, rfl, e2, esp3, h2, hbl2, hbk, dk3, X3, k2⟩
  have hg3 := dp_kt k2 _ _ (nlG g) hg2
  refine ⟨vg, rfl, _, 0, _, hg3, rfl, rfl, fun z0 hz0 => ⟨.ref bl, rfl, bl, _, rfl, .inl ⟨.inl (.inl e2), fun p3 hp3 => ⟨(by show 2 ≤ sizeLine; decide), fun p4 hp4 => ?_⟩⟩⟩⟩
  have g3 := dp_tupN (K := K) hp3 h2
  have g4 := dp_tupN (K := K) hp4 (.cons (dp_mono (same_new hp3) _ _ hz0) (.cons g3 .nil))
  have s4 := (same_new (o := .tup acc) hp3).trans (same_new (o := .tup [z0, .ref p3]) hp4)
  exact q _ ⟨g.count, bs⟩ N _ ((dk3.same s4).up (by omega)) (X3.trans (off_same_mono s4)) g4 ⟨ok.count, ok.small, by show bs.length ≤ 4; omega, hbk⟩
end
end K48

set_option maxHeartbeats 4000000
/-! P48V: what is known of names, as a dict, in plain Lean: ranks of keys, keys that are apart. -/
namespace P48
open PySem PySem.Spec PyProof.Rows L2 HG P52
def ltS (x y : Str) : Bool := decide (x.cps.toList < y.cps.toList)
theorem ltS_irr (x : Str) : ltS x x = false := decide_eq_false (List.lt_irrefl _)
theorem ltS_trans {x y z : Str} (h1 : ltS x y = true) (h2 : ltS y z = true) : ltS x z = true := decide_eq_true (List.lt_trans (of_decide_eq_true h1) (of_decide_eq_true h2))
theorem ltS_tri {x y : Str} (h : x ≠ y) (h1 : ltS x y = false) : ltS y x = true := by
  have n1 : ¬ x.cps.toList < y.cps.toList := of_decide_eq_false h1
  have hn : x.cps.toList ≠ y.cps.toList := fun e => h (by
    cases x with
    | mk a =>
      cases y with
      | mk b => exact congrArg Str.mk (Array.toList_inj.mp e))
  rcases Decidable.em (y.cps.toList < x.cps.toList) with k | k
  · exact decide_eq_true k
  · exact absurd (List.le_antisymm (List.not_lt.mp k) (List.not_lt.mp n1)) hn
def cntS (ns : List Str) (x : Str) : Nat := (ns.filter fun y => ltS y x).length
theorem cnt_le {ns : List Str} {x y : Str} (h : ltS x y = true) : cntS ns x ≤ cntS ns y := by
  unfold cntS
  induction ns with
  | nil => exact Nat.le_refl _
  | cons a r ih =>
    by_cases e : ltS a x = true
    · rw [List.filter_cons_of_pos (p := fun z => ltS z x) e, List.filter_cons_of_pos (p := fun z => ltS z y) (ltS_trans e h)]
      exact Nat.succ_le_succ ih
    · rw [List.filter_cons_of_neg (p := fun z => ltS z x) e]
      refine Nat.le_trans ih ?_
      by_cases e2 : ltS a y = true
      · rw [List.filter_cons_of_pos (p := fun z => ltS z y) e2]
        exact Nat.le_succ _
      · rw [List.filter_cons_of_neg (p := fun z => ltS z y) e2]
        exact Nat.le_refl _
theorem cnt_lt {ns : List Str} {x y : Str} (hx : x ∈ ns) (h : ltS x y = true) : cntS ns x < cntS ns y := by
  induction ns with
  | nil => cases hx
  | cons a r ih =>
    have le := cnt_le (ns := r) h
    unfold cntS at ih le ⊢
    by_cases ea : a = x
    · subst ea
      rw [List.filter_cons_of_neg (p := fun z => ltS z a) (by rw [ltS_irr]; decide), List.filter_cons_of_pos (p := fun z => ltS z y) h]
      exact Nat.lt_succ_of_le le
    · have hr : x ∈ r := by
        rcases List.mem_cons.mp hx with e | e
        · exact absurd e.symm ea
        · exact e
      have := ih hr
      by_cases e : ltS a x = true
      · rw [List.filter_cons_of_pos (p := fun z => ltS z x) e, List.filter_cons_of_pos (p := fun z => ltS z y) (ltS_trans e h)]
        exact Nat.succ_lt_succ this
      · rw [List.filter_cons_of_neg (p := fun z => ltS z x) e]
        by_cases e2 : ltS a y = true
        · rw [List.filter_cons_of_pos (p := fun z => ltS z y) e2]
          exact Nat.lt_succ_of_lt this
        · rw [List.filter_cons_of_neg (p := fun z => ltS z y) e2]
          exact this
theorem cnt_dec {ns : List Str} {x y : Str} (hx : x ∈ ns) (hy : y ∈ ns) (h : x ≠ y) : ltS x y = decide (cntS ns x < cntS ns y) := by
  cases e : ltS x y with
  | true => exact (decide_eq_true (cnt_lt hx e)).symm
  | false =>
    have := cnt_lt hy (ltS_tri h e)
    exact (decide_eq_false (by omega)).symm
/-- the two kinds of keys -/
inductive Ky : List Key → Str → Prop where
  | u (x : Str) : Ky [Sum.inr "unread", Sum.inr x] x
  | l (x : Str) : Ky [Sum.inr "length", Sum.inr x] x
def rkF (ns : List Str) : List Key → Int
  | [Sum.inr a, Sum.inr x] => (if a = "unread" then 10000 else 0) + (cntS ns x : Int)
  | _ => 0
theorem rkU (ns : List Str) (x : Str) : rkF ns [Sum.inr "unread", Sum.inr x] = 10000 + (cntS ns x : Int) := by
  show (if ("unread" : Str) = "unread" then (10000 : Int) else 0) + _ = _
  rw [if_pos rfl]
theorem rkL (ns : List Str) (x : Str) : rkF ns [Sum.inr "length", Sum.inr x] = (cntS ns x : Int) := by
  show (if ("length" : Str) = "unread" then (10000 : Int) else 0) + _ = _
  rw [if_neg (by decide +kernel), Int.zero_add]
theorem cnt_len (ns : List Str) (x : Str) : cntS ns x ≤ ns.length := List.length_filter_le _ _
theorem lex_x {ns : List Str} {x y : Str} (hx : x ∈ ns) (hy : y ∈ ns) : LexR [Sum.inr x] [Sum.inr y] (decide (cntS ns x < cntS ns y)) := by
  by_cases e : x = y
  · subst e
    rw [decide_eq_false (Nat.lt_irrefl _)]
    exact .eq .nn
  · rw [← cnt_dec hx hy e]
    exact .ss e
theorem lex_k {ns : List Str} (hns : ns.length ≤ 1000) {k k' : List Key} {x y : Str} (h : Ky k x) (h' : Ky k' y) (hx : x ∈ ns) (hy : y ∈ ns) : LexR k k' (decide (rkF ns k < rkF ns k')) := by
  have b1 := cnt_len ns x
  have b2 := cnt_len ns y
  have hul : ("unread" : Str) ≠ "length" := by decide +kernel
  cases h with
  | u =>
    cases h' with
    | u =>
      rw [rkU, rkU, show decide ((10000 : Int) + (cntS ns x : Int) < 10000 + (cntS ns y : Int)) = decide (cntS ns x < cntS ns y) from decide_eq_decide.mpr (by omega)]
      exact .eq (lex_x hx hy)
    | l =>
      rw [rkU, rkL, decide_eq_false (by omega)]
      have := LexR.ss (r := [Sum.inr x]) (s := [Sum.inr y]) hul
      rw [show decide (("unread" : Str).cps.toList < ("length" : Str).cps.toList) = false by decide +kernel] at this
      exact this
  | l =>
    cases h' with
    | u =>
      rw [rkU, rkL, decide_eq_true (by omega)]
      have := LexR.ss (r := [Sum.inr x]) (s := [Sum.inr y]) hul.symm
      rw [show decide (("length" : Str).cps.toList < ("unread" : Str).cps.toList) = true by decide +kernel] at this
      exact this
    | l =>
      rw [rkL, rkL, show decide ((cntS ns x : Int) < (cntS ns y : Int)) = decide (cntS ns x < cntS ns y) from decide_eq_decide.mpr (by omega)]
      exact .eq (lex_x hx hy)
/-! ### dicts -/
section
variable {κ : Type} [DecidableEq κ]
theorem mem_put {kvs : List (κ × V)} {k : κ} {v : V} {p : κ × V} (h : p ∈ putK kvs k v) : p ∈ kvs ∨ p = (k, v) := by
  unfold putK at h
  split at h
  · obtain ⟨q, hq, e⟩ := List.mem_map.mp h
    by_cases c : q.1 = k
    · rw [if_pos c] at e
      rw [← e, c]
      exact .inr rfl
    · rw [if_neg c] at e
      rw [← e]
      exact .inl hq
  · rcases List.mem_append.mp h with h | h
    · exact .inl h
    · exact .inr (List.mem_singleton.mp h)
theorem nd_put {kvs : List (κ × V)} {k : κ} {v : V} (h : (kvs.map (·.1)).Nodup) : ((putK kvs k v).map (·.1)).Nodup := by
  cases e : valV kvs k with
  | none => exact nd_putK v h e
  | some u =>
    have : (putK kvs k v).map (·.1) = kvs.map (·.1) := by
      unfold putK
      rw [if_pos (by rw [valV_any, e]; rfl), List.map_map]
      refine List.map_congr_left fun p _ => ?_
      show (if p.1 = k then (p.1, v) else p).1 = p.1
      split <;> rfl
    rw [this]
    exact h
theorem valV_drop (kvs : List (κ × V)) (k j : κ) : valV (dropK kvs k) j = if j = k then none else valV kvs j := by
  induction kvs with
  | nil => split <;> rfl
  | cons p r ih =>
    by_cases e : p.1 = k
    · rw [dropK_pos e, ih]
      split
      · rfl
      · rename_i n
        rw [valV_neg (fun z => n (z.symm.trans e))]
    · rw [dropK_neg e]
      by_cases e2 : p.1 = j
      · rw [valV_pos e2, valV_pos e2, if_neg (fun z => e (e2.trans z))]
      · rw [valV_neg e2, ih, valV_neg e2]
end
end P48

set_option maxHeartbeats 4000000
namespace K48
open PySem PySem.Spec PyProof.Rows L2 HG P52 P50 P48 P54
/-! ### what is known -/
structure Kn (ns : List Str) (m : Nat) (kvs : List (List Key × V)) : Prop where
  len : kvs.length ≤ m
  nd : (kvs.map (·.1)).Nodup
  good : ∀ p ∈ kvs, ∃ x ∈ ns, (p.1 = kU x ∧ ∃ b, p.2 = .bl b) ∨ (p.1 = kL x ∧ ∃ n : Nat, 0 < n ∧ n ≤ 10 ∧ p.2 = .int (n : Int))
theorem Kn.put {ns : List Str} {m : Nat} {kvs : List (List Key × V)} {k : List Key} {v : V} (h : Kn ns m kvs) (hg : ∃ x ∈ ns, (k = kU x ∧ ∃ b, v = .bl b) ∨ (k = kL x ∧ ∃ n : Nat, 0 < n ∧ n ≤ 10 ∧ v = .int (n : Int))) : Kn ns (m + 1) (putK kvs k v) := by
  refine ⟨Nat.le_trans (length_putK kvs k v) (Nat.succ_le_succ h.len), nd_put h.nd, fun p hp => ?_⟩
  rcases mem_put hp with h1 | h1
  · exact h.good p h1
  · rw [h1]
    exact hg
theorem kn_merge {ns : List Str} : ∀ {more : List (List Key × V)} {m : Nat} {kvs : List (List Key × V)}, Kn ns m kvs → (∀ p ∈ more, ∃ x ∈ ns, (p.1 = kU x ∧ ∃ b, p.2 = .bl b) ∨ (p.1 = kL x ∧ ∃ n : Nat, 0 < n ∧ n ≤ 10 ∧ p.2 = .int (n : Int))) → Kn ns (m + more.length) (mergeT kvs more)
  | [], _, _, h, _ => h
  | p :: r, m, kvs, h, hm => by
    have := kn_merge (more := r) (h.put (k := p.1) (v := p.2) (hm p List.mem_cons_self)) fun q hq => hm q (List.mem_cons_of_mem _ hq)
    rw [List.length_cons, show m + (r.length + 1) = m + 1 + r.length by omega]
    exact this
theorem valV_mem {κ : Type} [DecidableEq κ] {kvs : List (κ × V)} {k : κ} {v : V} (h : valV kvs k = some v) : ∃ p ∈ kvs, p.1 = k ∧ p.2 = v := by
  obtain ⟨p, hp, e⟩ := Option.map_eq_some_iff.mp h
  have h2 := List.find?_some (p := fun kv : κ × V => decide (kv.1 = k)) hp
  exact ⟨p, List.mem_of_find?_eq_some hp, of_decide_eq_true h2, e⟩
theorem kU_inj {x y : Str} (h : kU x = kU y) : x = y := by
  injection h with _ h
  injection h with h _
  injection h
theorem kL_inj {x y : Str} (h : kL x = kL y) : x = y := by
  injection h with _ h
  injection h with h _
  injection h
theorem kU_kL {x y : Str} : kU x ≠ kL y := fun h => by
  injection h with h _
  injection h with h
  exact absurd h (by decide +kernel)
theorem Kn.u {ns : List Str} {m : Nat} {kvs : List (List Key × V)} (h : Kn ns m kvs) (x : Str) : valV kvs (kU x) = none ∨ ∃ b, valV kvs (kU x) = some (.bl b) := by
  cases e : valV kvs (kU x) with
  | none => exact .inl rfl
  | some v =>
    obtain ⟨p, hp, h1, h2⟩ := valV_mem e
    obtain ⟨y, _, ⟨_, b, hb⟩ | ⟨h4, _⟩⟩ := h.good p hp
    · exact .inr ⟨b, by rw [← h2, hb]⟩
    · exact absurd (h1.symm.trans h4) kU_kL
theorem Kn.l {ns : List Str} {m : Nat} {kvs : List (List Key × V)} (h : Kn ns m kvs) (x : Str) : valV kvs (kL x) = none ∨ ∃ n : Nat, 0 < n ∧ valV kvs (kL x) = some (.int (n : Int)) := by
  cases e : valV kvs (kL x) with
  | none => exact .inl rfl
  | some v =>
    obtain ⟨p, hp, h1, h2⟩ := valV_mem e
    obtain ⟨y, _, ⟨h4, _⟩ | ⟨_, n, h0, _, hb⟩⟩ := h.good p hp
    · exact absurd (h1.symm.trans h4).symm kU_kL
    · exact .inr ⟨n, h0, by rw [← h2, hb]⟩
/-- no answer to a question -/
def Odd (K : PySem.W.Frag) (H : Hp) (k : List Key) (v : V) : Prop := ∃ D, Dp K H v D ∧ (∀ x, k = kU x → isB D = false) ∧ ∀ x, k = kL x → posI D = false
theorem Odd.mono {K : PySem.W.Frag} {H H' : Hp} {k : List Key} {v : V} (h : Odd K H k v) (s : Same H H') : Odd K H' k v := by
  obtain ⟨D, a, b⟩ := h
  exact ⟨D, dp_mono s _ _ a, b⟩
/-- what is handed in, for repr -/
def Shw (K : PySem.W.Frag) (H : Hp) (kvs : List (List Key × V)) : Prop := ∀ p ∈ kvs, (∃ x, Nm x ∧ (p.1 = kU x ∨ p.1 = kL x)) ∧ ∃ D, Dp K H p.2 D ∧ Fine 0 3000 2 D
theorem Shw.mono {K : PySem.W.Frag} {H H' : Hp} {kvs : List (List Key × V)} (h : Shw K H kvs) (s : Same H H') : Shw K H' kvs := fun p hp => by
  obtain ⟨a, D, b, c⟩ := h p hp
  exact ⟨a, D, dp_mono s _ _ b, c⟩
/-- two dicts: what is known, what is handed in -/
structure Two (K : PySem.W.Frag) (H : Hp) (kv0 kvk kvh : List (List Key × V)) (left : List (List Key)) : Prop where
  at_ : ∀ k, (k ∈ left ∧ valV kvk k = valV kv0 k ∧ valV kvh k = none) ∨ (k ∉ left ∧ ((valV kvk k = valV kv0 k ∧ valV kvh k = valV kv0 k) ∨ (valV kvk k = none ∧ ∀ v, valV kvh k = some v → Odd K H k v)))
theorem Two.mono {K : PySem.W.Frag} {H H' : Hp} {kv0 kvk kvh : List (List Key × V)} {left : List (List Key)} (h : Two K H kv0 kvk kvh left) (s : Same H H') : Two K H' kv0 kvk kvh left := ⟨fun k => by
  rcases h.at_ k with a | ⟨a, b | ⟨b, c⟩⟩
  · exact .inl a
  · exact .inr ⟨a, .inl b⟩
  · exact .inr ⟨a, .inr ⟨b, fun v hv => (c v hv).mono s⟩⟩⟩
theorem Two.start {K : PySem.W.Frag} {H : Hp} {kv0 : List (List Key × V)} {left : List (List Key)} (h : ∀ k, k ∈ kv0.map (·.1) → k ∈ left) : Two K H kv0 kv0 [] left := ⟨fun k => by
  by_cases e : k ∈ left
  · exact .inl ⟨e, rfl, rfl⟩
  · have : valV kv0 k = none := by
      cases e2 : valV kv0 k with
      | none => rfl
      | some v => exact absurd (h k (valV_in e2)) e
    exact .inr ⟨e, .inl ⟨rfl, this.symm ▸ rfl⟩⟩⟩
/-- a turn: the key stays as it was known -/
theorem Two.stay {K : PySem.W.Frag} {H : Hp} {kv0 kvk kvh : List (List Key × V)} {k : List Key} {left : List (List Key)} {v : V} (h : Two K H kv0 kvk kvh (k :: left)) (hn : k ∉ left) (hv : valV kv0 k = some v) : Two K H kv0 kvk (putK kvh k v) left := ⟨fun j => by
  rw [valV_put]
  by_cases e : j = k
  · subst e
    rw [if_pos rfl]
    rcases h.at_ j with ⟨_, a, _⟩ | ⟨a, _⟩
    · exact .inr ⟨hn, .inl ⟨a, hv.symm⟩⟩
    · exact absurd List.mem_cons_self a
  · rw [if_neg e]
    rcases h.at_ j with ⟨a, b⟩ | ⟨a, b⟩
    · exact .inl ⟨(List.mem_cons.mp a).resolve_left e, b⟩
    · exact .inr ⟨fun z => a (List.mem_cons_of_mem _ z), b⟩⟩
/-- a turn: the key is no longer known; what is handed in is no answer, or nothing -/
theorem Two.lose {K : PySem.W.Frag} {H : Hp} {kv0 kvk kvh kvh2 : List (List Key × V)} {k : List Key} {left : List (List Key)} (h : Two K H kv0 kvk kvh (k :: left)) (hn : k ∉ left) (h1 : ∀ j, j ≠ k → valV kvh2 j = valV kvh j) (h2 : ∀ v, valV kvh2 k = some v → Odd K H k v) : Two K H kv0 (dropK kvk k) kvh2 left := ⟨fun j => by
  rw [valV_drop]
  by_cases e : j = k
  · subst e
    rw [if_pos rfl]
    exact .inr ⟨hn, .inr ⟨rfl, h2⟩⟩
  · rw [if_neg e, h1 j e]
    rcases h.at_ j with ⟨a, b⟩ | ⟨a, b⟩
    · exact .inl ⟨(List.mem_cons.mp a).resolve_left e, b⟩
    · exact .inr ⟨fun z => a (List.mem_cons_of_mem _ z), b⟩⟩
theorem Two.here {K : PySem.W.Frag} {H : Hp} {kv0 kvk kvh : List (List Key × V)} {k : List Key} {left : List (List Key)} (h : Two K H kv0 kvk kvh (k :: left)) : valV kvk k = valV kv0 k := by
  rcases h.at_ k with ⟨_, a, _⟩ | ⟨a, _⟩
  · exact a
  · exact absurd List.mem_cons_self a
/-- what the law and the program are told -/
def uOf (kvs : List (List Key × V)) (x : Str) : Option Bool := match valV kvs (kU x) with
  | some (.bl b) => some b
  | _ => none
def lOf (kvs : List (List Key × V)) (x : Str) : Option Nat := match valV kvs (kL x) with
  | some (.int i) => some i.toNat
  | _ => none
structure Fb (K : PySem.W.Frag) (H : Hp) (kn hd : Addr) (u : Str → Option Bool) (l : Str → Option Nat) : Prop where
  kn : ∃ kvk, H kn = some (.dT kvk) ∧ ∀ x, valV kvk (kU x) = (u x).map V.bl ∧ valV kvk (kL x) = (l x).map fun n => V.int (n : Int)
  fa : Fa K H hd u l
  rep : ∃ kvh, H hd = some (.dT kvh) ∧ kvh.length ≤ 30 ∧ Shw K H kvh
theorem fb_of {K : PySem.W.Frag} {H : Hp} {ns : List Str} {m : Nat} {kv0 kvk kvh : List (List Key × V)} {kn hd : Addr} (k0 : Kn ns m kv0) (h : Two K H kv0 kvk kvh []) (e1 : H kn = some (.dT kvk)) (e2 : H hd = some (.dT kvh)) (hl : kvh.length ≤ 30) (hs : Shw K H kvh) : Fb K H kn hd (uOf kvk) (lOf kvk) := by
  have key : ∀ k, (valV kvk k = valV kv0 k ∧ valV kvh k = valV kv0 k) ∨ (valV kvk k = none ∧ ∀ v, valV kvh k = some v → Odd K H k v) := fun k => by
    rcases h.at_ k with ⟨a, _⟩ | ⟨_, a⟩
    · cases a
    · exact a
  refine ⟨⟨kvk, e1, fun x => ⟨?_, ?_⟩⟩, ⟨kvh, e2, fun x => ⟨?_, ?_⟩⟩, kvh, e2, hl, hs⟩
  · unfold uOf
    rcases key (kU x) with ⟨a, _⟩ | ⟨a, _⟩
    · rcases k0.u x with z | ⟨b, z⟩
      · rw [a, z]; rfl
      · rw [a, z]; rfl
    · rw [a]; rfl
  · unfold lOf
    rcases key (kL x) with ⟨a, _⟩ | ⟨a, _⟩
    · rcases k0.l x with z | ⟨n, _, z⟩
      · rw [a, z]; rfl
      · rw [a, z]; rfl
    · rw [a]; rfl
  · unfold uOf
    rcases key (kU x) with ⟨a, b⟩ | ⟨a, b⟩
    · rcases k0.u x with z | ⟨c, z⟩
      · rw [a, z]
        exact .inr ⟨rfl, fun v hv => by rw [b, z] at hv; cases hv⟩
      · rw [a, z]
        exact .inl ⟨c, rfl, by rw [b, z]⟩
    · rw [a]
      refine .inr ⟨rfl, fun v hv => ?_⟩
      obtain ⟨D, d1, d2, _⟩ := b v hv
      exact ⟨D, d1, d2 x rfl⟩
  · unfold lOf
    rcases key (kL x) with ⟨a, b⟩ | ⟨a, b⟩
    · rcases k0.l x with z | ⟨n, n0, z⟩
      · rw [a, z]
        exact .inr ⟨rfl, fun v hv => by rw [b, z] at hv; cases hv⟩
      · rw [a, z]
        exact .inl ⟨n, rfl, n0, by rw [b, z]⟩
    · rw [a]
      refine .inr ⟨rfl, fun v hv => ?_⟩
      obtain ⟨D, d1, _, d2⟩ := b v hv
      exact ⟨D, d1, d2 x rfl⟩
theorem Kn.ky {ns : List Str} {m : Nat} {kvs : List (List Key × V)} (h : Kn ns m kvs) {k : List Key} (hk : k ∈ kvs.map (·.1)) : ∃ x ∈ ns, Ky k x := by
  obtain ⟨p, hp, rfl⟩ := List.mem_map.mp hk
  obtain ⟨x, hx, ⟨e, _⟩ | ⟨e, _⟩⟩ := h.good p hp
  · exact ⟨x, hx, e ▸ .u x⟩
  · exact ⟨x, hx, e ▸ .l x⟩
theorem Kn.val {ns : List Str} {m : Nat} {kvs : List (List Key × V)} (h : Kn ns m kvs) {k : List Key} (hk : k ∈ kvs.map (·.1)) : ∃ v, valV kvs k = some v ∧ ∀ (K : PySem.W.Frag) (H : Hp), ∃ D, Dp K H v D ∧ Fine 0 3000 2 D := by
  cases e : valV kvs k with
  | none => exact absurd hk (valV_not e)
  | some v =>
    refine ⟨v, rfl, fun K H => ?_⟩
    obtain ⟨p, hp, _, h2⟩ := valV_mem e
    obtain ⟨x, _, ⟨_, b, hb⟩ | ⟨_, n, _, hn, hb⟩⟩ := h.good p hp
    · rw [← h2, hb]
      exact ⟨_, .bl b, (Fine.bool 0 2 b).up (Nat.le_refl _) (by decide) (Nat.le_refl _)⟩
    · rw [← h2, hb]
      exact ⟨_, .int _, (fnN 2 (by omega)).up (Nat.le_refl _) (by decide) (Nat.le_refl _)⟩
theorem Shw.put {K : PySem.W.Frag} {H : Hp} {kvs : List (List Key × V)} {k : List Key} {v : V} {x : Str} (h : Shw K H kvs) (hk : Ky k x) (hx : Nm x) (hv : ∃ D, Dp K H v D ∧ Fine 0 3000 2 D) : Shw K H (putK kvs k v) := fun p hp => by
  rcases mem_put hp with h1 | h1
  · exact h p h1
  · rw [h1]
    refine ⟨⟨x, hx, ?_⟩, hv⟩
    cases hk with
    | u => exact .inl rfl
    | l => exact .inr rfl
theorem Shw.drop {K : PySem.W.Frag} {H : Hp} {kvs : List (List Key × V)} {k : List Key} (h : Shw K H kvs) : Shw K H (dropK kvs k) := fun p hp => h p (dropK_mem hp)
/-! ### apart from four places -/
def off4 (d c a b : Addr) (H : Hp) : Hp := off a b (off d c H)
theorem off4_same {d c a b : Addr} {H : Hp} : Same (off4 d c a b H) H := fun x o h => off_same x o (off_same x o h)
theorem off4_ext {d c a b : Addr} {H H' : Hp} (X : Ext d c H H') : Same (off4 d c a b H) (off4 d c a b H') := off_mono X
theorem off4_mono {d c a b : Addr} {H H' : Hp} (s : Same H H') : Same (off4 d c a b H) (off4 d c a b H') := off_mono (off_mono s)
theorem off4_upd {d c a b p : Addr} {H : Hp} {o : HO} (h : p = a ∨ p = b) : Same (off4 d c a b H) (off4 d c a b (upd H p o)) := fun x u e => by
  unfold off4 off at e ⊢
  split at e
  · cases e
  rename_i n
  have nx : x ≠ p := fun z => n (by rw [z]; exact h)
  rw [if_neg n]
  split at e
  · cases e
  rename_i n2
  rw [if_neg n2, upd_ne nx]
  exact e
structure F4 (d c a b : Addr) (H : Hp) : Prop where
  d : H d ≠ none
  c : H c ≠ none
  a : H a ≠ none
  b : H b ≠ none
theorem F4.same {d c a b : Addr} {H H' : Hp} (f : F4 d c a b H) (s : Same H H') : F4 d c a b H' := ⟨same_ne s f.d, same_ne s f.c, same_ne s f.a, same_ne s f.b⟩
theorem F4.new {d c a b p : Addr} {H : Hp} {o : HO} (f : F4 d c a b H) (hp : H p = none) : off4 d c a b (upd H p o) p = some o := by
  have n1 : p ≠ d := fun z => f.d (by rw [← z]; exact hp)
  have n2 : p ≠ c := fun z => f.c (by rw [← z]; exact hp)
  have n3 : p ≠ a := fun z => f.a (by rw [← z]; exact hp)
  have n4 : p ≠ b := fun z => f.b (by rw [← z]; exact hp)
  unfold off4
  rw [off_get n3 n4, off_get n1 n2, upd_same]
/-! ### what is no answer -/
def odd1 : List PyData := [.none, .str "True", .list [.bool true], .tuple [.int 1], .int (-1), .tuple []]
def odd2 : List PyData := [.none, .int 1, .str "True", .list [.bool true], .tuple [.bool true], .int 0]
theorem nmT : Nm ("True" : Str) := ⟨by decide +kernel, by decide +kernel⟩
theorem odd1_ok : ∀ D ∈ odd1, posI D = false ∧ Fine 0 3000 2 D := by
  intro D hD
  unfold odd1 at hD
  simp only [List.mem_cons, List.not_mem_nil, or_false] at hD
  have up : ∀ {W d : Nat} {D : PyData}, Fine 0 W d D → W ≤ 3000 → d ≤ 2 → Fine 0 3000 2 D := fun h a b => h.up (Nat.le_refl _) a b
  rcases hD with rfl | rfl | rfl | rfl | rfl | rfl
  · exact ⟨rfl, up (Fine.none 0 2) (by decide) (by decide)⟩
  · exact ⟨rfl, up (fnS 2 nmT) (by decide) (by decide)⟩
  · exact ⟨rfl, up (Fine.lst1 (Fine.bool 0 1 true)) (by decide) (by decide)⟩
  · exact ⟨rfl, up (Fine.tup1 (Fine.int (k := 0) 1 (by decide) (by decide) (by decide))) (by decide) (by decide)⟩
  · exact ⟨rfl, up (Fine.int (k := 0) 2 (by decide) (by decide) (by decide)) (by decide) (by decide)⟩
  · exact ⟨rfl, up (Fine.tupN (k := 0) (W := 0) (d := 1) (n := 0) (ds := []) (fun _ h => nomatch h) (by decide)) (by decide) (by decide)⟩
theorem odd2_ok : ∀ D ∈ odd2, isB D = false ∧ Fine 0 3000 2 D := by
  intro D hD
  unfold odd2 at hD
  simp only [List.mem_cons, List.not_mem_nil, or_false] at hD
  have up : ∀ {W d : Nat} {D : PyData}, Fine 0 W d D → W ≤ 3000 → d ≤ 2 → Fine 0 3000 2 D := fun h a b => h.up (Nat.le_refl _) a b
  rcases hD with rfl | rfl | rfl | rfl | rfl | rfl
  · exact ⟨rfl, up (Fine.none 0 2) (by decide) (by decide)⟩
  · exact ⟨rfl, up (Fine.int (k := 0) 2 (by decide) (by decide) (by decide)) (by decide) (by decide)⟩
  · exact ⟨rfl, up (fnS 2 nmT) (by decide) (by decide)⟩
  · exact ⟨rfl, up (Fine.lst1 (Fine.bool 0 1 true)) (by decide) (by decide)⟩
  · exact ⟨rfl, up (Fine.tup1 (Fine.bool 0 1 true)) (by decide) (by decide)⟩
  · exact ⟨rfl, up (Fine.int (k := 0) 2 (by decide) (by decide) (by decide)) (by decide) (by decide)⟩
end K48

set_option maxHeartbeats 4000000
namespace K48
open PySem PySem.Spec PyProof.Rows L2 HG P52 P50 P48 P54
def spFacts (K : PySem.W.Frag) : Sp := fun vs H Q _ => ∃ (d c wd : Addr) (n : Nat), vs = [.ref d, .ref wd] ∧ n < 2 ^ 47 ∧ Deck d c n H ∧ Wd K (off d c H) wd ∧
  ∀ (t kn hd : Addr) (u : Str → Option Bool) (l : Str → Option Nat) (H' : Hp), Deck d c (n + 100) H' → Ext d c H H' → H' t = some (.tup [.ref kn, .ref hd]) → Fb K H' kn hd u l → Q (.ref t) H'
def nwS : Str := "nowhere"
theorem nwS_nm : Nm nwS := ⟨by decide +kernel, by decide +kernel⟩
theorem ifS {x y : Str} {A B : Prop} (h : (x = y ∧ A) ∨ (x ≠ y ∧ B)) : if decide (V.str x = V.str y) = true then A else B := by
  rw [str_dec]
  rcases h with ⟨h, a⟩ | ⟨h, b⟩
  · rw [decide_eq_true h]
    exact a
  · rw [decide_eq_false h]
    exact iteF b
section
variable {P : Program} {w : World} {K : PySem.W.Frag} {mg : Str → Option Value} {base : Heap}
set_option pp.maxSteps 100 in
set_option pp.maxSteps 600 in
theorem c_facts (T : Txt w K mg) : Cal P w K mg base "_law_facts" 4 ["_law_deck_here", "_law_world_here"] (spFacts K) := by
  obtain ⟨fd, F⟩ := T.d__law_facts
  have C__law_draw := c_draw (P := P) (w := w) (base := base) T
  have C__law_pick := c_pick (P := P) (w := w) (base := base) T
  refine ⟨⟨fd, F.ok sc__law_facts (fun vs H Q E h => by repeat (first | (obtain ⟨e, _⟩ := h; subst e; rfl) | (obtain ⟨_, h⟩ := h))) (fun cdv A outer s H vs Q E hr h => ?_), F.bindsN fun _ _ _ _ _ _ us hl => match us, hl with | [_, _], _ => rfl⟩, T.g _ (by decide), F.kp⟩
  obtain ⟨d, c, wd, n, rfl, hn, dk, hwd, q⟩ := h
  have hu := hu_of hr
  have hu2 := Nat.lt_of_le_of_lt (Nat.add_le_add_left (show 2 ≤ 64 by decide) _) hr.units
  refine ⟨_, PSs.nox (pss_cons (ps_set (i := 2) sc__law_facts.nd rfl (.inl rfl) (pe_callTy (call_dictPT rfl hu2) (by rfl) T.n_dict (by decide +kernel) (pa_cons (pe_lc (own := [("_law_name", 3), ("_law_size", 8)]) (by rfl) sc__law_facts.nd (pi_list (pe_dget hu (pv 1) pe_str (fun _ _ => rfl))) (blkOk_by (own := [("_law_name", 3), ("_law_size", 8)]) (N := N__law_facts) (sc := defScope s__law_facts) (by decide +kernel)) (fun _ _ _ _ _ => (pg_tupK (K := K) (n := 2) rfl rfl (pgs_cons (pg_name (i := 3) sc__law_facts.nd rfl (.inl rfl)) (pgs_cons (pg_name (i := 8) sc__law_facts.nd rfl (.inl rfl)) pgs_nil)))) (fun _ _ _ _ _ => pts_nil) (fun _ _ _ _ _ => (pe_tup (pa_cons (pe_tup (pa_cons pe_str (pa_cons (pv 3) pa_nil))) (pa_cons (pv 8) pa_nil))))) pa_nil)))
      (pss_cons (ps_for PassesOwn.never rfl (pi_list (pe_op (op_catLs (K := K) rfl) (pe_op (op_catLs (K := K) rfl) (pe_op (op_catLs (K := K) rfl) (pe_dget hu (pv 1) pe_str (fun _ _ => rfl)) (pe_lst (pa_cons (pe_dget hu (pv 1) pe_str (fun _ _ => rfl)) pa_nil))) (pe_lc (own := [("_law_name", 3), ("_law_size", 8)]) (by rfl) sc__law_facts.nd (pi_list (pe_dget hu (pv 1) pe_str (fun _ _ => rfl))) (blkOk_by (own := [("_law_name", 3), ("_law_size", 8)]) (N := N__law_facts) (sc := defScope s__law_facts) (by decide +kernel)) (fun _ _ _ _ _ => (pg_tupK (K := K) (n := 2) rfl rfl (pgs_cons (pg_name (i := 3) sc__law_facts.nd rfl (.inl rfl)) (pgs_cons (pg_name (i := 8) sc__law_facts.nd rfl (.inl rfl)) pgs_nil)))) (fun _ _ _ _ _ => pts_nil) (fun _ _ _ _ _ => (pv 3)))) (pe_lst (pa_cons pe_str pa_nil)))) (pg_name (i := 3) sc__law_facts.nd rfl (.inl rfl)) (pss_one (ps_dput hu (pv 2) (pe_tup (pa_cons pe_str (pa_cons (pv 3) pa_nil))) (pe_cmpR op_gt (pe_cal C__law_draw (hr.mono (by omega)) (by rfl) (pa_cons (pv 0) (pa_cons pe_int pa_nil))) pe_int (nomark _)) rfl)))
      (pss_cons (ps_par (i := 4) (j := 5) rfl sc__law_facts.nd rfl rfl (by decide) rfl rfl (pa_cons (pe_op op_add pe_int (pe_cal C__law_draw (hr.mono (by omega)) (by rfl) (pa_cons (pv 0) (pa_cons pe_int pa_nil)))) (pa_cons pe_dnewT pa_nil)) (by rfl))
      (pss_cons (ps_for PassesOwn.never rfl (pi_list (pe_callB (cr_sortedDT rfl hr.units) (by rfl) T.n_sorted (by decide +kernel) (pa_cons (pv 2) pa_nil))) (pg_name (i := 6) sc__law_facts.nd rfl (.inl rfl)) (pss_cons (ps_set (i := 7) sc__law_facts.nd rfl (.inl rfl) (pe_cal C__law_draw (hr.mono (by omega)) (by rfl) (pa_cons (pv 0) (pa_cons (pe_op op_mul pe_int (pv 4)) pa_nil))))
      (pss_cons (ps_dput hu (pv 5) (pv 6) (pe_dget hu (pv 2) (pv 6) (fun _ _ => rfl)) rfl)
      (pss_cons (ps_if (pt_cmpR op_eq (pv 7) pe_int (nomark _)) (pss_cons (ps_dput hu (pv 5) (pv 6) (pe_cal C__law_pick (hr.mono (by omega)) (by rfl) (pa_cons (pv 0) (pa_cons (pe_lst (pa_cons pe_non (pa_cons pe_str (pa_cons (pe_lst (pa_cons pe_bl pa_nil)) (pa_cons (pe_tup (pa_cons pe_int pa_nil)) (pa_cons (pe_un un_neg pe_int) (pa_cons (pe_tup pa_nil) pa_nil))))))) pa_nil))) rfl)
      (pss_one (ps_if (pt_cmpR op_eq (pe_ix (ix_P (K := K) rfl) (pv 6) pe_int (fun _ _ => rfl)) pe_str (nomark _)) (pss_one (ps_dput hu (pv 5) (pv 6) (pe_cal C__law_pick (hr.mono (by omega)) (by rfl) (pa_cons (pv 0) (pa_cons (pe_lst (pa_cons pe_non (pa_cons pe_int (pa_cons pe_str (pa_cons (pe_lst (pa_cons pe_bl pa_nil)) (pa_cons (pe_tup (pa_cons pe_bl pa_nil)) (pa_cons pe_int pa_nil))))))) pa_nil))) rfl)) pss_nil))) pss_nil)
      (pss_cons (ps_if (pt_cmpR op_eq (pv 7) pe_int (nomark _)) (pss_one (ps_expr (pe_bm PySem.F.plainAttrs_dict PySem.F.slot_dict_pop PySem.F.type_dict_pop (mt_popT1 hu) (pv 5) (pa_cons (pv 6) pa_nil)))) pss_nil)
      (pss_one (ps_if (pt_cmpR op_lt (pv 7) pe_int (nomark _)) (pss_one (ps_expr (pe_bm PySem.F.plainAttrs_dict PySem.F.slot_dict_pop PySem.F.type_dict_pop (mt_popT1 hu) (pv 2) (pa_cons (pv 6) pa_nil)))) pss_nil)))))))
      (pss_one (ps_ret (pe_tup (pa_cons (pv 2) (pa_cons (pv 5) pa_nil))))))))), ?_⟩
  obtain ⟨ca, ce, ar, hh, cs, as, cvs, avs, es, w1, w2, w3, w4, w5, w6, hcl, hcs, hel, hes, hal, has, hho⟩ := hwd.ex
  have hav := dpAll_len w6
  rw [List.length_map, hal] at hav
  refine ⟨.ref wd, rfl, wd, _, rfl, DGet.k (k := Sum.inr "arrays") (off_at w1).1, ar, rfl, ⟨avs, .inl (.inl (off_at w5).1)⟩, fun D hD => ?_⟩
  refine lc_list (xs := avs) (fun i H2 => ∃ ps ks, H2 D = some (.lst (ps.map V.ref)) ∧ Paired (fun p (x : KeyT) => SqT K H2 p [.ref x.a, x.v]) ps ks ∧ (∀ x ∈ ks, H2 x.a = some (.tup (x.k.map kV))) ∧ ks.map (fun x => (x.k, x.v)) = (as.take i).map (fun p => (kL p.1, V.int (p.2 : Int))) ∧ Same H H2) ⟨[], [], upd_same, .nil, (fun _ h => nomatch h), rfl, same_new hD⟩ ?_ ?_ ?_
  · rintro i H2 _ ⟨_, _, _, _, _, _, s2⟩
    exact .inl (.inl (s2 _ _ (off_at w5).1))
  · rintro i x H2 hx ⟨ps, ks, e2, hp2, hk2, hkm, s2⟩
    obtain ⟨⟨nm, sz⟩, hp, hxD⟩ := dpAll_map_get w6 hx
    have hi := (List.getElem?_eq_some_iff.mp hx).1
    have hxD := dp_mono s2 _ _ (offD hxD)
    cases hxD with
    | @tup ax xx _ sqx hax =>
    cases hax with
    | cons y0 r0 =>
    cases r0 with
    | cons y1 r1 =>
    cases r1
    cases y0
    cases y1
    refine ⟨ax, _, rfl, sqx, rfl, _, _, rfl, _, _, rfl, rfl, rfl, tyes ⟨_, rfl, (by show 2 ≤ sizeLine; decide), fun t1 ht1 => ⟨_, rfl, (by show 2 ≤ sizeLine; decide), fun t2 ht2 => ?_⟩⟩⟩
    have u1 := same_new (o := .tup [.str "length", .str nm]) ht1
    have u2 := same_new (o := .tup [.ref t1, .int (sz : Int)]) ht2
    have et1 := u2 _ _ (show (upd H2 t1 (.tup [.str "length", .str nm])) t1 = some (.tup [.str "length", .str nm]) from upd_same)
    have et2 : (upd (upd H2 t1 (.tup [.str "length", .str nm])) t2 (.tup [.ref t1, .int (sz : Int)])) t2 = some (.tup [.ref t1, .int (sz : Int)]) := upd_same
    have u12 := u1.trans u2
    have hlk := congrArg List.length hkm
    rw [List.length_map, List.length_map, List.length_take] at hlk
    have hlp := Paired.length hp2
    show ∃ acc, _
    dsimp only at u1 u2 et1 et2 u12 ⊢
    generalize hH4 : upd (upd H2 t1 (.tup [.str "length", .str nm])) t2 (.tup [.ref t1, .int (sz : Int)]) = H4 at et1 et2 u12 ⊢
    have e4 := u12 _ _ e2
    have ke := KT.lst (o := .lst (ps.map V.ref ++ [.ref t2])) e4
    have kk := (KT.of u12).trans ke
    refine ⟨_, e4, small_line (by rw [List.length_map]; omega), ps ++ [t2], ks ++ [⟨kL nm, t1, .int (sz : Int)⟩], ?_, ?_, ?_, ?_, fun b o hb => ?_⟩
    · rw [upd_same, List.map_append]
      rfl
    · exact (Paired.mapP hp2 fun p x h => sqT_kt kk h).snoc (.inl (.inl (ke.t _ _ et2)))
    · intro x hx
      rcases List.mem_append.mp hx with h | h
      · exact kk.t _ _ (hk2 x h)
      · rw [List.mem_singleton.mp h]
        exact ke.t _ _ et1
    · rw [List.map_append, hkm, take_snoc hp, List.map_append]
      rfl
    · rw [upd_ne (ne_of_none hb hD)]
      exact u12 _ _ (s2 _ _ hb)
  rintro H2 ⟨ps, ks, e2, hp2, hk2, hkm, s2⟩
  rw [List.take_of_length_le (by omega)] at hkm
  refine ⟨D, ps, ks, rfl, .inl (.inl e2), hp2, hk2, fun kn hkn => ?_⟩
  rw [hkm]
  generalize hns : es ++ [hh] ++ as.map (fun p => p.1) ++ [nwS] = ns
  have hnl : ns.length = 6 := by rw [← hns]; simp only [List.length_append, List.length_map, hel, hal, List.length_cons, List.length_nil]
  have hnm : ∀ x ∈ ns, Nm x := by
    intro x hx
    rw [← hns] at hx
    rcases List.mem_append.mp hx with h | h
    · rcases List.mem_append.mp h with h | h
      · rcases List.mem_append.mp h with h | h
        · exact hes x h
        · rw [List.mem_singleton.mp h]
          exact hho
      · obtain ⟨p, hp, rfl⟩ := List.mem_map.mp h
        exact (has p hp).1
    · rw [List.mem_singleton.mp h]
      exact nwS_nm
  have kn0 : Kn ns 2 (mergeT [] (as.map fun p => (kL p.1, V.int (p.2 : Int)))) := by
    have h0 : Kn ns 0 [] := ⟨Nat.le_refl _, List.nodup_nil, fun _ h => nomatch h⟩
    have := kn_merge (more := as.map fun p => (kL p.1, V.int (p.2 : Int))) h0 fun p hp => by
      obtain ⟨a, ha, rfl⟩ := List.mem_map.mp hp
      have := has a ha
      refine ⟨a.1, ?_, .inr ⟨rfl, a.2, this.2.1, this.2.2, rfl⟩⟩
      rw [← hns]
      exact List.mem_append_left _ (List.mem_append_right _ (List.mem_map.mpr ⟨a, ha, rfl⟩))
    rw [List.length_map, hal] at this
    exact this
  generalize mergeT [] (as.map fun p => (kL p.1, V.int (p.2 : Int))) = kva at kn0 ⊢
  have nkn := (dk.same s2).has hkn
  have hknH := none_same s2 hkn
  have s3 := s2.trans (same_new (o := .dT kva) hkn)
  have ek : (upd H2 kn (.dT kva)) kn = some (.dT kva) := upd_same
  generalize upd H2 kn (.dT kva) = H3 at s3 ek ⊢
  clear hp2 hk2 hkm e2 s2 hkn hD
  have dk3 := dk.same s3
  -- the names
  refine ⟨.ref wd, rfl, wd, _, rfl, DGet.k (k := Sum.inr "cells") (s3 _ _ (off_at w1).1), .ref wd, rfl, wd, _, rfl, DGet.k (k := Sum.inr "holder") (s3 _ _ (off_at w1).1), (by show 1 ≤ sizeLine; decide), fun l1 hl1 => ?_⟩
  have nl1 := dk3.has hl1
  have s4 := s3.trans (same_new (o := .lst [V.str hh]) hl1)
  have ek4 := (same_new (o := .lst [V.str hh]) hl1) _ _ ek
  have L2 : LsD K (off d c (upd H3 l1 (.lst [V.str hh]))) l1 ([hh].map PyData.str) := ⟨[V.str hh], by rw [off_get nl1.1 nl1.2]; exact upd_same, .cons (.str _) .nil⟩
  generalize upd H3 l1 (.lst [V.str hh]) = H4 at s4 ek4 L2 ⊢
  have L1 : LsD K (off d c H4) ce (es.map PyData.str) := (LsD.mk ⟨es.map V.str, w4, dpAll_maps (f := V.str) (g := PyData.str) es fun x _ => .str x⟩).mono (off_same_mono s4)
  have dk4 := dk.same s4
  refine ⟨d, c, ce, l1, _, _, rfl, rfl, L1, L2, (dk_ne dk4).1, (dk_ne dk4).2, (by simp only [List.length_map, hel, List.length_cons, List.length_nil, sizeLine_eq]; decide), fun p1 H5 hp1 s5 lp1 => ?_⟩
  rw [← List.map_append] at lp1
  have s05 := s4.trans s5
  have ek5 := s5 _ _ ek4
  refine ⟨.ref wd, rfl, wd, _, rfl, DGet.k (k := Sum.inr "arrays") (s05 _ _ (off_at w1).1), ar, rfl, ⟨avs, .inl (.inl (s05 _ _ (off_at w5).1))⟩, fun D2 hD2 => ?_⟩
  have dk5 := dk.same s05
  have nD2 := dk5.has hD2
  refine lc_list (xs := avs) (fun i H6 => H6 D2 = some (.lst (((as.take i).map fun p => p.1).map V.str)) ∧ Same H5 H6) ⟨upd_same, same_new hD2⟩ ?_ ?_ ?_
  · rintro i H6 _ ⟨_, s6⟩
    exact .inl (.inl (s6 _ _ (s05 _ _ (off_at w5).1)))
  · rintro i x H6 hx ⟨e6, s6⟩
    obtain ⟨⟨nm, sz⟩, hp, hxD⟩ := dpAll_map_get w6 hx
    have hi := (List.getElem?_eq_some_iff.mp hx).1
    have hxD := dp_mono (s05.trans s6) _ _ (offD hxD)
    cases hxD with
    | @tup ax xx _ sqx hax =>
    cases hax with
    | cons y0 r0 =>
    cases r0 with
    | cons y1 r1 =>
    cases r1
    cases y0
    cases y1
    refine ⟨ax, _, rfl, sqx, rfl, _, _, rfl, _, _, rfl, rfl, rfl, tyes ⟨_, rfl, _, e6, small_line (by rw [List.length_map, List.length_map, List.length_take]; omega), ?_, fun b o hb => ?_⟩⟩
    · rw [upd_same, take_snoc hp, List.map_append, List.map_append]
      rfl
    · rw [upd_ne (ne_of_none hb hD2)]
      exact s6 _ _ hb
  rintro H6 ⟨e6, s6⟩
  rw [List.take_of_length_le (by omega)] at e6
  have s06 := s05.trans s6
  have dk6 := dk.same s06
  have L3 : LsD K (off d c H6) D2 ((as.map fun p => p.1).map PyData.str) := ⟨_, by rw [off_get nD2.1 nD2.2]; exact e6, dpAll_maps (f := V.str) (g := PyData.str) _ fun x _ => .str x⟩
  refine ⟨d, c, p1, D2, _, _, rfl, rfl, lp1.mono (off_same_mono s6), L3, (dk_ne dk6).1, (dk_ne dk6).2, (by simp only [List.length_map, List.length_append, hel, hal, List.length_cons, List.length_nil, sizeLine_eq]; decide), fun p2 H7 hp2 s7 lp2 => ?_⟩
  rw [← List.map_append] at lp2
  have s07 := s06.trans s7
  have dk7 := dk.same s07
  have ek7 := s7 _ _ (s6 _ _ ek5)
  refine ⟨(by show 1 ≤ sizeLine; decide), fun l3 hl3 => ?_⟩
  have nl3 := dk7.has hl3
  have s8 := same_new (o := .lst [V.str "nowhere"]) hl3
  have L4 : LsD K (off d c (upd H7 l3 (.lst [V.str "nowhere"]))) l3 ([nwS].map PyData.str) := ⟨[V.str nwS], by rw [off_get nl3.1 nl3.2]; exact upd_same, .cons (.str _) .nil⟩
  have ek8 := s8 _ _ ek7
  generalize upd H7 l3 (.lst [V.str "nowhere"]) = H8 at s8 ek8 L4 ⊢
  have s08 := s07.trans s8
  have dk8 := dk.same s08
  refine ⟨d, c, p2, l3, _, _, rfl, rfl, lp2.mono (off_same_mono s8), L4, (dk_ne dk8).1, (dk_ne dk8).2, (by simp only [List.length_map, List.length_append, hel, hal, List.length_cons, List.length_nil, sizeLine_eq]; decide), fun p3 H9 hp3 s9 lp3 => ?_⟩
  rw [← List.map_append, hns] at lp3
  have s09 := s08.trans s9
  have ek9 := s9 _ _ ek8
  have dk9 := dk.same s09
  obtain ⟨pvs, ep, gp⟩ := lp3.ex
  have np3 := off_at ep
  have np3k : p3 ≠ kn := fun z => by rw [z, ek9] at np3; cases np3.1
  have hpv := dpAll_len gp
  rw [List.length_map, hnl] at hpv
  have X9 : Ext d c H H9 := off_same_mono s09
  clear ek ek4 ek5 ek7 ek8 s3 s4 s5 s6 s7 s8 s05 s06 s07 s08 dk3 dk4 dk5 dk6 dk7 dk8 L1 L2 L3 L4 lp1 lp2 e6 hD2 hl1 hl3 hp1 hp2 hp3
  refine ⟨p3, rfl, ⟨pvs, .inl (.inl np3.1)⟩, ?_⟩
  refine for_list (xs := pvs) (fun j σ HA => ∃ x3 kvs, σ = [some (.ref d), some (.ref wd), some (.ref kn), x3, none, none, none, none, none] ∧ HA kn = some (.dT kvs) ∧ Kn ns (2 + j) kvs ∧ HA p3 = some (.lst pvs) ∧ Deck d c (n + j) HA ∧ Ext d c H HA) ⟨_, kva, rfl, ek9, kn0, np3.1, dk9, X9⟩ ?_ ?_ ?_
  · rintro j σ HA _ ⟨x3, kvs, rfl, _, _, ep6, _, _⟩
    exact .inl (.inl ep6)
  · rintro j x σ HA hx ⟨x3, kvs, rfl, eA, kA, epA, dkA, XA⟩
    obtain ⟨nm, hnx, hxD⟩ := dpAll_map_get gp hx
    have hj := (List.getElem?_eq_some_iff.mp hx).1
    cases hxD
    refine ⟨.ref d, rfl, d, c, _, 4, rfl, by decide, by decide, by omega, dkA, fun r HB r0 r1 dkB XB => ⟨_, _, rfl, rfl, _, rfl, _, rfl, (by show 2 ≤ sizeLine; decide), fun t ht => ?_⟩⟩
    have eB := XB.at nkn.1 nkn.2 eA
    have epB := XB.at np3.2.1 np3.2.2 epA
    have st := same_new (o := .tup [.str "unread", .str nm]) ht
    have et : (upd HB t (.tup [.str "unread", .str nm])) t = some (.tup ((kU nm).map kV)) := upd_same
    have eC := st _ _ eB
    have epC := st _ _ epB
    have dkC := dkB.same st
    have XC : Ext d c H _ := (XA.trans XB).trans (off_same_mono st)
    have hlen := kA.len
    refine ⟨kn, _, rfl, DPut.t eC et (Nat.lt_of_le_of_lt hlen (by rw [sizeLine_eq]; omega)), _, _, rfl, upd_same, ?_, ?_, (dkC.upd nkn.1 nkn.2).up (by omega), XC.mut hknH⟩
    · rw [show 2 + (j + 1) = 2 + j + 1 by omega]
      exact kA.put ⟨nm, List.mem_of_getElem? hnx, .inl ⟨rfl, _, rfl⟩⟩
    · rw [upd_ne np3k]
      exact epC
  rintro σ HA ⟨x3, kv0, rfl, eA, kA, epA, dkA, XA⟩
  rw [hpv] at kA dkA
  clear epA np3 np3k gp ep lp3 hpv pvs ek9 kn0 dk9 X9 s09
  -- rare, handed
  refine ⟨.ref d, rfl, d, c, _, 5, rfl, by decide, by decide, by omega, dkA, fun r H1 r0 r1 dk1 X1 => ⟨_, _, rfl, rfl, fun hd hhd => ?_⟩⟩
  have nhd := dk1.has hhd
  have e1 := X1.at nkn.1 nkn.2 eA
  have nkh : kn ≠ hd := fun z => by rw [← z, e1] at hhd; cases hhd
  have X1' := XA.trans X1
  have hhdH := grow X1' dk1 hhd
  have s2 := same_new (o := .dT []) hhd
  have dk2 := dk1.same s2
  have e2 := s2 _ _ e1
  have eh2 : (upd H1 hd (.dT [])) hd = some (.dT []) := upd_same
  have X2 : Ext d c H (upd H1 hd (.dT [])) := X1'.trans (off_same_mono s2)
  generalize upd H1 hd (.dT []) = H2 at s2 dk2 e2 eh2 X2 ⊢
  clear X1 X1' e1 dk1 hhd s2 eA dkA XA
  refine ⟨_, _, rfl, ?_⟩
  refine ⟨_, rfl, kn, kv0, rkF ns, rfl, e2, Nat.lt_of_le_of_lt kA.len (by decide), fun k hk => ?_, fun k hk k' hk' => ?_, fun l ps hl perm pw hz => ?_⟩
  · obtain ⟨x, _, kx⟩ := kA.ky hk
    cases kx with
    | u => exact ⟨_, _, rfl⟩
    | l => exact ⟨_, _, rfl⟩
  · obtain ⟨x, hx, kx⟩ := kA.ky hk
    obtain ⟨y, hy, ky⟩ := kA.ky hk'
    exact lex_k (by omega) kx ky hx hy
  have nl := dk2.has hl
  have s3 := same_new (o := .lst (ps.map fun z => V.ref z.1)) hl
  have el : (upd H2 l (.lst (ps.map fun z => V.ref z.1))) l = some (.lst (ps.map fun z => V.ref z.1)) := upd_same
  have nlk : l ≠ kn := fun z => by rw [z, e2] at hl; cases hl
  have nlh : l ≠ hd := fun z => by rw [z, eh2] at hl; cases hl
  have e3 := s3 _ _ e2
  have eh3 := s3 _ _ eh2
  have dk3 := dk2.same s3
  have X3 : Ext d c H (upd H2 l (.lst (ps.map fun z => V.ref z.1))) := X2.trans (off_same_mono s3)
  have hz3 : ∀ z ∈ ps, (upd H2 l (.lst (ps.map fun z => V.ref z.1))) z.1 = some (.tup (z.2.map kV)) := fun z h => s3 _ _ (hz z h)
  generalize upd H2 l (.lst (ps.map fun z => V.ref z.1)) = H3 at el e3 eh3 dk3 X3 hz3 ⊢
  clear s3 hz e2 eh2 dk2 X2 hl
  have hnd : (ps.map (·.2)).Nodup := perm.nodup_iff.mpr kA.nd
  have hpl : ps.length ≤ 8 := by
    have h1 := perm.length_eq
    rw [List.length_map, List.length_map] at h1
    have := kA.len
    omega
  refine ⟨l, rfl, ⟨_, .inl (.inl el)⟩, ?_⟩
  refine for_list (xs := ps.map fun z => V.ref z.1) (fun j σ HA => ∃ x3 x6 x7 kvk kvh, σ = [some (.ref d), some (.ref wd), some (.ref kn), x3, some (.int (1 + r)), some (.ref hd), x6, x7, none] ∧ HA kn = some (.dT kvk) ∧ HA hd = some (.dT kvh) ∧ kvk.length ≤ 8 ∧ kvh.length ≤ 3 * j ∧ Two K (off4 d c kn hd HA) kv0 kvk kvh ((ps.map (·.2)).drop j) ∧ Shw K (off4 d c kn hd HA) kvh ∧ HA l = some (.lst (ps.map fun z => V.ref z.1)) ∧ (∀ z ∈ ps, HA z.1 = some (.tup (z.2.map kV))) ∧ Deck d c (n + 7 + 3 * j) HA ∧ Ext d c H HA)
    ⟨_, _, _, kv0, [], rfl, e3, eh3, Nat.le_trans kA.len (by omega), Nat.zero_le _, ?_, fun _ h => (nomatch h), el, hz3, dk3.up (by omega), X3⟩ ?_ ?_ ?_
  · rw [List.drop_zero]
    exact Two.start fun k hk => perm.mem_iff.mpr hk
  · rintro j σ HA _ ⟨x3, x6, x7, kvk, kvh, rfl, _, _, _, _, _, _, el6, _, _, _⟩
    exact .inl (.inl el6)
  · rintro j x σ HA hx ⟨x3, x6, x7, kvk, kvh, rfl, eA, ehA, lk, lh, two, shw, elA, hzA, dkA, XA⟩
    rw [List.getElem?_map] at hx
    obtain ⟨⟨za, zk⟩, hzj, rfl⟩ := Option.map_eq_some_iff.mp hx
    have hj := (List.getElem?_eq_some_iff.mp hzj).1
    have hj8 : j < 8 := by omega
    have hdrop : (ps.map (·.2)).drop j = zk :: (ps.map (·.2)).drop (j + 1) := by
      have hj2 : j < (ps.map (·.2)).length := by rw [List.length_map]; exact hj
      rw [List.drop_eq_getElem_cons hj2]
      congr 1
      rw [List.getElem_map, (List.getElem?_eq_some_iff.mp hzj).2]
    rw [hdrop] at two
    have hnk : zk ∉ (ps.map (·.2)).drop (j + 1) := by
      have := hnd.sublist (List.drop_sublist j _)
      rw [hdrop] at this
      exact (List.nodup_cons.mp this).1
    have hmem : zk ∈ kv0.map (·.1) := perm.mem_iff.mp (List.mem_map.mpr ⟨_, List.mem_of_getElem? hzj, rfl⟩)
    obtain ⟨v0, hv0, hd0⟩ := kA.val hmem
    obtain ⟨nm, hnmx, kyz⟩ := kA.ky hmem
    have hnn := hnm nm hnmx
    have hvk := two.here.trans hv0
    have sz : ∀ {m : Nat}, m ≤ 100 → m < sizeLine := fun h => Nat.lt_of_le_of_lt h (by rw [sizeLine_eq]; decide)
    refine ⟨.ref d, rfl, _, rfl, 5, 1 + r, rfl, rfl, .inl (by decide), d, c, _, 5 * (1 + r), rfl, by omega, by have : (25 : Int) < 10 ^ 40 := (by decide); omega, by omega, dkA, fun wy HB w0 w1 dkB XB => ?_⟩
    have eB := XB.at nkn.1 nkn.2 eA
    have ehB := XB.at nhd.1 nhd.2 ehA
    have elB := XB.at nl.1 nl.2 elA
    have kB := ext_kt dkA XB
    have hzB : ∀ z ∈ ps, HB z.1 = some (.tup (z.2.map kV)) := fun z h => kB.t _ _ (hzA z h)
    have eq := hzB _ (List.mem_of_getElem? hzj)
    have two := two.mono (off4_ext XB)
    have shw := shw.mono (off4_ext XB)
    have XB' := XA.trans XB
    clear eA ehA elA kB hzA dkA XA XB
    dsimp only at eq
    refine ⟨_, rfl, _, rfl, kn, v0, rfl, by rw [← hvk]; exact DGet.t eB eq, _, rfl, _, rfl, hd, _, rfl, DPut.t ehB eq (sz (by omega)), ?_⟩
    have nqh : za ≠ hd := fun z => by rw [z, ehB] at eq; cases eq
    have nqk : za ≠ kn := fun z => by rw [z, eB] at eq; cases eq
    have lh1 := length_putK kvh zk v0
    have eC : (upd HB hd (.dT (putK kvh zk v0))) kn = some (.dT kvk) := by rw [upd_ne nkh]; exact eB
    have ehC : (upd HB hd (.dT (putK kvh zk v0))) hd = some (.dT (putK kvh zk v0)) := upd_same
    have elC : (upd HB hd (.dT (putK kvh zk v0))) l = some (.lst (ps.map fun z => V.ref z.1)) := by rw [upd_ne nlh]; exact elB
    have hzC : ∀ z ∈ ps, (upd HB hd (.dT (putK kvh zk v0))) z.1 = some (.tup (z.2.map kV)) := fun z h => by
      rw [upd_ne (fun e => by have := hzB z h; rw [e, ehB] at this; cases this)]
      exact hzB z h
    have eqC : (upd HB hd (.dT (putK kvh zk v0))) za = some (.tup (zk.map kV)) := by rw [upd_ne nqh]; exact eq
    have dkC : Deck d c (n + 7 + 3 * j + 1) (upd HB hd (.dT (putK kvh zk v0))) := dkB.upd nhd.1 nhd.2
    have XC : Ext d c H (upd HB hd (.dT (putK kvh zk v0))) := XB'.mut hhdH
    have s4C : Same (off4 d c kn hd HB) (off4 d c kn hd (upd HB hd (.dT (putK kvh zk v0)))) := off4_upd (.inr rfl)
    have shwC := (shw.put kyz hnn (hd0 K _)).mono s4C
    have twC := two.mono s4C
    generalize upd HB hd (.dT (putK kvh zk v0)) = HC at eC ehC elC hzC eqC dkC XC s4C shwC twC ⊢
    clear eB ehB elB hzB eq dkB XB' shw two s4C
    have lose : ∀ (HX : Hp) (kvh2 : List (List Key × V)), HX kn = some (.dT kvk) → HX hd = some (.dT kvh2) → HX l = some (.lst (ps.map fun z => V.ref z.1)) → (∀ z ∈ ps, HX z.1 = some (.tup (z.2.map kV))) → Deck d c (n + 7 + 3 * (j + 1)) HX → Ext d c H HX → Same (off4 d c kn hd HC) (off4 d c kn hd HX) → kvh2.length ≤ 3 * (j + 1) →
        (∀ i, i ≠ zk → valV kvh2 i = valV kvh i) → (∀ v, valV kvh2 zk = some v → Odd K (off4 d c kn hd HX) zk v) → Shw K (off4 d c kn hd HX) kvh2 →
        (upd HX kn (.dT (dropK kvk zk))) kn = some (.dT (dropK kvk zk)) ∧ (upd HX kn (.dT (dropK kvk zk))) hd = some (.dT kvh2) ∧ (dropK kvk zk).length ≤ 8 ∧ kvh2.length ≤ 3 * (j + 1) ∧ Two K (off4 d c kn hd (upd HX kn (.dT (dropK kvk zk)))) kv0 (dropK kvk zk) kvh2 ((ps.map (·.2)).drop (j + 1)) ∧ Shw K (off4 d c kn hd (upd HX kn (.dT (dropK kvk zk)))) kvh2 ∧
        (upd HX kn (.dT (dropK kvk zk))) l = some (.lst (ps.map fun z => V.ref z.1)) ∧ (∀ z ∈ ps, (upd HX kn (.dT (dropK kvk zk))) z.1 = some (.tup (z.2.map kV))) ∧ Deck d c (n + 7 + 3 * (j + 1)) (upd HX kn (.dT (dropK kvk zk))) ∧ Ext d c H (upd HX kn (.dT (dropK kvk zk))) := by
      intro HX kvh2 hk hh hl2 hz2 dkX XX sX lX v1 v2 shX
      have su : Same (off4 d c kn hd HX) (off4 d c kn hd (upd HX kn (.dT (dropK kvk zk)))) := off4_upd (.inl rfl)
      refine ⟨upd_same, by rw [upd_ne nkh.symm]; exact hh, Nat.le_trans (dropK_le kvk zk) lk, lX, ((twC.mono sX).lose hnk v1 v2).mono su, shX.mono su, by rw [upd_ne nlk]; exact hl2, fun z h => ?_, dkX.upd nkn.1 nkn.2, XX.mut hknH⟩
      rw [upd_ne (fun e => by have := hz2 z h; rw [e, hk] at this; cases this)]
      exact hz2 z h
    refine ⟨_, rfl, rfl, _, rfl, ?_⟩
    cases hb : decide (V.int wy = V.int 0) with
    | false =>
      have h0 : wy ≠ 0 := fun z => of_decide_eq_false hb (by rw [z])
      refine iteF ⟨_, rfl, rfl, _, rfl, ?_⟩
      cases hb1 : decide (V.int wy = V.int 1) with
      | false =>
        have h1 : wy ≠ 1 := fun z => of_decide_eq_false hb1 (by rw [z])
        refine iteF ⟨_, rfl, _, _, rfl, rfl, _, rfl, ?_⟩
        cases hb2 : decide (wy < 2) with
        | true => exact absurd (of_decide_eq_true hb2) (by omega)
        | false => exact iteF ⟨_, _, _, kvk, putK kvh zk v0, rfl, eC, ehC, lk, by omega, twC.stay hnk hv0, shwC, elC, hzC, dkC.up (by omega), XC⟩
      | true =>
        have h1 : wy = 1 := by have := of_decide_eq_true hb1; injection this
        refine iteT ⟨_, rfl, .inr (.inr (.inl ⟨rfl, .inr ⟨_, ehC⟩⟩)), _, rfl, hd, putK kvh zk v0, zk, za, v0, rfl, rfl, ehC, eqC, by rw [valV_put, if_pos rfl], ?_⟩
        have ldr := dropK_le (putK kvh zk v0) zk
        have su : Same (off4 d c kn hd HC) (off4 d c kn hd (upd HC hd (.dT (dropK (putK kvh zk v0) zk)))) := off4_upd (.inr rfl)
        have e1 : (upd HC hd (.dT (dropK (putK kvh zk v0) zk))) kn = some (.dT kvk) := by rw [upd_ne nkh]; exact eC
        have ehn1 : (upd HC hd (.dT (dropK (putK kvh zk v0) zk))) hd = some (.dT (dropK (putK kvh zk v0) zk)) := upd_same
        have el1 : (upd HC hd (.dT (dropK (putK kvh zk v0) zk))) l = some (.lst (ps.map fun z => V.ref z.1)) := by rw [upd_ne nlh]; exact elC
        have eq1 : (upd HC hd (.dT (dropK (putK kvh zk v0) zk))) za = some (.tup (zk.map kV)) := by rw [upd_ne nqh]; exact eqC
        have hz1 : ∀ z ∈ ps, (upd HC hd (.dT (dropK (putK kvh zk v0) zk))) z.1 = some (.tup (z.2.map kV)) := fun z h => by
          rw [upd_ne (fun e => by have := hzC z h; rw [e, ehC] at this; cases this)]
          exact hzC z h
        have dk1 := dkC.upd (o := .dT (dropK (putK kvh zk v0) zk)) nhd.1 nhd.2
        have XX1 : Ext d c H (upd HC hd (.dT (dropK (putK kvh zk v0) zk))) := XC.mut hhdH
        have shw1 := (shwC.drop (k := zk)).mono su
        generalize upd HC hd (.dT (dropK (putK kvh zk v0) zk)) = Z1 at su e1 ehn1 el1 eq1 hz1 dk1 XX1 shw1 ⊢
        refine ⟨_, rfl, _, _, rfl, rfl, _, rfl, ?_⟩
        cases hb2 : decide (wy < 2) with
        | false => exact absurd (of_decide_eq_false hb2) (by omega)
        | true =>
          refine iteT ⟨_, rfl, .inr (.inr (.inl ⟨rfl, .inr ⟨_, e1⟩⟩)), _, rfl, kn, kvk, zk, za, v0, rfl, rfl, e1, eq1, hvk, ?_⟩
          refine ⟨_, _, _, _, dropK (putK kvh zk v0) zk, rfl, lose Z1 _ e1 ehn1 el1 hz1 (dk1.up (by omega)) XX1 su (by omega) (fun i hi => by rw [valV_drop, if_neg hi, valV_put, if_neg hi]) (fun v hv => ?_) shw1⟩
          rw [valV_drop, if_pos rfl] at hv
          cases hv
    | true =>
      have h0 : wy = 0 := by have := of_decide_eq_true hb; injection this
      have f0 : F4 d c kn hd HC := ⟨(dk_ne dkC).1, (dk_ne dkC).2, fun z => by (rw [eC] at z; cases z), fun z => by (rw [ehC] at z; cases z)⟩
      refine iteT ?_
      refine ⟨.ref d, rfl, (by show 1 ≤ sizeLine; decide), fun a11 ha11 => ?_⟩
      have sa11 := same_new (o := .lst [.bl true]) ha11
      have pa11 := f0.new (o := .lst [.bl true]) ha11
      have fa11 := f0.same sa11
      generalize upd HC a11 (.lst [.bl true]) = G10 at sa11 pa11 fa11 ⊢
      refine ⟨(by show 1 ≤ sizeLine; decide), fun a12 ha12 => ?_⟩
      have sa12 := same_new (o := .tup [.int 1]) ha12
      have pa12 := fa11.new (o := .tup [.int 1]) ha12
      have fa12 := fa11.same sa12
      generalize upd G10 a12 (.tup [.int 1]) = G11 at sa12 pa12 fa12 ⊢
      refine ⟨1, rfl, (by show 0 ≤ sizeLine; decide), fun a13 ha13 => ?_⟩
      have sa13 := same_new (o := .tup []) ha13
      have pa13 := fa12.new (o := .tup []) ha13
      have fa13 := fa12.same sa13
      generalize upd G11 a13 (.tup []) = G12 at sa13 pa13 fa13 ⊢
      have dkl := dkC.same (sa11.trans (sa12.trans sa13))
      refine ⟨(by show 6 ≤ sizeLine; decide), fun a19 ha19 => ?_⟩
      have na19 := dkl.has ha19
      have all1 : DpAll K (off4 d c kn hd G12) [.non, .str "True", .ref a11, .ref a12, .int (-1), .ref a13] odd1 := (.cons .non (.cons (.str _) (.cons (.lst (.inl (.inl ((off4_mono (sa12.trans sa13)) _ _ pa11))) (.cons (.bl _) .nil)) (.cons (.tup (.inl (.inl ((off4_mono sa13) _ _ pa12))) (.cons (.int _) .nil)) (.cons (.int _) (.cons (.tup (.inl (.inl pa13)) .nil) .nil))))))
      have sa19 := same_new (o := .lst [.non, .str "True", .ref a11, .ref a12, .int (-1), .ref a13]) ha19
      have sl1 := (sa11.trans (sa12.trans (sa13.trans sa19)))
      refine ⟨d, c, a19, _, _, rfl, dkC.same sl1, by omega, .inl (.inl (by rw [off_get na19.1 na19.2]; exact upd_same)), Nat.le_of_ble_eq_true rfl, Nat.le_of_ble_eq_true rfl, fun jj1 y1 G1 hy1 dk1 X1 => ?_⟩
      obtain ⟨D1, hD1, hyD1⟩ := dpAll_get all1 hy1
      have ok1 := odd1_ok D1 (List.mem_of_getElem? hD1)
      have hyD1 := dp_mono ((off4_mono sa19).trans (off4_ext X1)) _ _ hyD1
      have X1 : Ext d c HC G1 := (off_same_mono (d := d) (c := c) sl1).trans X1
      have e1 := X1.at nkn.1 nkn.2 eC
      have eh1 := X1.at nhd.1 nhd.2 ehC
      have el1 := X1.at nl.1 nl.2 elC
      have kt1 := ext_kt dkC X1
      have eq1 := kt1.t _ _ eqC
      have hz1 : ∀ z ∈ ps, G1 z.1 = some (.tup (z.2.map kV)) := fun z h => kt1.t _ _ (hzC z h)
      have XX1 := XC.trans X1
      have ss1 : Same (off4 d c kn hd HC) (off4 d c kn hd G1) := off4_ext X1
      refine ⟨_, rfl, _, rfl, hd, _, rfl, DPut.t eh1 eq1 (sz (by omega)), ?_⟩
      have ll1 := length_putK (putK kvh zk v0) zk y1
      have su1 : Same (off4 d c kn hd G1) (off4 d c kn hd (upd G1 hd (.dT (putK (putK kvh zk v0) zk y1)))) := off4_upd (.inr rfl)
      have e1 : (upd G1 hd (.dT (putK (putK kvh zk v0) zk y1))) kn = some (.dT kvk) := by rw [upd_ne nkh]; exact e1
      have ehn1 : (upd G1 hd (.dT (putK (putK kvh zk v0) zk y1))) hd = some (.dT (putK (putK kvh zk v0) zk y1)) := upd_same
      have el1 : (upd G1 hd (.dT (putK (putK kvh zk v0) zk y1))) l = some (.lst (ps.map fun z => V.ref z.1)) := by rw [upd_ne nlh]; exact el1
      have eq1 : (upd G1 hd (.dT (putK (putK kvh zk v0) zk y1))) za = some (.tup ((zk).map kV)) := by rw [upd_ne nqh]; exact eq1
      have hz1 : ∀ z ∈ ps, (upd G1 hd (.dT (putK (putK kvh zk v0) zk y1))) z.1 = some (.tup (z.2.map kV)) := fun z h => by
        rw [upd_ne (fun e => by have := hz1 z h; rw [e, eh1] at this; cases this)]
        exact hz1 z h
      have dkn1 := dk1.upd (o := .dT (putK (putK kvh zk v0) zk y1)) nhd.1 nhd.2
      have XX1 : Ext d c H (upd G1 hd (.dT (putK (putK kvh zk v0) zk y1))) := XX1.mut hhdH
      have ss1 := ss1.trans su1
      have hyD1 := dp_mono su1 _ _ hyD1
      generalize (upd G1 hd (.dT (putK (putK kvh zk v0) zk y1))) = Z1 at e1 ehn1 el1 eq1 hz1 dkn1 XX1 ss1 hyD1 ⊢
      cases kyz with
      | l =>
        refine ⟨_, rfl, _, 0, _, (.tup (.inl (.inl eq1)) (.cons (.str _) (.cons (.str _) .nil)) : Dp K Z1 (.ref za) (.tuple [.str "length", .str nm])), rfl, rfl, fun zq hzq => ?_⟩
        cases hzq
        refine ⟨rfl, _, rfl, ifS (.inr ⟨by decide +kernel, ?_⟩)⟩
        refine ⟨_, rfl, rfl, _, rfl, ?_⟩
        cases hb1 : decide (V.int wy = V.int 1) with
        | true => exact absurd (of_decide_eq_true hb1) (fun z => by injection z with z; omega)
        | false =>
        refine iteF ⟨_, rfl, _, _, rfl, rfl, _, rfl, ?_⟩
        cases hb2 : decide (wy < 2) with
        | false => exact absurd (of_decide_eq_false hb2) (by omega)
        | true =>
        refine iteT ⟨_, rfl, .inr (.inr (.inl ⟨rfl, .inr ⟨_, e1⟩⟩)), _, rfl, kn, kvk, _, za, v0, rfl, rfl, e1, eq1, hvk, ?_⟩
        refine ⟨_, _, _, _, (putK (putK kvh (kL nm) v0) (kL nm) y1), rfl, lose Z1 (putK (putK kvh (kL nm) v0) (kL nm) y1) e1 ehn1 el1 hz1 (dkn1.up (by omega)) XX1 ss1 (Nat.le_trans ll1 (Nat.le_trans (Nat.succ_le_succ lh1) (by omega))) (fun i hi => by simp only [valV_put, if_neg hi]) (fun v hv => ?_) ?_⟩
        · rw [valV_put, if_pos rfl] at hv
          injection hv with hv
          subst hv
          exact ⟨D1, hyD1, fun x h => absurd h.symm kU_kL, fun x _ => ok1.1⟩
        · exact (shwC.mono ss1).put (.l nm) hnn ⟨D1, hyD1, ok1.2⟩
      | u =>
        refine ⟨_, rfl, _, 0, _, (.tup (.inl (.inl eq1)) (.cons (.str _) (.cons (.str _) .nil)) : Dp K Z1 (.ref za) (.tuple [.str "unread", .str nm])), rfl, rfl, fun zq hzq => ?_⟩
        cases hzq
        refine ⟨rfl, _, rfl, ifS (.inl ⟨rfl, ?_⟩)⟩
        have fz : F4 d c kn hd Z1 := ⟨(dk_ne dkn1).1, (dk_ne dkn1).2, fun z => by (rw [e1] at z; cases z), fun z => by (rw [ehn1] at z; cases z)⟩
        refine ⟨.ref d, rfl, (by show 1 ≤ sizeLine; decide), fun a21 ha21 => ?_⟩
        have sa21 := same_new (o := .lst [.bl true]) ha21
        have pa21 := fz.new (o := .lst [.bl true]) ha21
        have fa21 := fz.same sa21
        generalize upd Z1 a21 (.lst [.bl true]) = G20 at sa21 pa21 fa21 ⊢
        refine ⟨(by show 1 ≤ sizeLine; decide), fun a22 ha22 => ?_⟩
        have sa22 := same_new (o := .tup [.bl true]) ha22
        have pa22 := fa21.new (o := .tup [.bl true]) ha22
        have fa22 := fa21.same sa22
        generalize upd G20 a22 (.tup [.bl true]) = G21 at sa22 pa22 fa22 ⊢
        have dkl := dkn1.same (sa21.trans sa22)
        refine ⟨(by show 6 ≤ sizeLine; decide), fun a29 ha29 => ?_⟩
        have na29 := dkl.has ha29
        have all2 : DpAll K (off4 d c kn hd G21) [.non, .int 1, .str "True", .ref a21, .ref a22, .int 0] odd2 := (.cons .non (.cons (.int _) (.cons (.str _) (.cons (.lst (.inl (.inl ((off4_mono sa22) _ _ pa21))) (.cons (.bl _) .nil)) (.cons (.tup (.inl (.inl pa22)) (.cons (.bl _) .nil)) (.cons (.int _) .nil))))))
        have sa29 := same_new (o := .lst [.non, .int 1, .str "True", .ref a21, .ref a22, .int 0]) ha29
        have sl2 := (sa21.trans (sa22.trans sa29))
        refine ⟨d, c, a29, _, _, rfl, dkn1.same sl2, by omega, .inl (.inl (by rw [off_get na29.1 na29.2]; exact upd_same)), Nat.le_of_ble_eq_true rfl, Nat.le_of_ble_eq_true rfl, fun jj2 y2 G2 hy2 dk2 X2 => ?_⟩
        obtain ⟨D2, hD2, hyD2⟩ := dpAll_get all2 hy2
        have ok2 := odd2_ok D2 (List.mem_of_getElem? hD2)
        have hyD2 := dp_mono ((off4_mono sa29).trans (off4_ext X2)) _ _ hyD2
        have X2 : Ext d c Z1 G2 := (off_same_mono (d := d) (c := c) sl2).trans X2
        have e2 := X2.at nkn.1 nkn.2 e1
        have eh2 := X2.at nhd.1 nhd.2 ehn1
        have el2 := X2.at nl.1 nl.2 el1
        have kt2 := ext_kt dkn1 X2
        have eq2 := kt2.t _ _ eq1
        have hz2 : ∀ z ∈ ps, G2 z.1 = some (.tup (z.2.map kV)) := fun z h => kt2.t _ _ (hz1 z h)
        have XX2 := XX1.trans X2
        have ss2 := ss1.trans (off4_ext X2)
        have s12 : Same (off4 d c kn hd Z1) (off4 d c kn hd G2) := off4_ext X2
        refine ⟨_, rfl, _, rfl, hd, _, rfl, DPut.t eh2 eq2 (sz (by omega)), ?_⟩
        have ll2 := length_putK (putK (putK kvh (kU nm) v0) (kU nm) y1) (kU nm) y2
        have su2 : Same (off4 d c kn hd G2) (off4 d c kn hd (upd G2 hd (.dT (putK (putK (putK kvh (kU nm) v0) (kU nm) y1) (kU nm) y2)))) := off4_upd (.inr rfl)
        have e2 : (upd G2 hd (.dT (putK (putK (putK kvh (kU nm) v0) (kU nm) y1) (kU nm) y2))) kn = some (.dT kvk) := by rw [upd_ne nkh]; exact e2
        have ehn2 : (upd G2 hd (.dT (putK (putK (putK kvh (kU nm) v0) (kU nm) y1) (kU nm) y2))) hd = some (.dT (putK (putK (putK kvh (kU nm) v0) (kU nm) y1) (kU nm) y2)) := upd_same
        have el2 : (upd G2 hd (.dT (putK (putK (putK kvh (kU nm) v0) (kU nm) y1) (kU nm) y2))) l = some (.lst (ps.map fun z => V.ref z.1)) := by rw [upd_ne nlh]; exact el2
        have eq2 : (upd G2 hd (.dT (putK (putK (putK kvh (kU nm) v0) (kU nm) y1) (kU nm) y2))) za = some (.tup (((kU nm)).map kV)) := by rw [upd_ne nqh]; exact eq2
        have hz2 : ∀ z ∈ ps, (upd G2 hd (.dT (putK (putK (putK kvh (kU nm) v0) (kU nm) y1) (kU nm) y2))) z.1 = some (.tup (z.2.map kV)) := fun z h => by
          rw [upd_ne (fun e => by have := hz2 z h; rw [e, eh2] at this; cases this)]
          exact hz2 z h
        have dkn2 := dk2.upd (o := .dT (putK (putK (putK kvh (kU nm) v0) (kU nm) y1) (kU nm) y2)) nhd.1 nhd.2
        have XX2 : Ext d c H (upd G2 hd (.dT (putK (putK (putK kvh (kU nm) v0) (kU nm) y1) (kU nm) y2))) := XX2.mut hhdH
        have ss2 := ss2.trans su2
        have s12 := s12.trans su2
        have hyD2 := dp_mono su2 _ _ hyD2
        generalize (upd G2 hd (.dT (putK (putK (putK kvh (kU nm) v0) (kU nm) y1) (kU nm) y2))) = Z2 at e2 ehn2 el2 eq2 hz2 dkn2 XX2 ss2 s12 hyD2 ⊢
        refine ⟨_, rfl, rfl, _, rfl, ?_⟩
        cases hb1 : decide (V.int wy = V.int 1) with
        | true => exact absurd (of_decide_eq_true hb1) (fun z => by injection z with z; omega)
        | false =>
        refine iteF ⟨_, rfl, _, _, rfl, rfl, _, rfl, ?_⟩
        cases hb2 : decide (wy < 2) with
        | false => exact absurd (of_decide_eq_false hb2) (by omega)
        | true =>
        refine iteT ⟨_, rfl, .inr (.inr (.inl ⟨rfl, .inr ⟨_, e2⟩⟩)), _, rfl, kn, kvk, _, za, v0, rfl, rfl, e2, eq2, hvk, ?_⟩
        refine ⟨_, _, _, _, (putK (putK (putK kvh (kU nm) v0) (kU nm) y1) (kU nm) y2), rfl, lose Z2 (putK (putK (putK kvh (kU nm) v0) (kU nm) y1) (kU nm) y2) e2 ehn2 el2 hz2 (dkn2.up (by omega)) XX2 ss2 (Nat.le_trans ll2 (Nat.le_trans (Nat.succ_le_succ ll1) (Nat.le_trans (Nat.succ_le_succ (Nat.succ_le_succ lh1)) (by omega)))) (fun i hi => by simp only [valV_put, if_neg hi]) (fun v hv => ?_) ?_⟩
        · rw [valV_put, if_pos rfl] at hv
          injection hv with hv
          subst hv
          exact ⟨D2, hyD2, fun x _ => ok2.1, fun x h => absurd h kU_kL⟩
        · exact (((shwC.mono ss1).put (.u nm) hnn ⟨D1, hyD1, ok1.2⟩).mono s12).put (.u nm) hnn ⟨D2, hyD2, ok2.2⟩
  rintro σ HA ⟨x3, x6, x7, kvk, kvh, rfl, eA, ehA, lk, lh, two, shw, elA, hzA, dkA, XA⟩
  rw [List.length_map] at two lh dkA
  rw [List.drop_of_length_le (by rw [List.length_map]; exact Nat.le_refl _)] at two
  refine ⟨_, rfl, _, rfl, (by show 2 ≤ sizeLine; decide), fun t ht => ?_⟩
  have st := same_new (o := .tup [.ref kn, .ref hd]) ht
  exact q t kn hd _ _ _ ((dkA.same st).up (by omega)) (XA.trans (off_same_mono st)) upd_same (fb_of kA (two.mono (fun b o h => st _ _ (off4_same _ _ h))) (st _ _ eA) (st _ _ ehA) (by omega) (shw.mono fun b o h => st _ _ (off4_same _ _ h)))
end
end K48

set_option maxHeartbeats 4000000
namespace K48
open PySem PySem.Spec PyProof.Rows L2 HG P52 P50 P48
structure Kd (H : Hp) (kn : Addr) (u : Str → Option Bool) (l : Str → Option Nat) : Prop where
  ex : ∃ kvk, H kn = some (.dT kvk) ∧ ∀ x, valV kvk (kU x) = (u x).map V.bl ∧ valV kvk (kL x) = (l x).map fun n => V.int (n : Int)
theorem Kd.mono {H H' : Hp} {kn : Addr} {u : Str → Option Bool} {l : Str → Option Nat} (h : Kd H kn u l) (s : Same H H') : Kd H' kn u l := by
  obtain ⟨kvk, e, h⟩ := h.ex
  exact ⟨kvk, s _ _ e, h⟩
/-- the first two parts are the word and this name -/
def twoB (x : Str) : Rw → Bool
  | .st y _ => decide (y = x)
  | .wr y _ _ => decide (y = x)
  | _ => false
theorem two_eqv {x : Str} (R : Rw) : PyData.eqv (.tuple (R.L.take 2)) (.tuple [.str R.word, .str x]) = twoB x R := by
  cases R with
  | ca v y as => cases v <;> simp [Rw.rest, Rw.word, PyData.eqv, PyData.eqvAll, twoB, ovD]
  | ap v y as => cases v <;> simp [Rw.rest, Rw.word, PyData.eqv, PyData.eqvAll, twoB, ovD]
  | pr a => cases a <;> simp [Rw.rest, Rw.word, PyData.eqv, PyData.eqvAll, twoB, oD]
  | st y a => simp [Rw.rest, Rw.word, PyData.eqv, PyData.eqvAll, twoB]; try rfl
  | wr y a b => simp [Rw.rest, Rw.word, PyData.eqv, PyData.eqvAll, twoB]; try rfl
  | _ => simp [Rw.rest, Rw.word, PyData.eqv, PyData.eqvAll, twoB]
theorem lay_nm {x : Str} (h : Nm x) : PyData.strOk x = true := asc_ok h.2
theorem word_ok (R : Rw) : PyData.strOk R.word = true := by
  have h : ∀ z ∈ (["const", "copy", "op", "load", "read", "call", "apply", "store", "print", "write"] : List Str), PyData.strOk z = true := by decide +kernel
  cases R with
  | cw => exact h "const" (by decide +kernel)
  | cf => exact h "const" (by decide +kernel)
  | cp => exact h "copy" (by decide +kernel)
  | op => exact h "op" (by decide +kernel)
  | ld => exact h "load" (by decide +kernel)
  | rd => exact h "read" (by decide +kernel)
  | ca => exact h "call" (by decide +kernel)
  | ap => exact h "apply" (by decide +kernel)
  | st => exact h "store" (by decide +kernel)
  | pr => exact h "print" (by decide +kernel)
  | wr => exact h "write" (by decide +kernel)
theorem two_shaped {N : Nat} {R : Rw} (h : RwOk N R) : SeqAt.shaped (.tuple (R.L.take 2)) = true := by
  have var : PyData.strOk ("var" : Str) = true := by decide +kernel
  have wR := word_ok R
  cases R with
  | ca v y as => cases v <;> simp [Rw.rest, SeqAt.shaped, PyData.canLay0, PyData.canLayAll0, PyData.depth, PyData.depthAll, ovD, wR]
  | ap v y as => cases v <;> simp [Rw.rest, SeqAt.shaped, PyData.canLay0, PyData.canLayAll0, PyData.depth, PyData.depthAll, ovD, wR]
  | pr a => cases a <;> simp [Rw.rest, SeqAt.shaped, PyData.canLay0, PyData.canLayAll0, PyData.depth, PyData.depthAll, oD, wR, var]
  | st y a => simp [Rw.rest, SeqAt.shaped, PyData.canLay0, PyData.canLayAll0, PyData.depth, PyData.depthAll, wR, lay_nm h.1]
  | wr y a b => simp [Rw.rest, SeqAt.shaped, PyData.canLay0, PyData.canLayAll0, PyData.depth, PyData.depthAll, wR, lay_nm h.1]
  | _ => simp [Rw.rest, SeqAt.shaped, PyData.canLay0, PyData.canLayAll0, PyData.depth, PyData.depthAll, wR]
theorem one_shaped {x : Str} (R : Rw) (h : Nm x) : SeqAt.shaped (.tuple [.str R.word, .str x]) = true := by
  have wR := word_ok R
  simp [SeqAt.shaped, PyData.canLay0, PyData.canLayAll0, PyData.depth, PyData.depthAll, wR, lay_nm h]
theorem two_no {x : Str} {n : Nat} {R : Rw} (h : twoB x R = false) : goes x n R = false := by
  cases R with
  | st y a => exact h
  | wr y a b =>
    show (decide (y = x) && _) = false
    rw [show decide (y = x) = false from h]
    rfl
  | _ => rfl
section
variable {P : Program} {w : World} {K : PySem.W.Frag} {mg : Str → Option Value} {base : Heap}
def spGoes (K : PySem.W.Frag) : Sp := fun vs H Q _ => ∃ (v : V) (x : Str) (kn : Addr) (R : Rw) (N : Nat) (u : Str → Option Bool) (l : Str → Option Nat), vs = [v, .str x, .ref kn] ∧ Dp K H v R.D ∧ RwOk N R ∧ Nm x ∧ Kd H kn u l ∧ ∀ H', Same H H' → Q (.bl (goes x ((l x).getD 0) R)) H'
set_option pp.maxSteps 200 in
set_option pp.maxSteps 600 in
theorem c_goes (T : Txt w K mg) : Cal P w K mg base "_law_goes" 1 ["_law_row_here", "_law_name", "_law_known"] (spGoes K) := by
  obtain ⟨fd, F⟩ := T.d__law_goes
  refine ⟨⟨fd, F.ok sc__law_goes (fun vs H Q E h => by repeat (first | (obtain ⟨e, _⟩ := h; subst e; rfl) | (obtain ⟨_, h⟩ := h))) (fun cdv A outer s H vs Q E hr h => ?_), F.bindsN fun _ _ _ _ _ _ us hl => match us, hl with | [_, _, _], _ => rfl⟩, T.g _ (by decide), F.kp⟩
  obtain ⟨v, x, kn, R, N, u, l, rfl, hv, ok, hx, hk, q⟩ := h
  have hu := hu_of hr
  refine ⟨_, PSs.nox (pss_cons (ps_if (pt_cmpR (op_neDK (K := K) rfl hr.units) (pe_slice (sl_P (K := K) rfl) (pv 0) po_none (po_some pe_int)) (pe_tup (pa_cons (pe_ix (ix_P (K := K) rfl) (pv 0) pe_int (fun _ _ => rfl)) (pa_cons (pv 1) pa_nil))) (nomark _)) (pss_one (ps_ret pe_bl)) pss_nil)
      (pss_cons (ps_if (pt_cmpR op_eq (pe_ix (ix_P (K := K) rfl) (pv 0) pe_int (fun _ _ => rfl)) pe_str (nomark _)) (pss_one (ps_ret (pe_and (pe_callB (isiK (K := K) rfl) (by rfl) T.n_isinstance (by decide +kernel) (pa_cons (pe_ix (ix_P (K := K) rfl) (pv 0) pe_int (fun _ _ => rfl)) (pa_cons (pe_bltn (v := .ty "int") (u := .type "int") (by rfl) T.n_int (by decide +kernel) rfl) pa_nil))) (pe_one (pe_cmpR op_lt (pe_ix (ix_P (K := K) rfl) (pv 0) pe_int (fun _ _ => rfl)) (pe_dget2 hu (pv 2) (pe_tup (pa_cons pe_str (pa_cons (pv 1) pa_nil))) pe_int ⟨rfl, rfl, rfl, rfl⟩) (nomark _)))))) pss_nil)
      (pss_one (ps_ret (pe_cmpR op_eq (pe_ix (ix_P (K := K) rfl) (pv 0) pe_int (fun _ _ => rfl)) pe_str (nomark _)))))), ?_⟩
  refine ⟨_, rfl, 2, rfl, _, hv, fun z1 H1 s1 h1 => ⟨_, rfl, _, 0, _, dp_mono s1 _ _ hv, rfl, rfl, fun zw hzw => ?_⟩⟩
  cases hzw
  refine ⟨_, rfl, (by show 2 ≤ sizeLine; decide), fun p hp => ?_⟩
  have s2 := s1.trans (same_new (o := .tup [.str R.word, .str x]) hp)
  rw [show cutP R.L none (some 2) = R.L.take 2 from cutP_to _ 2] at h1
  have h1 := dp_mono (same_new (o := .tup [.str R.word, .str x]) hp) _ _ h1
  have g2 : Dp K (upd H1 p (.tup [.str R.word, .str x])) (.ref p) (.tuple [.str R.word, .str x]) := dp_tupN hp (.cons (.str _) (.cons (.str _) .nil))
  refine ⟨_, _, h1, g2, two_shaped ok, one_shaped R hx, _, rfl, ?_⟩
  have hv2 := dp_mono s2 _ _ hv
  have q2 := fun H' s => q H' (s2.trans s)
  have hk2 := hk.mono s2
  dsimp only at hv2 hk2 q2 ⊢
  generalize upd H1 p (.tup [.str R.word, .str x]) = H2 at hv2 hk2 q2 ⊢
  rw [two_eqv]
  cases hb : twoB x R with
  | false =>
    have q3 := q2 H2 (Same.refl _)
    rw [two_no hb] at q3
    exact iteT q3
  | true =>
    cases R with
    | st y a =>
      refine iteF ⟨_, rfl, _, 0, _, hv2, rfl, rfl, fun z hz => ?_⟩
      cases hz
      refine ⟨rfl, _, rfl, ifS (.inr ⟨show ("store" : Str) ≠ "write" by decide +kernel, _, rfl, _, 0, _, hv2, rfl, rfl, fun z hz => ?_⟩)⟩
      cases hz
      refine ⟨rfl, ?_⟩
      have q3 := q2 H2 (Same.refl _)
      have e : goes x ((l x).getD 0) (.st y a) = decide (V.str (Rw.st y a).word = V.str "store") := by
        rw [decide_eq_true (show V.str (Rw.st y a).word = V.str "store" from rfl)]
        exact hb
      rw [e] at q3
      exact q3
    | wr y a b =>
      refine iteF ⟨_, rfl, _, 0, _, hv2, rfl, rfl, fun z hz => ?_⟩
      cases hz
      refine ⟨rfl, _, rfl, ifS (.inl ⟨rfl, _, rfl, _, 2, _, hv2, rfl, rfl, fun za hza => ⟨za, .ty "int", _, _, _, rfl, .ty _, dp_ty hza, kit_ty (kit_int (oD a)), _, rfl, ?_⟩⟩)⟩
      have eg : goes x ((l x).getD 0) (.wr y a b) = inB ((l x).getD 0) a := by
        have : goes x ((l x).getD 0) (.wr y a b) = (decide (y = x) && inB ((l x).getD 0) a) := by cases a <;> rfl
        rw [this, show decide (y = x) = true from hb]
        rfl
      rw [eg] at q2
      cases a with
      | v m => exact iteF (q2 H2 (Same.refl _))
      | w i =>
        refine iteT ⟨_, rfl, _, 2, _, hv2, rfl, rfl, fun zb hzb => ?_⟩
        cases hzb
        obtain ⟨kvk, ek, hkv⟩ := hk2.ex
        refine ⟨_, rfl, kn, rfl, .inr ⟨kvk, .inl ek⟩, _, rfl, (by show 2 ≤ sizeLine; decide), fun t ht => ?_⟩
        have st := same_new (o := .tup [.str "length", .str x]) ht
        have et : (upd H2 t (.tup [.str "length", .str x])) t = some (.tup ((kL x).map kV)) := upd_same
        refine ⟨_, DGet.t (st _ _ ek) et, i, ((l x).getD 0 : Nat), rfl, ?_, q2 _ st⟩
        rw [(hkv x).2]
        cases l x <;> rfl
    | _ => cases hb
theorem isS_str {K : PySem.W.Frag} {H : Hp} {v : V} {D : PyData} (h : Dp K H v D) : (∃ x, D = .str x ∧ v = .str x) ∨ isS D = false := by
  cases h with
  | str x => exact .inl ⟨x, rfl, rfl⟩
  | _ => exact .inr rfl
def spDue (K : PySem.W.Frag) : Sp := fun vs H Q _ => ∃ (vg vn : V) (kn : Addr) (g : Gr) (N : Nat) (D : PyData) (u : Str → Option Bool) (l : Str → Option Nat), vs = [vg, vn, .ref kn] ∧ Dp K H vg g.D ∧ Dp K H vn D ∧ (∀ x, D = .str x → Nm x) ∧ GrM N g ∧ Kd H kn u l ∧
  (∀ x, Yes u D x → ∀ z H', Same H H' → Dp K H' z (stayG x ((l x).getD 0) g).D → z ≠ .non → Q z H') ∧ ((∀ x, ¬ Yes u D x) → ∀ H', Same H H' → Q .non H')
set_option pp.maxSteps 200 in
set_option pp.maxSteps 600 in
theorem c_due (T : Txt w K mg) : Cal P w K mg base "_law_due" 2 ["_law_graph_here", "_law_name", "_law_known"] (spDue K) := by
  obtain ⟨fd, F⟩ := T.d__law_due
  have C__law_goes := c_goes (P := P) (w := w) (base := base) T
  refine ⟨⟨fd, F.ok sc__law_due (fun vs H Q E h => by repeat (first | (obtain ⟨e, _⟩ := h; subst e; rfl) | (obtain ⟨_, h⟩ := h))) (fun cdv A outer s H vs Q E hr h => ?_), F.bindsN fun _ _ _ _ _ _ us hl => match us, hl with | [_, _, _], _ => rfl⟩, T.g _ (by decide), F.kp⟩
  obtain ⟨vg, vn, kn, g, N, D, u, l, rfl, hg, hn, hnm, gm, hk, q1, q2⟩ := h
  have hu := hu_of hr
  refine ⟨_, PSs.nox (pss_cons (ps_if (PW.pt (pw_or (pt_not (pt_val (pe_callB (isiK (K := K) rfl) (by rfl) T.n_isinstance (by decide +kernel) (pa_cons (pv 1) (pa_cons (pe_bltn (v := .ty "str") (u := .type "str") (by rfl) T.n_str (by decide +kernel) rfl) pa_nil))))) (pw_or1 (pt_not (pt_val (pe_dget2 hu (pv 2) (pe_tup (pa_cons pe_str (pa_cons (pv 1) pa_nil))) pe_bl ⟨rfl, rfl, rfl, rfl⟩)))))) (pss_one (ps_ret pe_non)) pss_nil)
      (pss_cons (ps_set (i := 3) sc__law_due.nd rfl (.inl rfl) (pe_lst pa_nil))
      (pss_cons (ps_for PassesOwn.never rfl (pi_tup (pe_ix (ix_P (K := K) rfl) (pv 0) pe_int (fun _ _ => rfl))) (pg_tupK (K := K) (n := 2) rfl rfl (pgs_cons (pg_name (i := 4) sc__law_due.nd rfl (.inl rfl)) (pgs_cons (pg_name (i := 5) sc__law_due.nd rfl (.inl rfl)) pgs_nil))) (pss_one (ps_expr (pe_bm PySem.F.plainAttrs_list PySem.F.slot_list_append PySem.F.type_list_append mt_append (pv 3) (pa_cons (pe_tup (pa_cons (pe_callTy call_tuple_of (by rfl) T.n_tuple (by decide +kernel) (pa_cons (pe_lc (own := [("_law_row_here", 6)]) (by rfl) sc__law_due.nd (pi_tup (pv 4)) (blkOk_by (own := [("_law_row_here", 6)]) (N := N__law_due) (sc := defScope s__law_due) (by decide +kernel)) (fun _ _ _ _ _ => (pg_name (i := 6) sc__law_due.nd rfl (.inl rfl))) (fun _ _ _ _ _ => pts_one (pt_not (pt_val (pe_cal C__law_goes (hr.mono (by omega)) (by rfl) (pa_cons (pv 6) (pa_cons (pv 1) (pa_cons (pv 2) pa_nil))))))) (fun _ _ _ _ _ => (pv 6))) pa_nil)) (pa_cons (pv 5) pa_nil))) pa_nil)))))
      (pss_one (ps_ret (pe_tup (pa_cons (pe_ix (ix_P (K := K) rfl) (pv 0) pe_int (fun _ _ => rfl)) (pa_cons (pe_callTy call_tuple_of (by rfl) T.n_tuple (by decide +kernel) (pa_cons (pv 3) pa_nil)) pa_nil)))))))), ?_⟩
  refine ⟨vn, rfl, vn, .ty "str", _, _, _, rfl, .ty _, dp_ty hn, kit_ty (kit_str D), _, rfl, ?_⟩
  obtain ⟨x, rfl⟩ | hs : (∃ x, D = .str x) ∨ isS D = false := by
    cases D with
    | str x => exact .inl ⟨x, rfl⟩
    | _ => exact .inr rfl
  case inr =>
    have no : ∀ x, ¬ Yes u D x := fun x h => by rw [h.1] at hs; cases hs
    have fin := q2 no H (Same.refl _)
    clear q1 q2 no
    cases D with
    | str x => cases hs
    | _ => exact iteT (iteT fin)
  cases hn
  obtain ⟨kvk, ek, hkv⟩ := hk.ex
  refine iteF ⟨_, rfl, kn, rfl, .inr ⟨kvk, .inl ek⟩, _, rfl, (by show 2 ≤ sizeLine; decide), fun t ht => ?_⟩
  have s1 := same_new (o := .tup [.str "unread", .str x]) ht
  have et : (upd H t (.tup [.str "unread", .str x])) t = some (.tup ((kU x).map kV)) := upd_same
  have dg := DGet.t (s1 _ _ ek) et
  refine ⟨_, dg, ?_⟩
  have key : (valV kvk (kU x)).getD (.bl false) = .bl (decide (u x = some true)) := by
    rw [(hkv x).1]
    cases u x with
    | none => rfl
    | some b => cases b <;> rfl
  rw [key]
  have hk1 := hk.mono s1
  have hg1 := dp_mono s1 _ _ hg
  have hmany : g.blocks.length ≤ 1000 := by have := gm.many; omega
  generalize upd H t (.tup [.str "unread", .str x]) = H1 at s1 hk1 hg1 ⊢
  refine ⟨_, rfl, ?_⟩
  cases hu2 : decide (u x = some true) with
  | false => exact iteT (q2 (fun y h => by
      obtain ⟨e, h⟩ := h
      injection e with e
      subst e
      exact of_decide_eq_false hu2 h) H1 s1)
  | true =>
  have hux := of_decide_eq_true hu2
  refine iteF ⟨Nat.zero_le _, fun bl hbl => ?_⟩
  have s2 := same_new (o := .lst []) hbl
  refine ⟨vg, rfl, _, 1, _, dp_mono s2 _ _ hg1, rfl, rfl, fun zb hzb => ?_⟩
  cases hzb with
  | @tup ab xb _ sqb hab =>
  have hxb := dpAll_len hab
  rw [List.length_map] at hxb
  refine ⟨ab, rfl, ⟨_, sqb⟩, ?_⟩
  have hlb := hmany
  refine for_tup (xs := xb) (fun i σ H2 => ∃ x4 x5 acc, σ = [some vg, some (.str x), some (.ref kn), some (.ref bl), x4, x5, none] ∧ H2 bl = some (.lst acc) ∧ DpAll K H2 acc (((g.blocks.take i).map (stayB x ((l x).getD 0))).map Blk.D) ∧ Same H1 H2 ∧ KT (upd H1 bl (.lst [])) H2) ⟨_, _, [], rfl, upd_same, .nil, s2, KT.refl _⟩ ?_ ?_ ?_
  · rintro i σ H2 _ ⟨x4, x5, acc, rfl, _, _, _, k2⟩
    exact sqT_kt k2 sqb
  · rintro i y σ H2 hy ⟨x4, x5, acc, rfl, e2, h2, sH, k2⟩
    obtain ⟨b, hb, hyD⟩ := dpAll_map_get hab hy
    have hbm := List.mem_of_getElem? hb
    have hyD := dp_kt k2 _ _ (nlB b) hyD
    have hib := (List.getElem?_eq_some_iff.mp hy).1
    cases hyD with
    | @tup a2 x2 _ sq2 ha2 =>
    cases ha2 with
    | cons k0 kr =>
    cases kr with
    | cons k1 kr1 =>
    cases kr1
    cases k0 with
    | @tup ar xr _ sqr har =>
    have hlr2 := dpAll_len har
    rw [List.length_map] at hlr2
    have hbl1000 := (gm.blk b hbm).len
    refine ⟨a2, _, rfl, sq2, rfl, _, _, rfl, _, _, rfl, rfl, .ref bl, rfl, .inl ⟨rfl, _, .inl (.inl e2)⟩, .ref ar, rfl, ar, rfl, ⟨_, sqr⟩, fun D hD => ?_⟩
    refine lc_tup (xs := xr) (fun j H3 => ∃ acc2, H3 D = some (.lst acc2) ∧ DpAll K H3 acc2 (((b.rows.take j).filter fun R => !goes x ((l x).getD 0) R).map Rw.D) ∧ Same H2 H3) ⟨[], upd_same, .nil, same_new hD⟩ ?_ ?_ ?_
    · rintro j H3 _ ⟨acc2, _, _, s3⟩
      exact sqT_same s3 sqr
    · rintro j y H3 hy ⟨acc2, e3, h3, s3⟩
      obtain ⟨R, hR, hyD⟩ := dpAll_map_get har hy
      have hj := (List.getElem?_eq_some_iff.mp hy).1
      refine ⟨rfl, y, rfl, .str x, rfl, .ref kn, rfl, y, x, kn, R, N, u, l, rfl, dp_mono s3 _ _ hyD, (gm.blk b hbm).rows R (List.mem_of_getElem? hR), hnm x rfl, hk1.mono (sH.trans s3), fun H4 s4 => ⟨_, rfl, ?_⟩⟩
      have e4 := s4 _ _ e3
      have h4 := dpAll_mono s4 _ _ h3
      rw [filter_snoc hR]
      cases hgo : goes x ((l x).getD 0) R with
      | true =>
        refine iteF ⟨acc2, e4, ?_, s3.trans s4⟩
        rw [if_neg (show ¬ (!true) = true from by decide), List.append_nil]
        exact h4
      | false =>
        have hl := dpAll_len h3
        rw [List.length_map] at hl
        have hfl := List.length_filter_le (fun R => !goes x ((l x).getD 0) R) (b.rows.take j)
        rw [List.length_take] at hfl
        have ke := KT.lst (o := .lst (acc2 ++ [y])) e4
        refine iteT ⟨y, rfl, acc2, e4, small_line (by omega), acc2 ++ [y], upd_same, ?_, fun b' o' hb' => ?_⟩
        · rw [if_pos (show (!false) = true from rfl), List.map_append]
          exact dpAll_app (dpAll_kt ke _ _ (nlRs _) h4) (.cons (dp_kt ke _ _ (nlR R) (dp_mono (s3.trans s4) _ _ hyD)) .nil)
        · rw [upd_ne (ne_of_none hb' hD)]
          exact s4 _ _ (s3 _ _ hb')
    rintro H3 ⟨acc2, e3, h3, s3⟩
    rw [List.take_of_length_le (by omega)] at h3
    refine ⟨D, _, rfl, .inl ⟨.inl (.inl e3), fun p4 hp4 => ⟨_, rfl, (by show 2 ≤ sizeLine; decide), fun p5 hp5 => ?_⟩⟩⟩
    have g4 := dp_tupN (K := K) hp4 h3
    have s34 := s3.trans (same_new (o := .tup acc2) hp4)
    obtain ⟨g5, u5⟩ := tupN2 (K := K) hp5 (.cons g4 (.cons (dp_mono s34 _ _ k1) .nil))
    have s25 := s34.trans u5
    have e5 := s25 _ _ e2
    have hl := dpAll_len h2
    rw [List.length_map, List.length_map, List.length_take] at hl
    have ke := KT.lst (o := .lst (acc ++ [.ref p5])) e5
    refine ⟨bl, acc, .ref p5, rfl, rfl, e5, small_line (by omega), _, _, acc ++ [.ref p5], rfl, upd_same, ?_, fun b' o' hb' => ?_, (k2.trans (KT.of s25)).trans ke⟩
    · rw [take_snoc hb, List.map_append, List.map_append]
      refine dpAll_app (dpAll_kt ke _ _ ?_ (dpAll_mono s25 _ _ h2)) (.cons (dp_kt ke _ _ (nlB (stayB x ((l x).getD 0) b)) g5) .nil)
      exact noLAll_map fun x _ => nlB x
    · rw [upd_ne (ne_of_none hb' hbl)]
      exact s25 _ _ (sH _ _ hb')
  rintro σ H2 ⟨x4, x5, acc, rfl, e2, h2, sH, k2⟩
  rw [List.take_of_length_le (by omega)] at h2
  refine ⟨vg, rfl, _, 0, _, dp_mono sH _ _ hg1, rfl, rfl, fun z0 hz0 => ⟨.ref bl, rfl, bl, _, rfl, .inl ⟨.inl (.inl e2), fun p3 hp3 => ⟨(by show 2 ≤ sizeLine; decide), fun p4 hp4 => ?_⟩⟩⟩⟩
  have g3 := dp_tupN (K := K) hp3 h2
  have g4 := dp_tupN (K := K) hp4 (.cons (dp_mono (same_new hp3) _ _ hz0) (.cons g3 .nil))
  exact q1 x ⟨rfl, hux⟩ _ _ (s1.trans (sH.trans ((same_new hp3).trans (same_new hp4)))) g4 (fun z => nomatch z)
end
end K48

set_option maxHeartbeats 4000000
/-! HSum: sum(lists, []). -/
namespace HG
open PySem PySem.Spec PyProof.Rows L2
def LAt (h : Heap) (b : Addr) (xs : List Value) : Prop := ∃ n, h.get? b = some { cls := .type "list", dict := none, data := .seq xs.toArray n, slots := #[] }
def restF (ls : Nat → List Value) (i : Nat) : Nat → List Value
  | 0 => []
  | k + 1 => ls i ++ restF ls (i + 1) k
section
variable {prog : Program} {w : World} {A : Around} {R : Result → Shared → Prop}
theorem sumL_loop (hh : A.handled = none) {I ax : Addr} (hne : ax ≠ I) (items : Array Value) (bs : Nat → Addr) (ls : Nat → List Value) (hval : ∀ (i : Nat) (v : Value), items[i]? = some v → v = .ref (bs i)) (S B : Addr) (hSI : S ≠ I) (hSa : S ≠ ax) (hB : B ≤ S) :
    ∀ (k i : Nat) (s : Shared) (t : Addr) (cur : List Value) (c : Nat), items.size - i = k → i ≤ items.size → (s.heap.IsListIter I ax i ∧ s.heap.IsList ax items) → s.heap.get? S = some { cls := .type "list", dict := none, data := .seq #[.ref t] c, slots := #[] } →
    LAt s.heap t cur → t ≠ I → t ≠ S → (∀ j, j < items.size → LAt s.heap (bs j) (ls j) ∧ bs j ≠ I ∧ bs j ≠ S) → cur.length + (restF ls i k).length ≤ sizeLine →
    (∀ h' tk t', (∀ b o, b ≠ I → b ≠ S → s.heap.get? b = some o → h'.get? b = some o) → LAt h' t' (cur ++ restF ls i k) → (t' = t ∧ k = 0 ∨ B ≤ t') → R (.ok (.ret (.ref t'))) { s with heap := h', toks := tk }) →
    codeAny (model prog w) A (.builtin "sum.loop" ⟨[.ref I, .ref S, rawInt 2, rawInt 0], []⟩) R s := by
  have W := Walks.list (prog := prog) (w := w) (A := A.in1) hh I ax hne items
  intro k
  induction k with
  | zero =>
    intro i s t cur c hk hi hst hS ht tI tS hb hz hR
    have hin : i = items.size := by omega
    subst hin
    refine codeAny_builtin F.entry_sum_loop ?_
    rw [Around.under_plainId F.plain_sum_loop _]
    show wpAny _ A.in1 (seqItems? (.ref S) >>= _) _ _ s
    refine wpAny_bind (wpAny_seqItems hS rfl ?_)
    show wpAny _ A.in1 (tryCatch (pyNext (.ref I)) _ >>= _) _ _ s
    refine wpAny_bind (wpAny_tryCatch (W.done s _ _ hst fun h' tk hk' => ?_))
    refine wpAny_pure (hR h' tk t (fun b o hb1 _ e => hk' b o (by simpa using hb1) e) ?_ (.inl ⟨rfl, rfl⟩))
    obtain ⟨m, e⟩ := ht
    refine ⟨m, ?_⟩
    show h'.get? t = some { cls := .type "list", dict := none, data := .seq (cur ++ []).toArray m, slots := #[] }
    rw [List.append_nil]
    exact hk' _ _ (by simpa using tI) e
  | succ k ih =>
    intro i s t cur c hk hi hst hS ht tI tS hb hz hR
    have hlt : i < items.size := by omega
    refine codeAny_builtin F.entry_sum_loop ?_
    rw [Around.under_plainId F.plain_sum_loop _]
    show wpAny _ A.in1 (seqItems? (.ref S) >>= _) _ _ s
    refine wpAny_bind (wpAny_seqItems hS rfl ?_)
    show wpAny _ A.in1 (tryCatch (pyNext (.ref I)) _ >>= _) _ _ s
    refine wpAny_bind (wpAny_tryCatch (W.item i s _ _ hlt hst fun v h' tk hP hst' hk' => ?_))
    have ev := hval i v hP
    subst ev
    have kp : ∀ b o, b ≠ I → s.heap.get? b = some o → h'.get? b = some o := fun b o hbI e => hk' b o (by simpa using hbI) e
    obtain ⟨mt, et⟩ := ht
    obtain ⟨⟨mb, eb⟩, bI, bS⟩ := hb i hlt
    have et' := kp _ _ tI et
    have eb' := kp _ _ bI eb
    have hS' := kp _ _ hSI hS
    have hz2 : cur.length + ((ls i).length + (restF ls (i + 1) k).length) ≤ sizeLine := by
      have e : (restF ls i (k + 1)).length = (ls i).length + (restF ls (i + 1) k).length := by simp [restF]
      rw [e] at hz
      exact hz
    show wpAny _ A.in1 (Sem.attempt (holding [.ref (bs i)] (binaryOp .Add (.ref t) (.ref (bs i)))) >>= _) _ _ _
    refine wpAny_bind (wpAny_attempt (wpAny_holding (PySem.P.add_list (s := { s with heap := h', toks := tk }) et' eb' ?_ (by simp; omega))))
    have hSl : S < h'.objs.size := Heap.lt_size hS'
    have hS2 : (h'.push { cls := .type "list", data := .seq (cur.toArray ++ (ls i).toArray) }).get? S = some { cls := .type "list", dict := none, data := .seq #[.ref t] c, slots := #[] } := Heap.get?_push_of_some _ hS'
    have hIl : I < h'.objs.size := by
      obtain ⟨o, e, _⟩ := hst'.1
      exact Heap.lt_size e
    have hal : ax < h'.objs.size := by
      obtain ⟨o, e, _⟩ := hst'.2
      exact Heap.lt_size e
    show wpAny _ A.in1 (updateSeq S (fun _ => #[.ref h'.objs.size]) >>= _) _ _ _
    refine wpAny_bind (wpAny_updateSeq hS2 rfl (wpAny_bind (wpAny_letGo ?_)))
    show wpAny _ A.in1 (updateSeq S (fun _ => #[.ref h'.objs.size]) >>= _) _ _ _
    refine wpAny_bind (wpAny_updateSeq (Heap.get?_update_self _ hS2 rfl) rfl (wpAny_pure ⟨plainId_quiet F.plain_sum_loop _, ?_⟩))
    have old : ∀ b o, b ≠ S → h'.get? b = some o → ∀ (f1 f2 : Obj → Obj), (((h'.push { cls := .type "list", data := .seq (cur.toArray ++ (ls i).toArray) }).update S f1).update S f2).get? b = some o := fun b o hbS e f1 f2 =>
      (Heap.get?_update_other _ _ (Ne.symm hbS)).trans ((Heap.get?_update_other _ _ (Ne.symm hbS)).trans (Heap.get?_push_of_some _ e))
    have newL : ∀ (f1 f2 : Obj → Obj), (((h'.push { cls := .type "list", data := .seq (cur.toArray ++ (ls i).toArray) }).update S f1).update S f2).get? h'.objs.size = some { cls := .type "list", data := .seq (cur.toArray ++ (ls i).toArray) } := fun f1 f2 =>
      (Heap.get?_update_other _ _ (Nat.ne_of_lt hSl)).trans ((Heap.get?_update_other _ _ (Nat.ne_of_lt hSl)).trans (Heap.get?_push_size _ rfl))
    refine ih (i + 1) _ h'.objs.size (cur ++ ls i) _ (by omega) hlt ⟨hst'.1.at fun o e => old _ _ (Ne.symm hSI) e _ _, hst'.2.at fun o e => old _ _ (Ne.symm hSa) e _ _⟩ (Heap.get?_update_self _ (Heap.get?_update_self _ hS2 rfl) rfl) ⟨0, ?_⟩ (Nat.ne_of_gt hIl) (Nat.ne_of_gt hSl) (fun j hj => ?_) ?_ fun h2 tk2 t2 hk2 hL2 hn2 => ?_
    · have := newL (Obj.mapSeq fun _ => #[.ref h'.objs.size]) (Obj.mapSeq fun _ => #[.ref h'.objs.size])
      simpa using this
    · obtain ⟨⟨mj, ej⟩, jI, jS⟩ := hb j hj
      exact ⟨⟨mj, old _ _ jS (kp _ _ jI ej) _ _⟩, jI, jS⟩
    · rw [List.length_append]
      omega
    · refine hR h2 tk2 t2 (fun b o hbI hbS e => hk2 b o hbI hbS (old _ _ hbS (kp _ _ hbI e) _ _)) ?_ (.inr ?_)
      · obtain ⟨m, e⟩ := hL2
        refine ⟨m, ?_⟩
        show h2.get? t2 = some { cls := .type "list", dict := none, data := .seq (cur ++ (ls i ++ restF ls (i + 1) k)).toArray m, slots := #[] }
        rw [← List.append_assoc]
        exact e
      · rcases hn2 with ⟨z, _⟩ | z
        · rw [z]
          exact Nat.le_of_lt (Nat.lt_of_le_of_lt hB hSl)
        · exact z
end
theorem sub_list_str : isSubtype (.type "list") (.type "str") = pure false := by rw [isSubtype_type]; kernel_rfl
theorem sub_list_bytes : isSubtype (.type "list") (.type "bytes") = pure false := by rw [isSubtype_type]; kernel_rfl
theorem sub_list_bytearray : isSubtype (.type "list") (.type "bytearray") = pure false := by rw [isSubtype_type]; kernel_rfl
theorem args_sum2 (a b : Value) : argsOk "sum" ⟨[a, b], []⟩ := by unfold argsOk; kernel_rfl
section
variable {prog : Program} {w : World} {A : Around} {E : Value → Shared → Prop} {s : Shared}
theorem sum_lists_raw (hh : A.handled = none) {l z : Addr} {items : Array Value} (hl : s.heap.IsList l items) (hz0 : LAt s.heap z []) (bs : Nat → Addr) (ls : Nat → List Value) (hval : ∀ (i : Nat) (v : Value), items[i]? = some v → v = .ref (bs i))
    (hb : ∀ j, j < items.size → LAt s.heap (bs j) (ls j)) (h0 : 0 < items.size) (hz : (restF ls 0 items.size).length ≤ sizeLine) {Q : Value → Shared → Prop}
    (h : ∀ h' tk t', (∀ b o, s.heap.get? b = some o → h'.get? b = some o) → s.heap.objs.size ≤ t' → LAt h' t' (restF ls 0 items.size) → Q (.ref t') { s with heap := h', toks := tk }) :
    wpAny (model prog w) A (call (.builtin "sum") [.ref l, .ref z]) Q E s := by
  refine call_function_tree F.kind_sum F.plain_sum F.entry_sum (args_sum2 _ _) ?_
  unfold Builtin.«sum»
  simp only [List.length_cons, List.length_nil]
  rw [if_neg (by decide)]
  refine wpAny_bind (wpAny_of_eq (show Builtin.Builtins.bindParams "sum" ["start"] 0 ⟨[.ref z], []⟩ = pure [some (.ref z)] from rfl) ?_)
  refine wpAny_bind (wpAny_pyIter_list hl ?_)
  refine wpAny_bind (wpAny_pure ?_)
  obtain ⟨mz, ez⟩ := hz0
  have hT : Shared.TypeIs { s with heap := s.heap.push { cls := .type "list_iterator", data := .fields #[.ref l, .int 0 0] } } (.ref z) "list" := ⟨_, Heap.get?_push_of_some _ ez, rfl⟩
  simp only [List.forIn_cons, List.forIn_nil]
  refine wpAny_bind (wpAny_bind (wpAny_bind (wpAny_isInstance (T := "list") (b := false) hT sub_list_str ?_)))
  simp only [Bool.false_eq_true, if_false]
  refine wpAny_pure (wpAny_bind (wpAny_bind (wpAny_isInstance (T := "list") (b := false) hT sub_list_bytes ?_)))
  simp only [Bool.false_eq_true, if_false]
  refine wpAny_pure (wpAny_bind (wpAny_bind (wpAny_isInstance (T := "list") (b := false) hT sub_list_bytearray ?_)))
  simp only [Bool.false_eq_true, if_false]
  refine wpAny_pure (wpAny_pure ?_)
  refine wpAny_bind (wpAny_newObj_type ?_)
  have hll : l < s.heap.objs.size := by
    obtain ⟨o, e, _⟩ := hl
    exact Heap.lt_size e
  have hsz : (s.heap.push { cls := .type "list_iterator", data := .fields #[.ref l, .int 0 0] }).objs.size = s.heap.objs.size + 1 := Heap.size_push ..
  have lt : ∀ {b : Addr} {o : Obj}, s.heap.get? b = some o → b ≠ s.heap.objs.size ∧ b ≠ (s.heap.push { cls := .type "list_iterator", data := .fields #[.ref l, .int 0 0] }).objs.size := fun {b o} e => by
    have := Heap.lt_size e
    rw [hsz]
    exact ⟨Nat.ne_of_lt this, Nat.ne_of_lt (Nat.lt_succ_of_lt this)⟩
  refine wpAny_pure ⟨plainId_quiet F.plain_sum_loop _, sumL_loop hh (I := s.heap.objs.size) (ax := l) (Nat.ne_of_lt hll) items bs ls hval _ s.heap.objs.size (by rw [hsz]; exact Nat.succ_ne_self _) (by rw [hsz]; exact Nat.ne_of_gt (Nat.lt_succ_of_lt hll)) (by rw [hsz]; exact Nat.le_succ _) items.size 0 _ z [] 0 (by omega) (Nat.zero_le _)
    ⟨?_, ?_⟩ (Heap.get?_push_size _ rfl) ⟨mz, Heap.get?_push_of_some _ (Heap.get?_push_of_some _ ez)⟩ (lt ez).1 (lt ez).2 (fun j hj => ?_) (by simpa using hz) fun h' tk t' hk hL hn => ?_⟩
  · exact ⟨_, Heap.get?_push_of_some _ (Heap.get?_push_size _ rfl), rfl, rfl⟩
  · exact hl.at fun o e => Heap.get?_push_of_some _ (Heap.get?_push_of_some _ e)
  · obtain ⟨m, e⟩ := hb j hj
    exact ⟨⟨m, Heap.get?_push_of_some _ (Heap.get?_push_of_some _ e)⟩, (lt e).1, (lt e).2⟩
  · refine h h' tk t' (fun b o e => hk b o (lt e).1 (lt e).2 (Heap.get?_push_of_some _ (Heap.get?_push_of_some _ e))) ?_ hL
    rcases hn with ⟨_, z⟩ | z
    · omega
    · exact z
end
/-! ### as a rule -/
def rSumL : List V → Hp → VK → Prop := fun vs H Q => ∃ (a z : Addr) (bs : List Addr) (xss : List (List V)), vs = [.ref a, .ref z] ∧ H a = some (.lst (bs.map V.ref)) ∧ H z = some (.lst []) ∧ bs.length = xss.length ∧ 0 < bs.length ∧ xss.flatten.length ≤ sizeLine ∧
  (∀ (i : Nat) (b : Addr), bs[i]? = some b → ∃ xs, xss[i]? = some xs ∧ H b = some (.lst xs)) ∧ ∀ p, H p = none → Q (.ref p) (upd H p (.lst xss.flatten))
section
variable {X : Cx}
theorem vals_flat : ∀ {xss : List (List V)} {uss : List (List Value)}, Paired (fun xs us => Vals xs us) xss uss → Vals xss.flatten uss.flatten
  | [], _, .nil => .nil
  | _ :: _, _ :: _, .cons r t => by
    rw [List.flatten_cons, List.flatten_cons]
    exact r.append (vals_flat t)
theorem restF_eq (g : Nat → List Value) : ∀ (uss : List (List Value)) (i : Nat), (∀ (j : Nat) (us : List Value), uss[j]? = some us → g (i + j) = us) → restF g i uss.length = uss.flatten
  | [], _, _ => rfl
  | us :: uss, i, h => by
    have h0 := h 0 us rfl
    show g i ++ restF g (i + 1) uss.length = us ++ uss.flatten
    rw [show g i = us from h0, restF_eq g uss (i + 1) fun j u hu => by
      have := h (j + 1) u (by simpa using hu)
      rw [show i + 1 + j = i + (j + 1) by omega]
      exact this]
theorem cr_sumL (hc : X.calm = true) : CallR X (.builtin "sum") rSumL := by
  intro pins s σ H vs us Q I r h
  obtain ⟨a, z, bs, xss, rfl, ha, hz, hlen, h0, hsz, hb, q⟩ := h
  cases r with
  | cons r1 r2 =>
    cases r2 with
    | cons r3 r4 =>
      cases r4
      cases r1
      cases r3
      obtain ⟨_, its, n, rv, hl, e⟩ := I.lstM ha
      obtain ⟨_, itz, nz, rz, hlz, ez⟩ := I.lstM hz
      cases rz
      have hb2 : ∀ i, i < bs.length → ∃ (b : Addr) (us : List Value) (xs : List V), bs[i]? = some b ∧ xss[i]? = some xs ∧ Vals xs us ∧ LAt s.heap b us := fun i hi => by
        have e1 : bs[i]? = some bs[i] := List.getElem?_eq_getElem hi
        obtain ⟨xs, e2, e3⟩ := hb i _ e1
        obtain ⟨_, ui, ni, ri, _, ei⟩ := I.lstM e3
        exact ⟨_, ui, xs, e1, e2, ri, ni, ei⟩
      have hlen2 := rv.length
      rw [List.length_map] at hlen2
      let us : Nat → List Value := fun i => if h : i < bs.length then (hb2 i h).choose_spec.choose else []
      have hus : ∀ i (h : i < bs.length), ∃ (xs : List V), xss[i]? = some xs ∧ Vals xs (us i) ∧ LAt s.heap (bs.getD i 0) (us i) := fun i h => by
        obtain ⟨xs, h1, h2, h3, h4⟩ := (hb2 i h).choose_spec.choose_spec
        have e : us i = (hb2 i h).choose_spec.choose := dif_pos h
        have eb : bs.getD i 0 = (hb2 i h).choose := (List.getD_eq_getElem?_getD ..).trans (congrArg (fun o => Option.getD o 0) h1)
        rw [e, eb]
        exact ⟨xs, h2, h3, h4⟩
      have hP : ∀ (m : Nat) (ys : List (List V)) (i : Nat), i + ys.length = bs.length → (∀ j xs, ys[j]? = some xs → xss[i + j]? = some xs) → Vals ys.flatten (restF us i ys.length) := by
        intro m ys
        induction ys with
        | nil => intro i _ _; exact .nil
        | cons y ys ih =>
          intro i hi hj
          rw [List.length_cons] at hi
          obtain ⟨xs, h1, h2, _⟩ := hus i (by omega)
          have h3 := hj 0 y rfl
          rw [Nat.add_zero, h1] at h3
          cases h3
          show Vals (y :: ys).flatten (us i ++ restF us (i + 1) ys.length)
          rw [List.flatten_cons]
          refine h2.append (ih (i + 1) (by omega) fun j zs hz => ?_)
          have := hj (j + 1) zs (by simpa using hz)
          rw [show i + 1 + j = i + (j + 1) by omega]
          exact this
      have hall := hP 0 xss 0 (by omega) fun j xs h => by rw [Nat.zero_add]; exact h
      have hsize : its.toArray.size = xss.length := by rw [List.size_toArray]; omega
      refine sum_lists_raw (I.ok.hd hc) (items := its.toArray) ⟨_, e, rfl, n, rfl⟩ ⟨nz, ez⟩ (fun i => bs.getD i 0) us (fun i v hv => ?_) (fun j hj => ?_) (by omega) (by rw [hsize, ← hall.length]; exact hsz) fun h' tk t' hk ht hL => ?_
      · have hv : its[i]? = some v := by simpa using hv
        have hi : i < its.length := (List.getElem?_eq_some_iff.mp hv).1
        have e1 : (bs.map V.ref)[i]? = some (.ref (bs.getD i 0)) := by
          rw [List.getElem?_map, List.getElem?_eq_getElem (by omega : i < bs.length), List.getD_eq_getElem?_getD, List.getElem?_eq_getElem (by omega : i < bs.length)]
          rfl
        obtain ⟨u, hu, ru⟩ := rv.get e1
        rw [hv] at hu
        cases hu
        cases ru
        rfl
      · obtain ⟨_, _, _, h4⟩ := hus j (by omega)
        exact h4
      · rw [hsize] at hL
        obtain ⟨m, eL⟩ := hL
        refine ⟨.ref t', _, I.laid (a := t') (h' := h') (t' := tk) hk ht ?_, rfl, q t' (I.hok.fresh ht)⟩
        exact ⟨hsz, _, m, hall, eL⟩
end
end HG

set_option maxHeartbeats 4000000
/-! HSet: set(list of ints), in order. -/
namespace HG
open PySem PySem.Spec PyProof.Rows L2
section
variable {P : Program} {w : World} {A : Around} {E : Value → Shared → Prop} {s : Shared}
set_option maxRecDepth 100000 in
set_option maxHeartbeats 3200000 in
theorem set_listI {l : Addr} {items : Array Value} (ns : List Int) {Q : Value → Shared → Prop} (hh : A.handled = none) (hl : s.heap.IsList l items) (hit : IntsAre items.toList ns) (hb : ns.length + 1 < scanBound)
    (h : ∀ (h' : Heap) (tk c : Nat), SetR w h' s.heap.objs.size (fun j => decide (j ∈ ns)) c → c ≤ ns.length → (∀ b o, s.heap.get? b = some o → h'.get? b = some o) → Q (.ref s.heap.objs.size) { s with heap := h', toks := tk }) :
    wpAny (model P w) A (call (.type "set") [.ref l]) Q E s := by
  have hisz : items.size = ns.length := by
    have q := IntsAre.length hit
    rw [Array.length_toList] at q
    exact q
  obtain ⟨c, tl, hmro⟩ := F.called_set.mro
  have hmade := F.called_set.made
  have hsub := F.called_set.sub
  refine wpAny_call (codeAny_of_tree ?_)
  show wpAny _ _ (callAny (.type "set") _) _ _ _
  refine wpAny_pure ⟨Code.quiet_builtin _ (by decide +kernel), codeAny_builtin F.entry_type_call ?_⟩
  rw [Around.under_plain (weight_type_call_type "set" [.ref l] []) rfl]
  have h1 := F.called_set.notType
  have h2 := F.called_set.canCreate
  have hct := F.typeCall_set_1 (.ref l)
  repeat (any_goals (first | assumption | wp_step))

  refine codeAny_mono (code_set_led1 (.ref l) (E := E) (Q₁ := fun obj s₁ => obj = .ref s.heap.objs.size ∧ s₁ = { s with heap := s.heap.push { cls := .type "set", dict := none, data := .set #[] 0 (.fresh 0 0 (!w.params.followText "set-order")) } }) ⟨rfl, rfl⟩) fun r s₁ hr => ?_
  cases r with
  | error e => exact hr
  | ok fl =>
    cases fl with
    | ret obj =>
      obtain ⟨rfl, rfl⟩ := hr
      have hS : (s.heap.push { cls := .type "set", dict := none, data := .set #[] 0 (.fresh 0 0 (!w.params.followText "set-order")) }).get? s.heap.objs.size = some { cls := .type "set", dict := none, data := .set #[] 0 (.fresh 0 0 (!w.params.followText "set-order")) } := Heap.get?_push_size _ rfl
      have hT : Shared.TypeIs { s with heap := s.heap.push { cls := .type "set", dict := none, data := .set #[] 0 (.fresh 0 0 (!w.params.followText "set-order")) } } (.ref s.heap.objs.size) "set" := ⟨_, hS, rfl⟩
      have hli := F.called_set.init.lookup
      have hbi := F.called_set.init.bind (.ref s.heap.objs.size)
      repeat (any_goals (first | assumption | wp_step))

      refine codeAny_mono (codeAny_call_builtin (R := wants (fun r s₂ => r = .none ∧ ∃ h' tk c, s₂ = { s with heap := h', toks := tk } ∧ SetR w h' s.heap.objs.size (fun j => decide (j ∈ ns)) c ∧ c ≤ ns.length ∧
          (∀ b o, s.heap.get? b = some o → h'.get? b = some o)) E) F.called_set.init.plain F.entry_set_init (check_set_init_1 hT ?_)) fun r₂ s₂ hr₂ => ?_
      · obtain ⟨ol, hol, hcl, nl, hdl⟩ := hl
        obtain ⟨ocls, odict, odata, oslots⟩ := ol
        simp only at hcl hdl
        subst hcl; subst hdl
        have hol' : (s.heap.push { cls := .type "set", dict := none, data := .set #[] 0 (.fresh 0 0 (!w.params.followText "set-order")) }).get? l = some { cls := .type "list", dict := odict, data := .seq items nl, slots := oslots } := Heap.get?_push_of_some _ hol
        have hsls := F.sub_list_set
        have hslf := F.sub_list_frozenset
        have hne : (Value.type "list" == Value.type "dict") = false := by decide
        have hl1 : (s.heap.push { cls := .type "set", dict := none, data := .set #[] 0 (.fresh 0 0 (!w.params.followText "set-order")) }).IsList l items := ⟨_, hol', rfl, nl, rfl⟩
        unfold Builtin.«set.__init__» noKeywords Builtin.Frozenset.updateFrom
        generalize hPI : pyIter = PI
        wp_walk
        subst hPI

        refine wpAny_pyIter_list hl1 ?_
        refine wpAny_bind (wpAny_runValue ?_)
        have hlS : l < s.heap.objs.size := Heap.lt_size hol
        have hh3 : A.in1.in1.in1.handled = none := by simp [hh]
        have hz1 : (s.heap.push { cls := .type "set", dict := none, data := .set #[] 0 (.fresh 0 0 (!w.params.followText "set-order")) }).objs.size = s.heap.objs.size + 1 := Heap.size_push ..
        have hneI : l ≠ (s.heap.push { cls := .type "set", dict := none, data := .set #[] 0 (.fresh 0 0 (!w.params.followText "set-order")) }).objs.size := by
          rw [Heap.size_push]; exact Nat.ne_of_lt (Nat.lt_succ_of_lt hlS)
        have hSf : s.heap.objs.size ∉ [(s.heap.push { cls := .type "set", dict := none, data := .set #[] 0 (.fresh 0 0 (!w.params.followText "set-order")) }).objs.size, l] := by
          rw [Heap.size_push]; simp only [List.mem_cons, List.mem_singleton, List.not_mem_nil, or_false, not_or]
          exact ⟨Nat.ne_of_lt (Nat.lt_succ_self _), Nat.ne_of_gt hlS⟩
        have hval : ∀ (i : Nat) (v : Value), items[i]? = some v → ∃ k t, ns[i]? = some k ∧ v = .int k t := fun i v hv => by
          have hi : i < ns.length := by rw [← hisz]; exact (Array.getElem?_eq_some_iff.mp hv).1
          obtain ⟨t, e⟩ := PyProof.Rows.IntsAre.int_at hit i v (by rw [Array.getElem?_toList]; exact hv)
          refine ⟨ns[i], t, List.getElem?_eq_getElem hi, ?_⟩
          rw [e, List.getD_eq_getElem?_getD, List.getElem?_eq_getElem hi] <;> rfl
        refine set_update_ints ((Walks.list hh3 _ l hneI items).toS) s.heap.objs.size
          hSf ns hisz hb hval (items.size - 0) 0 _ (by omega) (Nat.zero_le _)
          ⟨⟨_, Heap.get?_push_size _ rfl, rfl, rfl⟩, (hl1.push _)⟩ ?hS0 ?hR
        case hS0 =>
          have hget : ((s.heap.push { cls := .type "set", dict := none, data := .set #[] 0 (.fresh 0 0 (!w.params.followText "set-order")) }).push { cls := .type "list_iterator", data := .fields #[.ref l, .int 0 0] }).get? s.heap.objs.size
              = some { cls := .type "set", dict := none, data := .set #[] 0 (.fresh 0 0 (!w.params.followText "set-order")) } := Heap.get?_push_of_some _ hS
          exact ⟨0, Nat.le_refl 0, setR_new_at hget⟩
        case hR =>
          intro s' c' hm hc' hS'
          obtain ⟨h', g2, d', tk', os'⟩ := s'
          have eg : g2 = s.gens := hm.gens
          have ed : d' = s.drawn := hm.drawn
          have eo : os' = s.os := hm.os
          subst eg; subst ed; subst eo
          show wpAny _ _ _ _ _ _
          refine wpAny_pure ?_
          show wpAny _ _ (ret Value.none) _ _ _
          rw [hisz] at hc'
          refine wpAny_pure ⟨rfl, h', tk', c', rfl, hS', hc', fun b o e => ?_⟩
          have hb0 : b < s.heap.objs.size := Heap.lt_size e
          have hb1 : b ≠ s.heap.objs.size := Nat.ne_of_lt hb0
          have hb2 : b ≠ (s.heap.push { cls := .type "set", dict := none, data := .set #[] 0 (.fresh 0 0 (!w.params.followText "set-order")) }).objs.size := by
            rw [Heap.size_push]; exact Nat.ne_of_lt (Nat.lt_succ_of_lt hb0)
          exact hm.heap b o (by simp only [List.mem_cons, List.mem_singleton, List.not_mem_nil, or_false, not_or]; exact ⟨hb1, hb2⟩) (Heap.get?_push_of_some _ (Heap.get?_push_of_some _ e))

      · cases r₂ with
        | error e => exact hr₂
        | ok fl₂ =>
          cases fl₂ with
          | ret r =>
            obtain ⟨rfl, h', tk, c', rfl, hS', hc', hk'⟩ := hr₂
            repeat (any_goals (first | assumption | wp_step))
            exact h _ _ _ hS' hc' hk'
          | _ => exact hr₂.elim
    | _ => exact hr.elim

end
theorem nodup_len : ∀ (n : Nat) (l : List Int), l.Nodup → (∀ k ∈ l, 0 ≤ k ∧ k < (n : Int)) → l.length ≤ n
  | 0, l, _, h => by
    cases l with
    | nil => exact Nat.le_refl _
    | cons a r =>
      have := h a List.mem_cons_self
      omega
  | n + 1, l, hn, h => by
    have h1 := nodup_len n (l.erase (n : Int)) (hn.erase _) fun k hk => by
      have h2 := (hn.mem_erase_iff).mp hk
      have h3 := h k h2.2
      have h4 := h2.1
      omega
    have h2 := List.le_length_erase (a := (n : Int)) (l := l)
    omega
/-- set(l) of a list of ints -/
def rSetLI (K : PySem.W.Frag) (w : World) : List V → Hp → VK → Prop := fun xs H Q => ∃ (l : Addr) (ns : List Int), xs = [V.ref l] ∧ SqL K H l (ns.map V.int) ∧ ns.length + 1 < scanBound ∧
  ∀ (p : Addr) (ks : List Int), H p = none → ks.Nodup → (∀ k, k ∈ ks ↔ k ∈ ns) → Q (.ref p) (upd H p (SetO w p (fun j => decide (j ∈ ns)) ks.length))
theorem cr_setLI {X : Cx} (hc : X.calm = true) : CallR X (.type "set") (rSetLI X.K X.w) := by
  intro pins s σ H vs us Q I r h
  obtain ⟨l, ns, rfl, hq, hb, q⟩ := h
  rw [Vals.ref1 r]
  obtain ⟨its, rv, pl, hz⟩ := I.list hq
  have hi : IntsAre its.toArray.toList ns := ints_of_vals rv
  refine set_listI ns (I.ok.hd hc) pl.isList hi hb fun h' tk c R1 hcn k => ?_
  have ⟨o, es, ep, t, ho, hex, hdt, g, nd, hm2, hb, hf, hn, hr, hl2⟩ := R1
  have hlen : (es.toList.map keyOf).length = c := by rw [List.length_map, Array.length_toList, hn]
  have q2 := q s.heap.objs.size (es.toList.map keyOf) (I.hok.fresh (Nat.le_refl _)) nd fun k => by rw [← hm2 k, decide_eq_true_eq]
  rw [hlen] at q2
  exact ⟨.ref _, _, I.laid (t' := tk) k (Nat.le_refl _) (setO_new R1), rfl, q2⟩
end HG

set_option maxHeartbeats 4000000
namespace K48
open PySem PySem.Spec PyProof.Rows L2 HG P52
/-- not too wide -/
def Nar (d : PyData) : Prop := P54.wt d ≤ 10000000
def spSame (K : PySem.W.Frag) (m : Nat) : Sp := fun vs H Q _ => ∃ (v u : V) (D : PyData), vs = [v, u] ∧ Dp K H v D ∧ Dp K H u D ∧ noL D = true ∧ D.depth < m ∧ P54.wt D ≤ 10000000 ∧ ∀ H', Same H H' → Q (.bl true) H'
section
variable {P : Program} {w : World} {K : PySem.W.Frag} {mg : Str → Option Value} {base : Heap}
set_option pp.maxSteps 600 in
theorem ok_same (T : Txt w K mg) : ∀ m : Nat, ∃ fd, FnOk P w K mg base CX0 (1 + m) (He.ga K "_law_same") fd ["_law_found", "_law_due_here"] (spSame K m) ∧ Binds K fd ["_law_found", "_law_due_here"] []
  | 0 => by
    obtain ⟨fd, F⟩ := T.d__law_same
    exact ⟨fd, ⟨fun _ _ _ _ h => by obtain ⟨_, _, _, _, _, _, _, h, _⟩ := h; omega, fun _ _ _ _ _ _ _ _ _ _ _ _ _ h => by obtain ⟨_, _, _, _, _, _, _, h, _⟩ := h; omega⟩, F.bindsN fun _ _ _ _ _ _ us hl => match us, hl with | [_, _], _ => rfl⟩
  | m + 1 => by
    have C__law_same : Cal P w K mg base "_law_same" (1 + m) ["_law_found", "_law_due_here"] (spSame K m) := ⟨ok_same T m, T.g _ (by decide), by obtain ⟨fd, F⟩ := T.d__law_same; exact F.kp⟩
    obtain ⟨fd, F⟩ := T.d__law_same
    refine ⟨fd, F.ok (k := 1 + m) sc__law_same (fun vs H Q E h => ?_) (fun cdv A outer s H vs Q E hr h => ?_), F.bindsN fun _ _ _ _ _ _ us hl => match us, hl with | [_, _], _ => rfl⟩
    · obtain ⟨v, u, D, rfl, _⟩ := h
      rfl
    obtain ⟨v, u, D, rfl, hv, hu, hn, hd, hw, q⟩ := h
    refine ⟨_, PSs.nox (pss_cons (ps_if (pt_val (pe_callB (isiK (K := K) rfl) (by rfl) T.n_isinstance (by decide +kernel) (pa_cons (pv 1) (pa_cons (pe_bltn (v := .ty "tuple") (u := .type "tuple") (by rfl) T.n_tuple (by decide +kernel) rfl) pa_nil)))) (pss_cons (ps_if (PW.pt (pw_or (pt_not (pt_val (pe_callB (isiK (K := K) rfl) (by rfl) T.n_isinstance (by decide +kernel) (pa_cons (pv 0) (pa_cons (pe_bltn (v := .ty "tuple") (u := .type "tuple") (by rfl) T.n_tuple (by decide +kernel) rfl) pa_nil))))) (pw_or1 (pt_cmpR op_ne (pe_callB (lenK (K := K) rfl) (by rfl) T.n_len (by decide +kernel) (pa_cons (pv 0) pa_nil)) (pe_callB (lenK (K := K) rfl) (by rfl) T.n_len (by decide +kernel) (pa_cons (pv 1) pa_nil)) (nomark _))))) (pss_one (ps_ret pe_bl)) pss_nil)
      (pss_one (ps_ret (pe_cmpR (op_eqDK (K := K) rfl hr.units) (pe_lc (own := [("_law_k", 2)]) (by rfl) sc__law_same.nd (pi_range1 (by rfl) T.n_range (pa_cons (pe_callB (lenK (K := K) rfl) (by rfl) T.n_len (by decide +kernel) (pa_cons (pv 1) pa_nil)) pa_nil)) (blkOk_by (own := [("_law_k", 2)]) (N := N__law_same) (sc := defScope s__law_same) (by decide +kernel)) (fun _ _ _ _ _ => (pg_name (i := 2) sc__law_same.nd rfl (.inl rfl))) (fun _ _ _ _ _ => pts_one (pt_not (pt_val (pe_cal C__law_same (hr.mono (by omega)) (by rfl) (pa_cons (pe_ix (ix_P (K := K) rfl) (pv 0) (pv 2) (fun _ _ => rfl)) (pa_cons (pe_ix (ix_P (K := K) rfl) (pv 1) (pv 2) (fun _ _ => rfl)) pa_nil)))))) (fun _ _ _ _ _ => (pv 2))) (pe_lst pa_nil) (nomark _))))) pss_nil)
      (pss_cons (ps_if (PW.pt (pw_or (pt_cmpR op_isN (pv 1) pe_non (nomark _)) (pw_or1 (pt_val (pe_callB (isiTK (K := K) rfl) (by rfl) T.n_isinstance (by decide +kernel) (pa_cons (pv 1) (pa_cons (pe_tup (pa_cons (pe_bltn (v := .ty "bool") (u := .type "bool") (by rfl) T.n_bool (by decide +kernel) rfl) (pa_cons (pe_bltn (v := .ty "str") (u := .type "str") (by rfl) T.n_str (by decide +kernel) rfl) pa_nil))) pa_nil))))))) (pss_one (ps_ret (pe_and (pe_cmpR op_eq (pe_callB (isiK (K := K) rfl) (by rfl) T.n_isinstance (by decide +kernel) (pa_cons (pv 0) (pa_cons (pe_bltn (v := .ty "bool") (u := .type "bool") (by rfl) T.n_bool (by decide +kernel) rfl) pa_nil))) (pe_callB (isiK (K := K) rfl) (by rfl) T.n_isinstance (by decide +kernel) (pa_cons (pv 1) (pa_cons (pe_bltn (v := .ty "bool") (u := .type "bool") (by rfl) T.n_bool (by decide +kernel) rfl) pa_nil))) (nomark _)) (pe_one (pe_cmpR op_eq (pv 0) (pv 1) (nomark _)))))) pss_nil)
      (pss_one (ps_ret (pe_and (pe_callB (isiK (K := K) rfl) (by rfl) T.n_isinstance (by decide +kernel) (pa_cons (pv 0) (pa_cons (pe_bltn (v := .ty "int") (u := .type "int") (by rfl) T.n_int (by decide +kernel) rfl) pa_nil))) (pe_and (pe_not (pe_callB (isiK (K := K) rfl) (by rfl) T.n_isinstance (by decide +kernel) (pa_cons (pv 0) (pa_cons (pe_bltn (v := .ty "bool") (u := .type "bool") (by rfl) T.n_bool (by decide +kernel) rfl) pa_nil)))) (pe_one (pe_cmpR op_eq (pv 0) (pv 1) (nomark _))))))))), ?_⟩
    refine ⟨u, rfl, u, .ty "tuple", _, _, _, rfl, .ty _, dp_ty hu, kit_ty (kit_tuple D), _, rfl, ?_⟩
    cases D with
    | list _ => simp [noL] at hn
    | dict _ => simp [noL] at hn
    | tuple ds =>
      have hv0 := hv
      have hu0 := hu
      cases hv with
      | @tup a xs _ sq ha =>
        cases hu with
        | @tup a' xs' _ sq' ha' =>
          have hl := dpAll_len ha
          have hl' := dpAll_len ha'
          refine iteT ⟨.ref a, rfl, .ref a, .ty "tuple", _, _, _, rfl, .ty _, dp_ty hv0, kit_ty (kit_tuple _), _, rfl, ?_⟩
          refine iteF ⟨.ref a, rfl, .ref a, _, rfl, .inr ⟨xs, sq, rfl⟩, .ref a', rfl, .ref a', _, rfl, .inr ⟨xs', sq', rfl⟩, rfl, _, rfl, ?_⟩
          have el : decide (V.int (xs.length : Int) = V.int (xs'.length : Int)) = true := by rw [len_eq, hl, hl']; exact decide_eq_true rfl
          rw [el]
          refine iteF ⟨.ref a', rfl, .ref a', _, rfl, .inr ⟨xs', sq', rfl⟩, _, rfl, by omega, ?_, fun D hD => ?_⟩
          · have h8 := P54.wtAll_len ds
            rw [P54.wt_tup] at hw
            omega
          have hnl := noL_tup.mp hn
          refine lc_range (lo := 0) (n := ((xs'.length : Nat) : Int).toNat) (fun j H4 => H4 D = some (.lst []) ∧ Same H H4) ⟨upd_same, same_new hD⟩ ?_ ?_
          · rintro j H4 hj ⟨hD4, s4⟩
            have hj : j < ds.length := by omega
            have hdj : ds[j]? = some ds[j] := List.getElem?_eq_getElem hj
            have hm := List.mem_of_getElem? hdj
            refine ⟨rfl, .ref a, rfl, .int (0 + (j : Int)), rfl, ds, j, _, dp_mono s4 _ _ hv0, by rw [Int.zero_add], hdj, fun z1 h1 => ⟨.ref a', rfl, .int (0 + (j : Int)), rfl, ds, j, _, dp_mono s4 _ _ hu0, by rw [Int.zero_add], hdj, fun z2 h2 => ?_⟩⟩
            refine ⟨z1, z2, _, rfl, h1, h2, hnl _ hm, ?_, ?_, fun H5 s5 => ⟨_, rfl, iteF ⟨s5 _ _ hD4, s4.trans s5⟩⟩⟩
            · have h8 := P54.depthAll_mem hm
              rw [P54.dp_tup] at hd
              omega
            · have h8 := P54.wtAll_mem hm
              rw [P54.wt_tup] at hw
              omega
          rintro H4 ⟨hD4, s4⟩
          refine ⟨Nat.zero_le _, fun p hp => ⟨.list [], .list [], .lst (.inl (.inl (upd_get hp hD4))) .nil, .lst (.inl (.inl upd_same)) .nil, by decide, by decide, ?_⟩⟩
          exact q _ (s4.trans (same_new hp))
    | none =>
      cases hv
      cases hu
      refine iteF ⟨_, rfl, rfl, _, rfl, iteT (iteT ?_)⟩
      exact ⟨_, rfl, _, .ty "bool", _, _, _, rfl, .ty _, dp_ty .non, kit_ty (kit_bool .none), _, rfl, _, .ty "bool", _, _, _, rfl, .ty _, dp_ty .non, kit_ty (kit_bool .none), rfl, _, rfl, iteT ⟨_, rfl, _, rfl, rfl, q _ (Same.refl _)⟩⟩
    | bool b =>
      cases hv
      cases hu
      refine iteF ⟨_, rfl, rfl, _, rfl, iteF ⟨_, rfl, (by show 2 ≤ sizeLine; decide), fun p hp => ⟨.bl b, p, _, .type "bool", [.type "bool", .type "str"], true, rfl, upd_same, .cons (.ty _) (.cons (.ty _) .nil), dp_ty (.bl b), kitAny_cons (kit_ty (kit_bool (.bool b))) (fun z => by cases z) (fun _ => rfl), _, rfl, iteT ?_⟩⟩⟩
      have s1 := same_new (o := .tup [.ty "bool", .ty "str"]) hp
      refine ⟨_, rfl, _, .ty "bool", _, _, _, rfl, .ty _, dp_ty (.bl b), kit_ty (kit_bool (.bool b)), _, rfl, _, .ty "bool", _, _, _, rfl, .ty _, dp_ty (.bl b), kit_ty (kit_bool (.bool b)), rfl, _, rfl, iteT ⟨_, rfl, _, rfl, rfl, ?_⟩⟩
      have e : decide (V.bl b = V.bl b) = true := decide_eq_true rfl
      rw [e]
      exact q _ s1
    | str x =>
      cases hv
      cases hu
      refine iteF ⟨_, rfl, rfl, _, rfl, iteF ⟨_, rfl, (by show 2 ≤ sizeLine; decide), fun p hp => ⟨.str x, p, _, .type "str", [.type "bool", .type "str"], true, rfl, upd_same, .cons (.ty _) (.cons (.ty _) .nil), dp_ty (.str x), kitAny_cons (kit_ty (kit_bool (.str x))) (fun _ => kitAny_cons (kit_ty (kit_str (.str x))) (fun z => by cases z) (fun _ => rfl)) (fun z => by cases z), _, rfl, iteT ?_⟩⟩⟩
      have s1 := same_new (o := .tup [.ty "bool", .ty "str"]) hp
      refine ⟨_, rfl, _, .ty "bool", _, _, _, rfl, .ty _, dp_ty (.str x), kit_ty (kit_bool (.str x)), _, rfl, _, .ty "bool", _, _, _, rfl, .ty _, dp_ty (.str x), kit_ty (kit_bool (.str x)), rfl, _, rfl, iteT ⟨_, rfl, _, rfl, rfl, ?_⟩⟩
      have e : decide (V.str x = V.str x) = true := decide_eq_true rfl
      rw [e]
      exact q _ s1
    | int i =>
      cases hv
      cases hu
      refine iteF ⟨_, rfl, rfl, _, rfl, iteF ⟨_, rfl, (by show 2 ≤ sizeLine; decide), fun p hp => ⟨.int i, p, _, .type "int", [.type "bool", .type "str"], false, rfl, upd_same, .cons (.ty _) (.cons (.ty _) .nil), dp_ty (.int i), kitAny_cons (kit_ty (kit_bool (.int i))) (fun _ => kitAny_cons (kit_ty (kit_str (.int i))) (fun _ => rfl) (fun z => by cases z)) (fun z => by cases z), _, rfl, iteF ?_⟩⟩⟩
      have s1 := same_new (o := .tup [.ty "bool", .ty "str"]) hp
      refine ⟨_, rfl, _, .ty "int", _, _, _, rfl, .ty _, dp_ty (.int i), kit_ty (kit_int (.int i)), _, rfl, iteT ⟨_, rfl, _, .ty "bool", _, _, _, rfl, .ty _, dp_ty (.int i), kit_ty (kit_bool (.int i)), _, rfl, _, rfl, iteT ⟨_, rfl, _, rfl, rfl, ?_⟩⟩⟩
      have e : decide (V.int i = V.int i) = true := decide_eq_true rfl
      rw [e]
      exact q _ s1
end
end K48

set_option maxHeartbeats 4000000
/-! HReprW: how long the repr of a dict of small data is. -/
namespace HG
open PySem PySem.Spec PyProof.Rows L2
theorem kv_len {W : Nat} : ∀ {kvs : List (PyData × PyData)}, (∀ p ∈ kvs, P54.Sm 0 p.1 ∧ P54.Sm 0 p.2 ∧ P54.wt p.1 + P54.wt p.2 ≤ W) →
    PyData.showableKv kvs = true ∧ ((PyData.shownKv kvs).map (·.length)).sum ≤ kvs.length * (W + 2) ∧ (PyData.shownKv kvs).length = kvs.length
  | [], _ => ⟨by simp only [PyData.showableKv], by simp [PyData.shownKv], by simp [PyData.shownKv]⟩
  | (a, b) :: r, h => by
    obtain ⟨h1, h2, h3⟩ := kv_len (W := W) (kvs := r) fun p hp => h p (List.mem_cons_of_mem _ hp)
    obtain ⟨g1, g2, g3⟩ := h (a, b) List.mem_cons_self
    have s1 := P54.shown_len (Nat.zero_le _) g1
    have s2 := P54.shown_len (Nat.zero_le _) g2
    refine ⟨by simp only [PyData.showableKv, s1.1, s2.1, h1, Bool.and_self], ?_, by simp only [PyData.shownKv, List.length_cons, h3]⟩
    have e : (": " : Str).length = 2 := by decide +kernel
    have e1 : (PyData.shown a ++ ": " ++ PyData.shown b).length = (PyData.shown a).length + 2 + (PyData.shown b).length := by rw [Str.length_append, Str.length_append, e]
    have e2 : ((PyData.shownKv ((a, b) :: r)).map (·.length)).sum = (PyData.shown a).length + 2 + (PyData.shown b).length + ((PyData.shownKv r).map (·.length)).sum := by
      simp only [PyData.shownKv, List.map_cons, List.sum_cons]
      rw [e1]
    rw [e2, List.length_cons, Nat.succ_mul]
    have q1 := s1.2
    have q2 := s2.2
    dsimp only at g3 q1 q2
    omega
theorem dict_len {W : Nat} {kvs : List (PyData × PyData)} (h : ∀ p ∈ kvs, P54.Sm 0 p.1 ∧ P54.Sm 0 p.2 ∧ P54.wt p.1 + P54.wt p.2 ≤ W) :
    (PyData.dict kvs).showable = true ∧ (PyData.dict kvs).shown.length ≤ kvs.length * (W + 4) + 3 := by
  obtain ⟨h1, h2, h3⟩ := kv_len h
  have h4 := dictText_len_le (PyData.shownKv kvs)
  refine ⟨by simp only [PyData.showable, h1], ?_⟩
  simp only [PyData.shown]
  rw [h3] at h4
  have e : kvs.length * (W + 4) = kvs.length * (W + 2) + kvs.length * 2 := by rw [← Nat.mul_add]
  omega
theorem depthKv_le {n : Nat} : ∀ {kvs : List (PyData × PyData)}, (∀ p ∈ kvs, p.1.depth ≤ n ∧ p.2.depth ≤ n) → PyData.depthKv kvs ≤ n
  | [], _ => by simp only [PyData.depthKv]; omega
  | (a, b) :: r, h => by
    have h1 := depthKv_le (n := n) (kvs := r) fun p hp => h p (List.mem_cons_of_mem _ hp)
    have h2 := h (a, b) List.mem_cons_self
    dsimp only at h2
    simp only [PyData.depthKv]
    omega
/-- a pair: data and a dict -/
theorem pair_len {A B : PyData} {a b n : Nat} (h1 : A.showable = true ∧ A.shown.length ≤ a) (h2 : B.showable = true ∧ B.shown.length ≤ b) (d1 : A.depth ≤ n) (d2 : B.depth ≤ n) :
    (PyData.tuple [A, B]).showable = true ∧ (PyData.tuple [A, B]).shown.length ≤ a + b + 7 ∧ (PyData.tuple [A, B]).depth ≤ n + 1 := by
  have h3 := tupleText_len_le (PyData.shownAll [A, B])
  refine ⟨by simp only [PyData.showable, PyData.showableAll, h1.1, h2.1, Bool.and_self], ?_, ?_⟩
  · simp only [PyData.shown, PyData.shownAll, List.map_cons, List.map_nil, List.sum_cons, List.sum_nil, List.length_cons, List.length_nil] at h3 ⊢
    have := h1.2
    have := h2.2
    omega
  · simp only [PyData.depth, PyData.depthAll]
    omega
end HG

set_option maxHeartbeats 4000000
namespace K48
open PySem PySem.Spec PyProof.Rows L2 HG P52 P50 P48 P54
def keyD (kv : List Key × V) : PyData := .tuple (kv.1.map kD)
theorem key_fine {x : Str} (h : Nm x) {k : List Key} (hk : k = kU x ∨ k = kL x) : Fine 0 5000 3 (.tuple (k.map kD)) := by
  have hu : Nm ("unread" : Str) := ⟨by decide +kernel, by decide +kernel⟩
  have hl : Nm ("length" : Str) := ⟨by decide +kernel, by decide +kernel⟩
  have two : ∀ {a : Str}, Nm a → Fine 0 5000 3 (.tuple [.str a, .str x]) := fun {a} ha => by
    have f := Fine.tupN (k := 0) (W := 2000) (d := 2) (n := 2) (ds := [.str a, .str x]) (fun e he => by
      simp only [List.mem_cons, List.not_mem_nil, or_false] at he
      rcases he with rfl | rfl
      · exact fnS 2 ha
      · exact fnS 2 h) (Nat.le_refl _)
    exact f.up (Nat.le_refl _) (by decide) (by decide)
  rcases hk with rfl | rfl
  · exact two hu
  · exact two hl
theorem shw_list {K : PySem.W.Frag} {H : Hp} : ∀ {kvs : List (List Key × V)}, Shw K H kvs → ∃ ds : List PyData, kvs.length = ds.length ∧ (∀ (i : Nat) kv d, kvs[i]? = some kv → ds[i]? = some d → Dp K H kv.2 d) ∧
    ∀ p ∈ (kvs.map keyD).zip ds, Fine 0 5000 3 p.1 ∧ Fine 0 3000 2 p.2
  | [], _ => ⟨[], rfl, fun i kv d h => by simp at h, fun p hp => by cases hp⟩
  | kv :: r, h => by
    obtain ⟨ds, h1, h2, h3⟩ := shw_list (kvs := r) fun p hp => h p (List.mem_cons_of_mem _ hp)
    obtain ⟨⟨x, hx, hk⟩, D, hD, fD⟩ := h kv List.mem_cons_self
    refine ⟨D :: ds, by rw [List.length_cons, List.length_cons, h1], fun i kv2 d e1 e2 => ?_, fun p hp => ?_⟩
    · cases i with
      | zero =>
        simp at e1 e2
        subst e1 e2
        exact hD
      | succ i => exact h2 i kv2 d (by simpa using e1) (by simpa using e2)
    · rw [List.map_cons, List.zip_cons_cons] at hp
      rcases List.mem_cons.mp hp with e | e
      · rw [e]
        exact ⟨key_fine hx hk, fD⟩
      · exact h3 p e
theorem tri_len {A B C : PyData} {a b c n : Nat} (h1 : A.showable = true ∧ A.shown.length ≤ a) (h2 : B.showable = true ∧ B.shown.length ≤ b) (h3 : C.showable = true ∧ C.shown.length ≤ c) (d1 : A.depth ≤ n) (d2 : B.depth ≤ n) (d3 : C.depth ≤ n) :
    (PyData.tuple [A, B, C]).showable = true ∧ (PyData.tuple [A, B, C]).shown.length ≤ a + b + c + 20 ∧ (PyData.tuple [A, B, C]).depth ≤ n + 1 := by
  have h4 := tupleText_len_le (PyData.shownAll [A, B, C])
  refine ⟨by simp only [PyData.showable, PyData.showableAll, h1.1, h2.1, h3.1, Bool.and_self], ?_, ?_⟩
  · simp only [PyData.shown, PyData.shownAll, List.map_cons, List.map_nil, List.sum_cons, List.sum_nil, List.length_cons, List.length_nil] at h4 ⊢
    have := h1.2
    have := h2.2
    have := h3.2
    omega
  · simp only [PyData.depth, PyData.depthAll]
    omega
/-- what is written of the graph, what is handed in and the name -/
theorem dps_tri {K : PySem.W.Frag} {H : Hp} {p hd : Addr} {vg vn : V} {g : Gr} {D E : PyData} (hp : H p = some (.tup [vg, .ref hd, vn])) (hg : Dp K H vg g.D) (hn : Dp K H vn D) (hh : DpS K H (.ref hd) E) : DpS K H (.ref p) (.tuple [g.D, E, D]) := by
  refine .tup (.inl (.inl hp)) rfl fun i v d h1 h2 => ?_
  match i, h1, h2 with
  | 0, h1, h2 =>
    simp at h1 h2
    subst h1 h2
    exact .of hg
  | 1, h1, h2 =>
    simp at h1 h2
    subst h1 h2
    exact hh
  | 2, h1, h2 =>
    simp at h1 h2
    subst h1 h2
    exact .of hn
  | i + 3, h1, h2 => simp at h1
theorem Fb.mono {K : PySem.W.Frag} {H H' : Hp} {kn hd : Addr} {u : Str → Option Bool} {l : Str → Option Nat} (h : Fb K H kn hd u l) (s : Same H H') : Fb K H' kn hd u l := by
  obtain ⟨⟨kvk, e1, h1⟩, fa, kvh, e2, h2, h3⟩ := h
  exact ⟨⟨kvk, s _ _ e1, h1⟩, fa.mono s, kvh, s _ _ e2, h2, h3.mono s⟩
theorem Fb.kd {K : PySem.W.Frag} {H : Hp} {kn hd : Addr} {u : Str → Option Bool} {l : Str → Option Nat} (h : Fb K H kn hd u l) : Kd H kn u l := ⟨h.kn⟩
def spRight (K : PySem.W.Frag) : Sp := fun vs H Q _ => ∃ (vg vn : V) (kn hd : Addr) (g : Gr) (N : Nat) (D : PyData) (u : Str → Option Bool) (l : Str → Option Nat), vs = [vg, vn, .ref kn, .ref hd] ∧ Dp K H vg g.D ∧ Dp K H vn D ∧ (∀ x, D = .str x → Nm x) ∧ Fine 0 3000 2 D ∧ SeqAt.shaped (.tuple [.str "drop_stores", D]) = true ∧ GrM N g ∧ Fb K H kn hd u l ∧ ∀ H', Same H H' → Q (.bl true) H'
theorem sh_hd {K : PySem.W.Frag} {H : Hp} {kn hd : Addr} {u : Str → Option Bool} {l : Str → Option Nat} (h : Fb K H kn hd u l) : ∃ kvh ds, H hd = some (.dT kvh) ∧ kvh.length = ds.length ∧ (PyData.dict ((kvh.map keyD).zip ds)).showable = true ∧ (PyData.dict ((kvh.map keyD).zip ds)).shown.length ≤ 1000000 ∧ (PyData.dict ((kvh.map keyD).zip ds)).depth ≤ 4 ∧
    ∀ H', Same H H' → DpS K H' (.ref hd) (.dict ((kvh.map keyD).zip ds)) := by
  obtain ⟨kvh, e, hl, hs⟩ := h.rep
  obtain ⟨ds, h1, h2, h3⟩ := shw_list hs
  obtain ⟨l1, l2⟩ := dict_len (W := 8000) (kvs := (kvh.map keyD).zip ds) fun p hp => by
    obtain ⟨a, b⟩ := h3 p hp
    have := a.wt
    have := b.wt
    exact ⟨a.sm, b.sm, by omega⟩
  have hzl : ((kvh.map keyD).zip ds).length ≤ 30 := by rw [List.length_zip, List.length_map]; omega
  have ml := Nat.mul_le_mul_right (8000 + 4) hzl
  refine ⟨kvh, ds, e, h1, l1, by omega, ?_, fun H' s => ?_⟩
  · have := depthKv_le (n := 3) (kvs := (kvh.map keyD).zip ds) fun p hp => by
      obtain ⟨a, b⟩ := h3 p hp
      have := a.dp
      have := b.dp
      exact ⟨by omega, by omega⟩
    simp only [PyData.depth]
    omega
  · refine .dictT (s _ _ e) h1 fun i kv d e1 e2 => ?_
    exact .of (dp_mono s _ _ (h2 i kv d e1 e2))
def Res (K : PySem.W.Frag) (u : Str → Option Bool) (l : Str → Option Nat) (g : Gr) (D : PyData) (H : Hp) (z : V) : Prop :=
  (∃ x, Yes u D x ∧ Dp K H z (stayG x ((l x).getD 0) g).D ∧ z ≠ .non) ∨ ((∀ x, ¬ Yes u D x) ∧ z = .non)
theorem Res.mono {K : PySem.W.Frag} {u : Str → Option Bool} {l : Str → Option Nat} {g : Gr} {D : PyData} {H H' : Hp} {z : V} (h : Res K u l g D H z) (s : Same H H') : Res K u l g D H' z := by
  rcases h with ⟨x, a, b, c⟩ | h
  · exact .inl ⟨x, a, dp_mono s _ _ b, c⟩
  · exact .inr h
theorem res_both {K : PySem.W.Frag} {u : Str → Option Bool} {l : Str → Option Nat} {g : Gr} {D : PyData} {H : Hp} {Q : VK} (h : ∀ z H', Same H H' → Res K u l g D H' z → Q z H') :
    (∀ x, Yes u D x → ∀ z H', Same H H' → Dp K H' z (stayG x ((l x).getD 0) g).D → z ≠ .non → Q z H') ∧ ((∀ x, ¬ Yes u D x) → ∀ H', Same H H' → Q .non H') :=
  ⟨fun x hx z H' s hz nz => h z H' s (.inl ⟨x, hx, hz, nz⟩), fun no H' s => h _ H' s (.inr ⟨no, rfl⟩)⟩
theorem hit_yes {u : Str → Option Bool} {D : PyData} {x : Str} : Hit u (.tuple [.str "drop_stores", D]) x ↔ Yes u D x := by
  constructor
  · rintro ⟨h, e⟩
    injection h with h
    injection h with _ h
    injection h with h _
    exact ⟨h, e⟩
  · rintro ⟨h, e⟩
    subst h
    exact ⟨rfl, e⟩
theorem told_fm {D : PyData} (h : SeqAt.shaped (.tuple [.str "drop_stores", D]) = true) : FmS (.tuple [.str "drop_stores", D]) :=
  ⟨.inl ⟨_, _, rfl, h⟩, fun x r e => by injection e with e; injection e with e _; injection e with e; exact e.symm⟩
section
variable {P : Program} {w : World} {K : PySem.W.Frag} {mg : Str → Option Value} {base : Heap}
set_option pp.maxSteps 100 in
theorem c_right (T : Txt w K mg) (hP : PrgOk file P) : CalG P w K mg base "_law_right" 11 ["_law_graph_here", "_law_name", "_law_known", "_law_handed"] (spRight K) := by
  obtain ⟨fd, F⟩ := T.d__law_right
  have C__law_due := c_due (P := P) (w := w) (base := base) T
  have C_told3 := c_told3 (P := P) (w := w) (base := base) T hP
  have C__law_same : Cal P w K mg base "_law_same" (1 + 8) ["_law_found", "_law_due_here"] (spSame K 8) := ⟨ok_same T 8, T.g _ (by decide), by obtain ⟨fd, F⟩ := T.d__law_same; exact F.kp⟩
  refine ⟨⟨fd, fng_of (k := 10) F sc__law_right (fun vs H Q E h => by repeat (first | (obtain ⟨e, _⟩ := h; subst e; rfl) | (obtain ⟨_, h⟩ := h))) (fun cdv A outer s H vs Q E hr hgd h => ?_), F.bindsN fun _ _ _ _ _ _ us hl => match us, hl with | [_, _, _, _], _ => rfl⟩, T.g _ (by decide), F.kp⟩
  obtain ⟨vg, vn, kn, hd, g, N, D, u, l, rfl, hg, hn, hnm, fD, sD, gm, fb, q⟩ := h
  refine ⟨_, PSs.nox (pss_cons (ps_set (i := 4) sc__law_right.nd rfl (.inl rfl) (pe_cal C__law_due (hr.mono (by omega)) (by rfl) (pa_cons (pv 0) (pa_cons (pv 1) (pa_cons (pv 2) pa_nil)))))
      (pss_cons (ps_set (i := 5) sc__law_right.nd rfl (.inl rfl) (pe_callB (id := "repr") (call_reprS (K := K) rfl T.sysm hgd (hr.mono (Nat.zero_le _))) (by rfl) T.n_repr (by decide +kernel) (pa_cons (pe_tup (pa_cons (pv 0) (pa_cons (pv 3) (pa_cons (pv 1) pa_nil)))) pa_nil)))
      (pss_cons (ps_for PassesOwn.never rfl (pi_range1 (by rfl) T.n_range (pa_cons pe_int pa_nil)) (pg_name (i := 6) sc__law_right.nd rfl (.inl rfl)) (pss_one (ps_if (pt_not (pt_val (pe_cal C__law_same (hr.mono (by omega)) (by rfl) (pa_cons (pe_calD C_told3 (hr.mono (by omega)) (by rfl) (pa_cons (pv 0) (pa_cons (pe_tup (pa_cons pe_str (pa_cons (pv 1) pa_nil))) (pa_cons (pv 3) pa_nil)))) (pa_cons (pe_ifExp (pt_cmpR op_isN (pv 4) pe_non (nomark _)) pe_bl (pv 4)) pa_nil))))) (pss_one (ps_ret pe_bl)) pss_nil)))
      (pss_one (ps_ret (pe_cmpR op_eq (pe_callB (id := "repr") (call_reprS (K := K) rfl T.sysm hgd (hr.mono (Nat.zero_le _))) (by rfl) T.n_repr (by decide +kernel) (pa_cons (pe_tup (pa_cons (pv 0) (pa_cons (pv 3) (pa_cons (pv 1) pa_nil)))) pa_nil)) (pv 5) (nomark _))))))), ?_⟩
  have gs := gsm_of gm
  have f1 := fnGM gm
  have sg1 := P54.shown_len (by decide) f1.sm
  have sg3 := P54.shown_len (by decide) fD.sm
  obtain ⟨kvh, ds, eh, hlk, sh1, sh2, sh3, dps⟩ := sh_hd fb
  obtain ⟨sh, shl, shd⟩ := tri_len (a := 4000000) (b := 1000000) (c := 3000) (n := 7) ⟨sg1.1, Nat.le_trans sg1.2 f1.wt⟩ ⟨sh1, sh2⟩ ⟨sg3.1, Nat.le_trans sg3.2 fD.wt⟩ f1.dp (by omega) (by have := fD.dp; omega)
  generalize hE : PyData.dict ((kvh.map keyD).zip ds) = E2 at sh1 sh2 sh3 dps sh shl shd
  have shl : (PyData.tuple [g.D, E2, D]).shown.length ≤ sizeLine := Nat.le_trans shl (by rw [sizeLine_eq]; decide)
  have shd : (PyData.tuple [g.D, E2, D]).depth ≤ 150 := by omega
  refine ⟨vg, rfl, vn, rfl, .ref kn, rfl, vg, vn, kn, g, N, D, u, l, rfl, hg, hn, hnm, gm, fb.kd, res_both fun z H1 s1 res => ?_⟩
  refine ⟨vg, rfl, .ref hd, rfl, vn, rfl, (by show 3 ≤ sizeLine; decide), fun p1 hp1 => ?_⟩
  have s2 := s1.trans (same_new (o := .tup [vg, .ref hd, vn]) hp1)
  refine ⟨p1, _, rfl, dps_tri upd_same (dp_mono s2 _ _ hg) (dp_mono s2 _ _ hn) (dps _ s2), sh, shd, shl, ?_⟩
  have res := res.mono (same_new (o := .tup [vg, .ref hd, vn]) hp1)
  generalize upd H1 p1 (.tup [vg, .ref hd, vn]) = H2 at s2 res ⊢
  refine ⟨_, rfl, by decide, by decide, for_range (lo := 0) (n := (2 : Int).toNat) (fun j σ H4 => ∃ x6, σ = [some vg, some vn, some (.ref kn), some (.ref hd), some z, some (.str (PyData.tuple [g.D, E2, D]).shown), x6] ∧ Same H2 H4) ⟨_, rfl, Same.refl _⟩ ?_ ?_⟩
  · rintro j σ H4 hj ⟨x6, rfl, s4⟩
    have sH4 := s2.trans s4
    refine ⟨vg, rfl, vn, rfl, (by show 2 ≤ sizeLine; decide), fun t ht => ⟨.ref hd, rfl, ?_⟩⟩
    have u1 := same_new (o := .tup [.str "drop_stores", vn]) ht
    have gt : Dp K (upd H4 t (.tup [.str "drop_stores", vn])) (.ref t) (.tuple [.str "drop_stores", D]) := dp_tupN ht (.cons (.str _) (.cons (dp_mono sH4 _ _ hn) .nil))
    refine ⟨vg, .ref t, hd, g, _, u, l, rfl, dp_mono (sH4.trans u1) _ _ hg, gt, told_fm sD, gs, fb.fa.mono (sH4.trans u1), fun x hx z2 H5 s5 hz2 => ?_, fun no H5 s5 => ?_⟩
    · have sH5 := s4.trans (u1.trans s5)
      have hx := hit_yes.mp hx
      rcases res.mono sH5 with ⟨x', hx', hz, nz⟩ | ⟨no, _⟩
      · have ex : x' = x := by
          have e := hx'.1.symm.trans hx.1
          injection e
        subst ex
        refine ⟨_, rfl, rfl, _, rfl, ?_⟩
        cases hd2 : decide (z = V.non) with
        | true => exact absurd (of_decide_eq_true hd2) nz
        | false =>
        have okN := fnGM (grM_stay (nm := x') (n := (l x').getD 0) gm)
        refine iteF ⟨_, rfl, z2, z, _, rfl, hz2, hz, nlG _, (by have := okN.dp; omega), (by have := okN.wt; omega), fun H6 s6 => ⟨_, rfl, iteF ⟨_, rfl, sH5.trans s6⟩⟩⟩
      · exact absurd hx (no x)
    · have sH5 := s4.trans (u1.trans s5)
      rcases res with ⟨x', hx', hz, nz⟩ | ⟨_, hzn⟩
      · exact absurd (hit_yes.mpr hx') (no x')
      · subst hzn
        exact ⟨_, rfl, rfl, _, rfl, iteT ⟨.bl true, .bl true, .bool true, rfl, .bl _, .bl _, rfl, (by decide), (by decide), fun H6 s6 => ⟨_, rfl, iteF ⟨_, rfl, sH5.trans s6⟩⟩⟩⟩
  rintro σ H4 ⟨x6, rfl, s4⟩
  have sH4 := s2.trans s4
  refine ⟨vg, rfl, .ref hd, rfl, vn, rfl, (by show 3 ≤ sizeLine; decide), fun p2 hp2 => ?_⟩
  have uB := same_new (o := .tup [vg, .ref hd, vn]) hp2
  have sB := sH4.trans uB
  refine ⟨p2, _, rfl, dps_tri upd_same (dp_mono sB _ _ hg) (dp_mono sB _ _ hn) (dps _ sB), sh, shd, shl, _, rfl, rfl, ?_⟩
  have e := q _ sB
  rw [← decide_eq_true (show V.str (PyData.tuple [g.D, E2, D]).shown = V.str (PyData.tuple [g.D, E2, D]).shown from rfl)] at e
  exact e
end
end K48

set_option maxHeartbeats 4000000
namespace K48
open PySem PySem.Spec PyProof.Rows L2 HG P52 P50 P48 P54
/-- a name that is asked for -/
structure NmOk (D : PyData) : Prop where
  nm : ∀ x, D = .str x → Nm x
  fine : Fine 0 3000 2 D
  sh : SeqAt.shaped (.tuple [.str "drop_stores", D]) = true
theorem sh_two {D : PyData} (h : PyData.canLay0 D = true) (hd : D.depth ≤ 10) : SeqAt.shaped (.tuple [.str "drop_stores", D]) = true := by
  have w : PyData.strOk ("drop_stores" : Str) = true := by decide +kernel
  unfold SeqAt.shaped
  rw [Bool.and_eq_true]
  refine ⟨by simp only [PyData.canLay0, PyData.canLayAll0, h, w, Bool.and_self], decide_eq_true ?_⟩
  simp only [PyData.depth, PyData.depthAll]
  omega
theorem nmok_str {x : Str} (h : Nm x) : NmOk (.str x) := ⟨fun y e => by injection e with e; exact e ▸ h, (fnS 2 h).up (Nat.le_refl _) (by decide) (Nat.le_refl _), sh_two (by simp only [PyData.canLay0, lay_nm h]) (by simp only [PyData.depth]; omega)⟩
theorem lay_strs : ∀ {zs : List Str}, (∀ z ∈ zs, Nm z) → PyData.canLayAll0 (zs.map PyData.str) = true
  | [], _ => rfl
  | z :: r, h => by
    rw [List.map_cons]
    simp only [PyData.canLayAll0, PyData.canLay0, lay_nm (h z List.mem_cons_self), lay_strs fun y hy => h y (List.mem_cons_of_mem _ hy), Bool.and_self]
theorem nmok_list {zs : List Str} (h : ∀ z ∈ zs, Nm z) (hl : zs.length ≤ 6) : NmOk (.list (zs.map PyData.str)) := by
  have f : Fine 0 3000 2 (.list (zs.map PyData.str)) := by
    have f := Fine.lst (Fine.tupN (k := 0) (W := 123) (d := 1) (n := 6) (ds := zs.map PyData.str) (fun e he => by
      obtain ⟨z, hz, rfl⟩ := List.mem_map.mp he
      exact Fine.str 1 (h z hz) (by decide)) (by rw [List.length_map]; exact hl))
    exact f.up (Nat.le_refl _) (by decide) (Nat.le_refl _)
  exact ⟨(fun x e => by cases e), f, sh_two (by simp only [PyData.canLay0, lay_strs h]) (by have := f.dp; omega)⟩
theorem nmok_none : NmOk .none := ⟨(fun x e => by cases e), (Fine.none 0 2).up (Nat.le_refl _) (by decide) (Nat.le_refl _), by decide +kernel⟩
theorem nmok_zero : NmOk (.int 0) := ⟨(fun x e => by cases e), (Fine.int (k := 0) 2 (by decide) (by decide) (by decide)).up (Nat.le_refl _) (by decide) (Nat.le_refl _), by decide +kernel⟩
theorem nmok_tup0 : NmOk (.tuple []) := ⟨(fun x e => by cases e), (Fine.tupN (k := 0) (W := 0) (d := 1) (n := 0) (ds := []) (fun _ h => nomatch h) (by decide)).up (Nat.le_refl _) (by decide) (by decide), by decide +kernel⟩
theorem nmA : Nm ("a" : Str) := ⟨by decide +kernel, by decide +kernel⟩
theorem nmok_tupA : NmOk (.tuple [.str "a"]) := ⟨(fun x e => by cases e), (Fine.tup1 (fnS 1 nmA)).up (Nat.le_refl _) (by decide) (by decide), by decide +kernel⟩
theorem nm_else : Nm ("else" : Str) := ⟨by decide +kernel, by decide +kernel⟩
theorem nm_empty : Nm ("" : Str) := ⟨by decide +kernel, by decide +kernel⟩
def spLaw (K : PySem.W.Frag) : Sp := fun vs H Q _ => ∃ (a : Addr) (ns : List Int), vs = [.ref a] ∧ SqL K H a (ns.map V.int) ∧ ns.length ≤ 63 ∧ ∀ H', Q (.bl true) H'
def askD (nm0 : Str) (nms : List Str) : List PyData := [.str nwS, .str "else", .str "", .str nm0, .none, .int 0, .tuple [], .tuple [.str "a"], .list (nms.map PyData.str)]
theorem ask_ok {nm0 : Str} {nms : List Str} (h0 : Nm nm0) (h : ∀ z ∈ nms, Nm z) (hl : nms.length ≤ 6) : ∀ D ∈ nms.map PyData.str ++ askD nm0 nms, NmOk D := by
  intro D hD
  rcases List.mem_append.mp hD with e | e
  · obtain ⟨z, hz, rfl⟩ := List.mem_map.mp e
    exact nmok_str (h z hz)
  · simp only [askD, List.mem_cons, List.not_mem_nil, or_false] at e
    rcases e with rfl | rfl | rfl | rfl | rfl | rfl | rfl | rfl | rfl
    · exact nmok_str nwS_nm
    · exact nmok_str nm_else
    · exact nmok_str nm_empty
    · exact nmok_str h0
    · exact nmok_none
    · exact nmok_zero
    · exact nmok_tup0
    · exact nmok_tupA
    · exact nmok_list h hl
def oddD (z0 z1 : Str) : List PyData := [.tuple [.str "drop_stores"], .tuple [.str "drop_stores", .str z0, .str z1], .list [.str "drop_stores", .str z0], .str "drop_stores"]
theorem sh_three {z0 z1 : Str} (h0 : Nm z0) (h1 : Nm z1) : SeqAt.shaped (.tuple [.str "drop_stores", .str z0, .str z1]) = true := by
  have w : PyData.strOk ("drop_stores" : Str) = true := by decide +kernel
  unfold SeqAt.shaped
  rw [Bool.and_eq_true]
  refine ⟨by simp only [PyData.canLay0, PyData.canLayAll0, lay_nm h0, lay_nm h1, w, Bool.and_self], decide_eq_true ?_⟩
  simp only [PyData.depth, PyData.depthAll]
  omega
theorem odd_ok {z0 z1 : Str} (h0 : Nm z0) (h1 : Nm z1) : ∀ D ∈ oddD z0 z1, FmS D ∧ ∀ (u : Str → Option Bool) x, ¬ Hit u D x := by
  intro D hD
  simp only [oddD, List.mem_cons, List.not_mem_nil, or_false] at hD
  rcases hD with rfl | rfl | rfl | rfl
  · exact ⟨⟨.inl ⟨_, _, rfl, by decide +kernel⟩, fun x r e => by injection e with e; injection e with e _; injection e with e; exact e.symm⟩, fun u x h => by have := h.1; simp at this⟩
  · exact ⟨⟨.inl ⟨_, _, rfl, sh_three h0 h1⟩, fun x r e => by injection e with e; injection e with e _; injection e with e; exact e.symm⟩, fun u x h => by have := h.1; simp at this⟩
  · exact ⟨⟨.inr (.inl ⟨_, rfl⟩), fun x r e => by cases e⟩, fun u x h => by have := h.1; cases this⟩
  · exact ⟨⟨.inr (.inr (.inl ⟨_, rfl⟩)), fun x r e => by cases e⟩, fun u x h => by have := h.1; cases this⟩
section
variable {P : Program} {w : World} {K : PySem.W.Frag} {mg : Str → Option Value} {base : Heap}
set_option pp.maxSteps 100 in
theorem ok_law (T : Txt w K mg) (hP : PrgOk file P) {fd : FuncData} (F : FunD K "law" "law" (defArgs s_law) (defBody s_law) (defScope s_law) [] [] (He.ga K "law") fd) : FnG P w K mg base CX0 13 (He.ga K "law") fd ["_law_script"] (spLaw K) := by
  have C__law_deck := c_deck (P := P) (w := w) (base := base) T
  have C__law_world := c_world (P := P) (w := w) (base := base) T
  have C__law_graph := c_graph (P := P) (w := w) (base := base) T
  have C__law_more_stores := c_more_stores (P := P) (w := w) (base := base) T
  have C__law_facts := c_facts (P := P) (w := w) (base := base) T
  have C__law_right := c_right (P := P) (w := w) (base := base) T hP
  have C_told3 := c_told3 (P := P) (w := w) (base := base) T hP
  refine fng_of (k := 12) F sc_law (fun vs H Q E h => by repeat (first | (obtain ⟨e, _⟩ := h; subst e; rfl) | (obtain ⟨_, h⟩ := h))) (fun cdv A outer s H vs Q E hr hgd h => ?_)
  have hu := hu_of hr
  obtain ⟨a, ns, rfl, hS, hn, q⟩ := h
  refine ⟨_, PSs.nox (pss_cons (ps_set (i := 1) sc_law.nd rfl (.inl rfl) (pe_cal C__law_deck (hr.mono (by omega)) (by rfl) (pa_cons (pv 0) pa_nil)))
      (pss_cons (ps_for PassesOwn.never rfl (pi_range1 (by rfl) T.n_range (pa_cons pe_int pa_nil)) (pg_name (i := 2) sc_law.nd rfl (.inl rfl)) (pss_cons (ps_set (i := 3) sc_law.nd rfl (.inl rfl) (pe_cal C__law_world (hr.mono (by omega)) (by rfl) (pa_cons (pv 1) pa_nil)))
      (pss_cons (ps_set (i := 4) sc_law.nd rfl (.inl rfl) (pe_cal C__law_more_stores (hr.mono (by omega)) (by rfl) (pa_cons (pv 1) (pa_cons (pv 3) (pa_cons (pe_cal C__law_graph (hr.mono (by omega)) (by rfl) (pa_cons (pv 1) (pa_cons (pv 3) (pa_cons pe_int pa_nil)))) pa_nil)))))
      (pss_cons (ps_asg (pe_cal C__law_facts (hr.mono (by omega)) (by rfl) (pa_cons (pv 1) (pa_cons (pv 3) pa_nil))) (pg_tupK (K := K) (n := 2) rfl rfl (pgs_cons (pg_name (i := 5) sc_law.nd rfl (.inl rfl)) (pgs_cons (pg_name (i := 6) sc_law.nd rfl (.inl rfl)) pgs_nil))))
      (pss_cons (ps_set (i := 7) sc_law.nd rfl (.inl rfl) (pe_op (op_catLs (K := K) rfl) (pe_op (op_catLs (K := K) rfl) (pe_dget hu (pv 3) pe_str (fun _ _ => rfl)) (pe_lst (pa_cons (pe_dget hu (pv 3) pe_str (fun _ _ => rfl)) pa_nil))) (pe_lc (own := [("_law_name", 8), ("_law_size", 11)]) (by rfl) sc_law.nd (pi_list (pe_dget hu (pv 3) pe_str (fun _ _ => rfl))) (blkOk_by (own := [("_law_name", 8), ("_law_size", 11)]) (N := N_law) (sc := defScope s_law) (by decide +kernel)) (fun _ _ _ _ _ => (pg_tupK (K := K) (n := 2) rfl rfl (pgs_cons (pg_name (i := 8) sc_law.nd rfl (.inl rfl)) (pgs_cons (pg_name (i := 11) sc_law.nd rfl (.inl rfl)) pgs_nil)))) (fun _ _ _ _ _ => pts_nil) (fun _ _ _ _ _ => (pv 8)))))
      (pss_cons (ps_for PassesOwn.never rfl (pi_list (pe_op (op_catLs (K := K) rfl) (pv 7) (pe_lst (pa_cons pe_str (pa_cons pe_str (pa_cons pe_str (pa_cons (pe_ix (ix_P (K := K) rfl) (pe_ix (ix_listK (K := K) rfl) (pe_dget hu (pv 3) pe_str (fun _ _ => rfl)) pe_int (fun _ _ => rfl)) pe_int (fun _ _ => rfl)) (pa_cons pe_non (pa_cons pe_int (pa_cons (pe_tup pa_nil) (pa_cons (pe_tup (pa_cons pe_str pa_nil)) (pa_cons (pv 7) pa_nil)))))))))))) (pg_name (i := 8) sc_law.nd rfl (.inl rfl)) (pss_one (ps_if (pt_not (pt_val (pe_calG C__law_right (hr.mono (by omega)) hgd (by rfl) (pa_cons (pv 4) (pa_cons (pv 8) (pa_cons (pv 5) (pa_cons (pv 6) pa_nil))))))) (pss_one (ps_ret pe_bl)) pss_nil)))
      (pss_cons (ps_set (i := 9) sc_law.nd rfl (.inl rfl) (pe_lst (pa_cons (pe_tup (pa_cons pe_str pa_nil)) (pa_cons (pe_tup (pa_cons pe_str (pa_cons (pe_ix (ix_listK (K := K) rfl) (pv 7) pe_int (fun _ _ => rfl)) (pa_cons (pe_ix (ix_listK (K := K) rfl) (pv 7) pe_int (fun _ _ => rfl)) pa_nil)))) (pa_cons (pe_lst (pa_cons pe_str (pa_cons (pe_ix (ix_listK (K := K) rfl) (pv 7) pe_int (fun _ _ => rfl)) pa_nil))) (pa_cons pe_str pa_nil))))))
      (pss_one (ps_for PassesOwn.never rfl (pi_list (pv 9)) (pg_name (i := 10) sc_law.nd rfl (.inl rfl)) (pss_one (ps_if (pt_cmpR op_isnot_bl (pe_calD C_told3 (hr.mono (by omega)) (by rfl) (pa_cons (pv 4) (pa_cons (pv 10) (pa_cons (pv 6) pa_nil)))) pe_bl (nomark _)) (pss_one (ps_ret pe_bl)) pss_nil)))))))))))
      (pss_one (ps_ret pe_bl)))), ?_⟩
  refine ⟨.ref a, rfl, a, ns, rfl, hS, hn, fun d c H1 s1 dk1 => ?_⟩
  refine ⟨6, rfl, by decide, by decide, for_range (lo := 0) (n := (6 : Int).toNat) (fun j σ H2 => ∃ x2 x3 x4 x5 x6 x7 x8 x9 x10, σ = [some (.ref a), some (.ref d), x2, x3, x4, x5, x6, x7, x8, x9, x10, none] ∧ Deck d c (6000 * j) H2) ⟨_, _, _, _, _, _, _, _, _, rfl, dk1⟩ ?_ (fun σ H2 _ => q H2)⟩
  rintro j σ H2 hj ⟨x2, x3, x4, x5, x6, x7, x8, x9, x10, rfl, dk2⟩
  have hj : j < 6 := hj
  refine ⟨.ref d, rfl, d, c, _, rfl, by omega, dk2, fun wd H3 dk3 X3 hwd => ?_⟩
  refine ⟨.ref d, rfl, .ref wd, rfl, .ref d, rfl, .ref wd, rfl, d, c, wd, _, 4, rfl, by decide, by decide, by omega, dk3, hwd, fun vg0 g0 N0 H4 dk4 X4 hg0 ok0 hl0 => ?_⟩
  refine ⟨d, c, wd, _, N0, vg0, g0, rfl, by omega, dk4, hwd.mono X4, hg0, ok0, hl0, fun vg g N H5 dk5 X5 hg gm => ?_⟩
  have hwd5 := hwd.mono (X4.trans X5)
  refine ⟨.ref d, rfl, .ref wd, rfl, d, c, wd, _, rfl, by omega, dk5, hwd5, fun t kn hd u l H6 dk6 X6 et fb => ?_⟩
  have hg := dp_kt (ext_kt dk5 X6) _ _ (nlG g) hg
  have hwd6 := hwd5.mono X6
  clear hwd hwd5 X6 X5 X4 dk5 dk4 dk3 hg0 ok0 hl0 X3 dk2
  refine ⟨t, _, rfl, .inl (.inl et), rfl, _, _, rfl, _, _, rfl, rfl, ?_⟩
  obtain ⟨ca, ce, ar, hh, cs, as, cvs, avs, es, w1, w2, w3, w4, w5, w6, hcl, hcs, hel, hes, hal, has, hho⟩ := hwd6.ex
  have hav := dpAll_len w6
  rw [List.length_map, hal] at hav
  have dk := dk6
  have s3 : Same H6 H6 := Same.refl H6
  have dk3 := dk6
  refine ⟨.ref wd, rfl, wd, _, rfl, DGet.k (k := Sum.inr "cells") (s3 _ _ (off_at w1).1), .ref wd, rfl, wd, _, rfl, DGet.k (k := Sum.inr "holder") (s3 _ _ (off_at w1).1), (by show 1 ≤ sizeLine; decide), fun l1 hl1 => ?_⟩
  have nl1 := dk3.has hl1
  have s4 := s3.trans (same_new (o := .lst [V.str hh]) hl1)
  have L2 : LsD K (off d c (upd H6 l1 (.lst [V.str hh]))) l1 ([hh].map PyData.str) := ⟨[V.str hh], by rw [off_get nl1.1 nl1.2]; exact upd_same, .cons (.str _) .nil⟩
  generalize upd H6 l1 (.lst [V.str hh]) = H4 at s4 L2 ⊢
  have L1 : LsD K (off d c H4) ce (es.map PyData.str) := (LsD.mk ⟨es.map V.str, w4, dpAll_maps (f := V.str) (g := PyData.str) es fun x _ => .str x⟩).mono (off_same_mono s4)
  have dk4 := dk.same s4
  refine ⟨d, c, ce, l1, _, _, rfl, rfl, L1, L2, (dk_ne dk4).1, (dk_ne dk4).2, (by simp only [List.length_map, hel, List.length_cons, List.length_nil, sizeLine_eq]; decide), fun p1 H5 hp1 s5 lp1 => ?_⟩
  rw [← List.map_append] at lp1
  have s05 := s4.trans s5
  refine ⟨.ref wd, rfl, wd, _, rfl, DGet.k (k := Sum.inr "arrays") (s05 _ _ (off_at w1).1), ar, rfl, ⟨avs, .inl (.inl (s05 _ _ (off_at w5).1))⟩, fun D2 hD2 => ?_⟩
  have dk5 := dk.same s05
  have nD2 := dk5.has hD2
  refine lc_list (xs := avs) (fun i H6 => H6 D2 = some (.lst (((as.take i).map fun p => p.1).map V.str)) ∧ Same H5 H6) ⟨upd_same, same_new hD2⟩ ?_ ?_ ?_
  · rintro i H6 _ ⟨_, s6⟩
    exact .inl (.inl (s6 _ _ (s05 _ _ (off_at w5).1)))
  · rintro i x H6 hx ⟨e6, s6⟩
    obtain ⟨⟨nm, sz⟩, hp, hxD⟩ := dpAll_map_get w6 hx
    have hi := (List.getElem?_eq_some_iff.mp hx).1
    have hxD := dp_mono (s05.trans s6) _ _ (offD hxD)
    cases hxD with
    | @tup ax xx _ sqx hax =>
    cases hax with
    | cons y0 r0 =>
    cases r0 with
    | cons y1 r1 =>
    cases r1
    cases y0
    cases y1
    refine ⟨ax, _, rfl, sqx, rfl, _, _, rfl, _, _, rfl, rfl, rfl, tyes ⟨_, rfl, _, e6, small_line (by rw [List.length_map, List.length_map, List.length_take]; omega), ?_, fun b o hb => ?_⟩⟩
    · rw [upd_same, take_snoc hp, List.map_append, List.map_append]
      rfl
    · rw [upd_ne (ne_of_none hb hD2)]
      exact s6 _ _ hb
  rintro H6 ⟨e6, s6⟩
  rw [List.take_of_length_le (by omega)] at e6
  have s06 := s05.trans s6
  have dk6 := dk.same s06
  have L3 : LsD K (off d c H6) D2 ((as.map fun p => p.1).map PyData.str) := ⟨_, by rw [off_get nD2.1 nD2.2]; exact e6, dpAll_maps (f := V.str) (g := PyData.str) _ fun x _ => .str x⟩
  refine ⟨d, c, p1, D2, _, _, rfl, rfl, lp1.mono (off_same_mono s6), L3, (dk_ne dk6).1, (dk_ne dk6).2, (by simp only [List.length_map, List.length_append, hel, hal, List.length_cons, List.length_nil, sizeLine_eq]; decide), fun p2 H7 hp2 s7 lp2 => ?_⟩
  rw [← List.map_append] at lp2
  generalize hnsE : es ++ [hh] ++ as.map (fun p => p.1) = nms at lp2
  have hnl : nms.length = 5 := by rw [← hnsE]; simp only [List.length_append, List.length_map, hel, hal, List.length_cons, List.length_nil]
  have hnm : ∀ x ∈ nms, Nm x := by
    intro x hx
    rw [← hnsE] at hx
    rcases List.mem_append.mp hx with h | h
    · rcases List.mem_append.mp h with h | h
      · exact hes x h
      · rw [List.mem_singleton.mp h]
        exact hho
    · obtain ⟨p, hp, rfl⟩ := List.mem_map.mp h
      exact (has p hp).1
  have s07 := s06.trans s7
  have fb := fb.mono s07
  have hg := dp_mono s07 _ _ hg
  have dk7 := dk.same s07
  have wd7 := s07 _ _ (off_at w1).1
  have ca7 := s07 _ _ (off_at w2).1
  have cv7 := dpAll_mono (off_same_mono (d := d) (c := c) s07) _ _ w3
  have hcv := dpAll_len w3
  rw [List.length_map, hcl] at hcv
  obtain ⟨y0, hy0⟩ : ∃ y, cvs[0]? = some y := ⟨_, List.getElem?_eq_getElem (by omega)⟩
  obtain ⟨⟨nm0, sz0⟩, hp0, hy0D⟩ := dpAll_map_get cv7 hy0
  have hnm0 := (hcs _ (List.mem_of_getElem? hp0)).1
  clear L1 L2 L3 lp1 e6 hD2 hl1 hp1 hp2 nD2 nl1 dk3 dk4 dk5 dk6 dk s3 s4 s5 s6 s7 s05 s06 w1 w2 w3 w4 w5 w6
  refine ⟨_, rfl, .ref wd, rfl, wd, _, rfl, DGet.k (k := Sum.inr "calls") wd7, ca, cvs, 0, y0, rfl, rfl, .inl (.inl ca7), atI_nat (j := 0) hy0, _, 0, _, offD hy0D, rfl, rfl, fun z hz => ?_⟩
  cases hz
  dsimp only at hnm0
  obtain ⟨pv, ep2, gp2⟩ := lp2.ex
  have np2 := off_at ep2
  refine ⟨(by show 0 ≤ sizeLine; decide), fun a1 ha1 => ?_⟩
  have u1 := same_new (o := .tup []) ha1
  have d1 := dk7.same u1
  have v1 : Dp K (off d c (upd H7 a1 (.tup []))) (.ref a1) (.tuple []) := dp_tupO (dk_ne dk7).1 (dk_ne dk7).2 ha1 .nil
  generalize upd H7 a1 (.tup []) = B1 at u1 d1 v1 ⊢
  refine ⟨(by show 1 ≤ sizeLine; decide), fun a2 ha2 => ?_⟩
  have u2 := same_new (o := .tup [.str "a"]) ha2
  have d2 := d1.same u2
  have v2 : Dp K (off d c (upd B1 a2 (.tup [.str "a"]))) (.ref a2) (.tuple [.str "a"]) := dp_tupO (dk_ne d1).1 (dk_ne d1).2 ha2 (.cons (.str _) .nil)
  generalize upd B1 a2 (.tup [.str "a"]) = B2 at u2 d2 v2 ⊢
  refine ⟨_, rfl, (by show 9 ≤ sizeLine; decide), fun l4 hl4 => ?_⟩
  have nl4 := d2.has hl4
  have u3 := same_new (o := .lst [.str "nowhere", .str "else", .str "", .str nm0, .non, .int 0, .ref a1, .ref a2, .ref p2]) hl4
  have uu := u1.trans (u2.trans u3)
  have L5 : LsD K (off d c (upd B2 l4 (.lst [.str "nowhere", .str "else", .str "", .str nm0, .non, .int 0, .ref a1, .ref a2, .ref p2]))) l4 (askD nm0 nms) :=
    ⟨_, by rw [off_get nl4.1 nl4.2]; exact upd_same, .cons (.str _) (.cons (.str _) (.cons (.str _) (.cons (.str _) (.cons .non (.cons (.int _) (.cons (dp_mono (off_same_mono (u2.trans u3)) _ _ v1) (.cons (dp_mono (off_same_mono u3) _ _ v2) (.cons (dp_mono (off_same_mono uu) _ _ (.lst (.inl (.inl ep2)) gp2)) .nil))))))))⟩
  generalize upd B2 l4 (.lst [.str "nowhere", .str "else", .str "", .str nm0, .non, .int 0, .ref a1, .ref a2, .ref p2]) = B3 at uu L5 ⊢
  have d3 := dk7.same uu
  refine ⟨d, c, p2, l4, _, _, rfl, rfl, lp2.mono (off_same_mono uu), L5, (dk_ne d3).1, (dk_ne d3).2, (by simp only [List.length_map, hnl, askD, List.length_cons, List.length_nil, sizeLine_eq]; decide), fun p5 H9 hp5 s9 lp5 => ?_⟩
  obtain ⟨qv, ep5, gp5⟩ := lp5.ex
  have hall := ask_ok (nm0 := nm0) hnm0 hnm (by omega)
  have s79 := uu.trans s9
  have fb := fb.mono s79
  have hg := dp_mono s79 _ _ hg
  have dk9 := dk7.same s79
  have e29 := s79 _ _ np2.1
  clear uu u1 u2 u3 v1 v2 d1 d2 d3 L5 lp2 hl4 nl4 ha1 ha2 s79 s9 dk7 hp5
  refine ⟨p5, rfl, ⟨qv, .inl (.inl (offA ep5))⟩, ?_⟩
  refine for_list (xs := qv) (fun i σ HA => ∃ y8, σ = [some (.ref a), some (.ref d), some (.int (0 + (j : Int))), some (.ref wd), some vg, some (.ref kn), some (.ref hd), some (.ref p2), y8, x9, x10, none] ∧ Same H9 HA) ⟨_, rfl, Same.refl _⟩ ?_ ?_ ?_
  · rintro i σ HA _ ⟨y8, rfl, sA⟩
    exact .inl (.inl (sA _ _ (offA ep5)))
  · rintro i x σ HA hx ⟨y8, rfl, sA⟩
    obtain ⟨D, hD, hxD⟩ := dpAll_get gp5 hx
    have okD := hall D (List.mem_of_getElem? hD)
    exact ⟨_, rfl, _, rfl, _, rfl, _, rfl, vg, x, kn, hd, g, N, D, u, l, rfl, dp_mono sA _ _ hg, dp_mono sA _ _ (offD hxD), okD.nm, okD.fine, okD.sh, gm, fb.mono sA, fun H' s => ⟨_, rfl, iteF ⟨_, rfl, sA.trans s⟩⟩⟩
  rintro σ HA ⟨y8, rfl, sA⟩
  have fb := fb.mono sA
  have hg := dp_mono sA _ _ hg
  have dkA := dk9.same sA
  have e2A := sA _ _ e29
  clear sA dk9 e29 gp5 ep5 hall lp5
  have hpvl := dpAll_len gp2
  rw [List.length_map, hnl] at hpvl
  obtain ⟨y1, hy1⟩ : ∃ y, pv[0]? = some y := ⟨_, List.getElem?_eq_getElem (by omega)⟩
  obtain ⟨y2, hy2⟩ : ∃ y, pv[1]? = some y := ⟨_, List.getElem?_eq_getElem (by omega)⟩
  obtain ⟨z1, hz1, k1⟩ := dpAll_map_get gp2 hy1
  obtain ⟨z2, hz2, k2⟩ := dpAll_map_get gp2 hy2
  cases k1
  cases k2
  have hodd := odd_ok (hnm _ (List.mem_of_getElem? hz1)) (hnm _ (List.mem_of_getElem? hz2))
  refine ⟨(by show 1 ≤ sizeLine; decide), fun b1 hb1 => ?_⟩
  have v1 : Dp K (off d c (upd HA b1 (.tup [.str "drop_stores"]))) (.ref b1) (.tuple [.str "drop_stores"]) := dp_tupO (dk_ne dkA).1 (dk_ne dkA).2 hb1 (.cons (.str _) .nil)
  have u1 := same_new (o := .tup [.str "drop_stores"]) hb1
  have d1 := dkA.same u1
  generalize upd HA b1 (.tup [.str "drop_stores"]) = B1 at u1 d1 v1 ⊢
  refine ⟨_, rfl, p2, pv, 0, _, rfl, rfl, .inl (.inl (u1 _ _ e2A)), atI_nat (j := 0) hy1, _, rfl, p2, pv, 1, _, rfl, rfl, .inl (.inl (u1 _ _ e2A)), atI_nat (j := 1) hy2, (by show 3 ≤ sizeLine; decide), fun b2 hb2 => ?_⟩
  have v2 : Dp K (off d c (upd B1 b2 (.tup [.str "drop_stores", .str z1, .str z2]))) (.ref b2) (.tuple [.str "drop_stores", .str z1, .str z2]) := dp_tupO (dk_ne d1).1 (dk_ne d1).2 hb2 (.cons (.str _) (.cons (.str _) (.cons (.str _) .nil)))
  have u2 := same_new (o := .tup [.str "drop_stores", .str z1, .str z2]) hb2
  have d2 := d1.same u2
  generalize upd B1 b2 (.tup [.str "drop_stores", .str z1, .str z2]) = B2 at u2 d2 v2 ⊢
  refine ⟨_, rfl, p2, pv, 0, _, rfl, rfl, .inl (.inl (u2 _ _ (u1 _ _ e2A))), atI_nat (j := 0) hy1, (by show 2 ≤ sizeLine; decide), fun b3 hb3 => ?_⟩
  have v3 : Dp K (off d c (upd B2 b3 (.lst [.str "drop_stores", .str z1]))) (.ref b3) (.list [.str "drop_stores", .str z1]) := dp_lstO (dk_ne d2).1 (dk_ne d2).2 hb3 (.cons (.str _) (.cons (.str _) .nil))
  have u3 := same_new (o := .lst [.str "drop_stores", .str z1]) hb3
  have d3 := d2.same u3
  generalize upd B2 b3 (.lst [.str "drop_stores", .str z1]) = B3 at u3 d3 v3 ⊢
  refine ⟨(by show 4 ≤ sizeLine; decide), fun l6 hl6 => ?_⟩
  have nl6 := d3.has hl6
  have u4 := same_new (o := .lst [.ref b1, .ref b2, .ref b3, .str "drop_stores"]) hl6
  have L6 : LsD K (off d c (upd B3 l6 (.lst [.ref b1, .ref b2, .ref b3, .str "drop_stores"]))) l6 (oddD z1 z2) :=
    ⟨_, by rw [off_get nl6.1 nl6.2]; exact upd_same, .cons (dp_mono (off_same_mono (u2.trans (u3.trans u4))) _ _ v1) (.cons (dp_mono (off_same_mono (u3.trans u4)) _ _ v2) (.cons (dp_mono (off_same_mono u4) _ _ v3) (.cons (.str _) .nil)))⟩
  have uu := u1.trans (u2.trans (u3.trans u4))
  generalize upd B3 l6 (.lst [.ref b1, .ref b2, .ref b3, .str "drop_stores"]) = HB at uu L6 ⊢
  have fb := fb.mono uu
  have hg := dp_mono uu _ _ hg
  have dkB := dkA.same uu
  obtain ⟨rv, er, gr⟩ := L6.ex
  have gs := gsm_of gm
  refine ⟨_, rfl, ?_⟩
  refine ⟨l6, rfl, ⟨rv, .inl (.inl (offA er))⟩, ?_⟩
  refine for_list (xs := rv) (fun i σ HC => ∃ y10, σ = [some (.ref a), some (.ref d), some (.int (0 + (j : Int))), some (.ref wd), some vg, some (.ref kn), some (.ref hd), some (.ref p2), y8, some (.ref l6), y10, none] ∧ Same HB HC) ⟨_, rfl, Same.refl _⟩ ?_ ?_ ?_
  · rintro i σ HC _ ⟨y10, rfl, sC⟩
    exact .inl (.inl (sC _ _ (offA er)))
  · rintro i x σ HC hx ⟨y10, rfl, sC⟩
    obtain ⟨D, hD, hxD⟩ := dpAll_get gr hx
    obtain ⟨fm, nh⟩ := hodd D (List.mem_of_getElem? hD)
    refine ⟨_, rfl, _, rfl, _, rfl, vg, x, hd, g, D, u, l, rfl, dp_mono sC _ _ hg, dp_mono sC _ _ (offD hxD), fm, gs, fb.fa.mono sC, fun y hy => absurd hy (nh u y), fun _ H' s => ?_⟩
    exact ⟨true, true, rfl, rfl, _, rfl, iteF ⟨_, rfl, sC.trans s⟩⟩
  rintro σ HC ⟨y10, rfl, sC⟩
  exact ⟨_, _, _, _, _, _, _, _, _, rfl, (dkB.same sC).up (by omega)⟩
end
end K48

set_option maxHeartbeats 0
open PySem PySem.W PySem.Calls PyProof.Rows
theorem PySem.Challenge.cw_wholeapart_k48_stores_that_nobody_reads_holds : PySem.Challenge.rw_wholeapart_k48_stores_that_nobody_reads.Holds := by
  w_on; o_law
  refine HandSHeadRun.head_any (r := OpenLaw.row PySem.Challenge.rw_wholeapart_k48_stores_that_nobody_reads) (q := view (OpenLaw.row PySem.Challenge.rw_wholeapart_k48_stores_that_nobody_reads).prog [159]) (H := K48.hk) (ob := K48.ob) (M := 9000) (loose := K48.loose) (d := HandSHeadRun.topDef (OpenLaw.row PySem.Challenge.rw_wholeapart_k48_stores_that_nobody_reads).prog 159) (kwd := []) K48.ob_eq
    (by kernel_rfl) (fun s => by kernel_rfl) K48.run (by kernel_rfl) (by kernel_rfl) (by kernel_rfl) (by rfl) (by first | assumption | decide +kernel) (by decide +kernel) ⟨rfl, rfl, rfl, rfl, rfl, by decide +kernel⟩ ?hw ?hc
  case hw => w_witness2
  case hc =>
    refine HG.walkG (l := PySem.Challenge.rw_wholeapart_k48_stores_that_nobody_reads) (n := 63) (k := 13) (x := "_law_script") (CX := L2.CX0) rfl (by decide) (by kernel_rfl) ⟨rfl, by decide, by decide⟩ ?F (fun _ _ _ _ z => z)
    intro w mg fa h Y G hmg0
    obtain ⟨K, KX, c⟩ := Y
    have hmg : mg ("law" : PySem.Str) = some (.ref fa) := by
      have e : (HandSHeadRun.topDef (OpenLaw.row PySem.Challenge.rw_wholeapart_k48_stores_that_nobody_reads).prog 159).name = ("law" : PySem.Str) := by kernel_rfl
      rw [← e]
      exact hmg0
    have T := K48.txt KX G c
    have efa : fa = He.ga K "law" := by
      have e := hmg.symm.trans (T.g "law" (by decide))
      cases e
      rfl
    subst efa
    obtain ⟨fd, F⟩ := T.d_law
    refine ⟨K, fd, K48.spLaw K, KX, fun s u => (L2.FunD.bindsA (ps := ["_law_script"]) F fun _ _ _ _ _ _ us hl => match us, hl with | [_], _ => rfl) s [u] rfl, fun H a ns hl _ _ hS => ⟨a, ns, rfl, hS, hl, fun _ => rfl⟩, fun base _ _ => ?_⟩
    exact K48.ok_law T ⟨by kernel_rfl, by kernel_rfl⟩ F
