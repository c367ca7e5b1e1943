import PyProof.Rows.All
import Wide.All
import OpenK.AllK
import Wide.FinOn
import HandS.ForMost
import HandS.WordsExc
import HandS.Defaults
import HandS.HeadEnd
import HandS.EndBits
import HandS.IsInst
import HandS.Wide
import HandS.HeadHook1
import HandS.HeadHook2
import HandS.More
import HandS.HeadHook3
import HandS.Walk
import HandS.Style
import HandS.NoneIn
import HandS.Strs
import HandS.SetBool
import PyProof.StrBlock2
import KE.GoesMore
import HandS.Zip
import HandS.ExcInit
import HandS.ExcIs
import HandS.ExcField
import KE.KExcSuper
import HandS.ExcOwn
import HandS.ExcValue
import KE.KStateDown
import Lean
import HandS.Head0
import HandS.Head1
import HandS.Head2
import HandS.TupLe
import HandS.DictTup
import HandS.Keys
import KE.KSortTupAny
import KE.KDictCopyH
import HandS.TupAny
import HandS.Text
import HandS.Words
import HandS.Nested
import HandS.EndTab
import PyProof.Rows.IntBool
import HandS.RaiseMore
import HandS.Conv
import HandS.Codes
import HandS.Star
import HandS.Flow
import HandS.CallSlots
import KE.KDictDisplayH
import PySem.Challenge.RW_wholeapart_k39_applies_with_one_target
set_option Elab.async false
set_option linter.all false
set_option maxRecDepth 100000
set_option maxHeartbeats 4000000
/-! HG: defs that are called where no repr is under way (the guards are known to be none), and repr of data. -/
namespace HG
open PySem PySem.Spec PyProof.Rows L2

structure FnG (P : Program) (w : World) (K : PySem.W.Frag) (mg : Str → Option Value) (base : Heap)
    (CX : CXT) (k : Nat) (f : Addr) (fd : FuncData) (ps : List Str) (sp : Sp) : Prop where
  sized : ∀ vs H Q E, sp vs H Q E → vs.length = ps.length
  goes : ∀ (A : Around) (outer : List Env) (s : Shared) (H : Hp) (args : Args) (us : List Value) (vs : List V) (Q : VK) (E : XK),
    Room k A → A.guards = some [] → Env0 P w K mg base A outer s H → BindsTo s fd args (ps.zip us) → Vals vs us →
    sp vs H Q E → codeAny (model P w) A (.call (.ref f) args) (CR CX outer P w H s Q E) s

section
variable {P : Program} {w : World} {K : PySem.W.Frag} {mg : Str → Option Value} {base : Heap} {CX : CXT} {k : Nat} {f : Addr} {fd : FuncData} {ps : List Str} {sp : Sp}

theorem FnG.of (F : FnOk P w K mg base CX k f fd ps sp) : FnG P w K mg base CX k f fd ps sp :=
  ⟨F.len, fun A outer s H args us vs Q E r _ => F.run A outer s H args us vs Q E r⟩

theorem FnG.up {j : Nat} (F : FnG P w K mg base CX j f fd ps sp) (h : j ≤ k) : FnG P w K mg base CX k f fd ps sp :=
  ⟨F.sized, fun A outer s H args us vs Q E r => F.goes A outer s H args us vs Q E (r.mono h)⟩

/-- a def of the text, by its body -/
theorem fng_of {x qual : Str} {params : Arguments} {body : List Stmt} {scope : Scope} {dvs : List V} {kws : List (Str × V)} {N : List Str}
    (F : FunD K x qual params body scope dvs kws f fd) (S : FnScope N ps scope) (len : ∀ vs H Q E, sp vs H Q E → vs.length = ps.length)
    (hbody : ∀ (cdv : Value) (A : Around) (outer : List Env) (s : Shared) (H : Hp) (vs : List V) (Q : VK) (E : XK),
      Room k (A.deeper (envOfC qual scope s.heap.objs.size f cdv)) → A.guards = some [] → sp vs H Q E →
      ∃ t, PSs (cxOf CX P w K mg base N qual scope f cdv A outer s H E) body t ∧
        t { nx := fun _ H' => Q .non H', rt := Q } (start N vs) H) : FnG P w K mg base CX (k + 1) f fd ps sp := by
  obtain ⟨oc, od, dV, kV, doc, pm, an, cdv, ct, osl, rfl, lk, hcd, _, _⟩ := F.ex
  constructor
  · exact len
  intro A outer s H args us vs Q E hr hg e0 hb r hsp
  have X1 : K.In s.heap := e0.mod.kin.keeps fun b o e => (e0.bs b o e).1
  have X2 : s.heap.NoLimit := e0.mod.nolimit.keeps fun b o e => (e0.bs b o e).1
  obtain ⟨t, ht, hq⟩ := hbody cdv A outer s H vs Q E (hr.deeper _) hg hsp
  refine codeAny_call_function hr.depth (X1 _ _ lk) rfl S.co S.gen rfl (PySem.W.codeRec_of X1 hcd) (hb _ _ _ _ ?_)
  have kinds : ∀ y ∈ ps.zip us, scope.names.lookup y.1 = some .local ∨
      (scope.names.lookup y.1 = some .cell ∧ ((cellsFrom (s.heap.objs.size + 1) scope.names []).lookup y.1).isSome = true) := by
    rintro ⟨n, v⟩ hy
    have hn := (List.of_mem_zip hy).1
    rcases S.par n hn with q | q
    · left; exact q
    · right; exact ⟨q, PySem.W.cellsFrom_some _ _ _ (.inl q)⟩
  refine wpAny_newFunctionEnv_cells S.kind kinds ?_
  intro env he s1 x
  subst he
  refine ⟨X2.keeps x.toInCall.keep, codeAny_func ?_⟩
  have I := inv_start (CX := CX) (E := E) S hr.hd e0 (len _ _ _ _ hsp) r x
  refine wpAny_mono (ht.run [] s1 (start N vs) H _ I hq) ?_ (fun e s' hs => hs)
  intro fl s' hs
  cases fl with
  | next =>
    obtain ⟨σ', H', J, q⟩ := hs
    exact ⟨V.non, H', J.os, J.bare, J.base, J.hok, rfl, q⟩
  | ret u =>
    obtain ⟨v, σ', H', J, rv, q⟩ := hs
    exact ⟨v, H', J.os, J.bare, J.base, J.hok, rv, q⟩
  | brk => exact hs.elim fun _ z => z.elim fun _ z => z.2.elim
  | cont => exact hs.elim fun _ z => z.elim fun _ z => z.2.elim
end

/-! ### calls of such defs -/
section
variable {X : Cx} {CX : CXT} {k : Nat} {f : Addr} {fd : FuncData} {ps ks : List Str} {sp : Sp} {dvs : List V} {ds : List Value}
  {E : XK} {x : Str} {p pos : Pos} {e : Expr} {es : List Expr} {t tk : TA} {kws : List Keyword}
  {g : List Value → List Value → List Value} {gV : List V → List V → List V}

theorem fin_call {pins : List (Addr × Obj)} {σ : L2.St} {H : Hp} {s s' : Shared} {Q : VK} {r : Result} (hx : Passes CX X E)
    (I : Inv X pins σ H s) (h : CR CX X.stack X.prog X.w H s Q E r s') : callEnd (EP X pins σ Q) X.xe r s' := by
  cases r with
  | error e => exact hx pins σ H s e s' I h
  | ok fl =>
    cases fl with
    | ret u => exact I.after h
    | next => exact h.elim
    | brk => exact h.elim
    | cont => exact h.elim

theorem pe_callG (F : FnG X.prog X.w X.K X.mg X.base CX k f fd ps sp) (hr : Room k X.A) (hgd : X.A.guards = some []) (hg : Gl X x) (hm : X.mg x = some (.ref f))
    (hk : PySem.W.keepIn X.K (.ref f) = true) (hb : Binds X.K fd ps ds) (hd : Vals dvs ds) (hx : Passes CX X E) (ha : PA X (e :: es) t)
    (hdb : (x == ("__debug__" : Str)) = false := by decide)
    (he : starEach (e :: es) X.env = (false, eval e X.env) :: starEach es X.env := by rfl)
    (hpl : (backTo pos (starEach es X.env)).any (·.1) = false := by rfl) : PE X (.Call (.Name x p) (e :: es) [] pos) (tCall sp dvs E t) := by
  constructor
  intro pins s σ H Q I h
  refine wpAny_Call_Name_kw (ld_glob I hg hm ?_ hdb)
  refine PySem.W.callWith_K (h₀ := X.base) I.ok.mod.kin hk (thn (ha.run pos pins s σ H _ I h) ?_) he hpl
  rintro us s1 ⟨vs, H1, I1, r, q⟩
  have rr : Vals (vs ++ dvs) (us ++ ds) := r.append hd
  have hl : (us ++ ds).length = ps.length := rr.length.symm.trans (F.sized _ _ _ _ q)
  refine ⟨I1.kIn, wpAny_call (codeAny_mono (F.goes X.A X.stack s1 H1 ⟨us, []⟩ _ _ Q E hr hgd I1.env0 (hb s1 us I1.kIn hl) rr q) fun r s' hq => ?_)⟩
  exact fin_call hx I1 hq

end

/-! ### repr of data -/
mutual
theorem dp_nodict {K : PySem.W.Frag} {H : Hp} : ∀ (d : PyData) (v : V), Dp K H v d → d.hasDict = false
  | .none, _, _ => by simp only [PyData.hasDict]
  | .bool _, _, _ => by simp only [PyData.hasDict]
  | .int _, _, _ => by simp only [PyData.hasDict]
  | .str _, _, _ => by simp only [PyData.hasDict]
  | .list ds, _, h => by
    cases h with
    | lst _ ha =>
      simp only [PyData.hasDict]
      exact dpAll_nodict ds _ ha
  | .tuple ds, _, h => by
    cases h with
    | tup _ ha =>
      simp only [PyData.hasDict]
      exact dpAll_nodict ds _ ha
  | .dict _, _, h => by cases h
theorem dpAll_nodict {K : PySem.W.Frag} {H : Hp} : ∀ (ds : List PyData) (vs : List V), DpAll K H vs ds → PyData.hasDictAll ds = false
  | [], _, _ => by simp only [PyData.hasDictAll]
  | d :: ds, _, h => by
    cases h with
    | cons h1 h2 => simp only [PyData.hasDictAll, dp_nodict d _ h1, dpAll_nodict ds _ h2, Bool.or_self]
end

def rRepr (K : PySem.W.Frag) : List V → Hp → VK → Prop := fun xs H Q =>
  ∃ x d, xs = [x] ∧ Dp K H x d ∧ d.showable = true ∧ d.depth ≤ 150 ∧ d.shown.length ≤ sizeLine ∧ Q (.str d.shown) H

theorem call_repr {X : Cx} {k : Nat} (hgd : X.A.guards = some []) (hr : Room k X.A) : CallR X (.builtin "repr") (rRepr X.K) := by
  intro pins s σ H xs us Q I r h
  obtain ⟨x, d, rfl, hd, hs, hdep, hsz, q⟩ := h
  obtain ⟨u, rfl, ru⟩ := vals1 r
  obtain ⟨as, rd⟩ := Dp.reads I d x u hd ru
  have hu := hr.un
  cases rd with
  | none => 
    simp only [PyData.shown] at q
    exact PySem.P.repr_of_none ⟨.str _, H, I.tok _, ⟨_, rfl⟩, q⟩
  | bool b =>
    simp only [PyData.shown] at q
    exact PySem.P.repr_of_bool ⟨.str _, H, I.tok _, ⟨_, rfl⟩, q⟩
  | int i t =>
    simp only [PyData.shown] at q
    exact PySem.P.repr_of_int (by simpa [PyData.showable] using hs) ⟨.str _, H, I.tok _, ⟨_, rfl⟩, q⟩
  | str y t =>
    simp only [PyData.shown] at q hsz
    exact PySem.P.repr_of_str ⟨.str _, H, I.tok _, ⟨_, rfl⟩, q⟩ hsz
  | list h1 h2 h3 h4 =>
    have nd := dp_nodict _ _ hd
    refine repr_of_reads' (.list h1 h2 h3 h4) hs (fun z => ?_) hgd (by omega) (fun _ _ e => e) (fun h' u tk hk => ⟨.str _, H, I.kept hk, ⟨_, rfl⟩, q⟩) hsz
    rw [nd] at z; cases z
  | tuple h1 h2 h3 h4 =>
    have nd := dp_nodict _ _ hd
    refine repr_of_reads' (.tuple h1 h2 h3 h4) hs (fun z => ?_) hgd (by omega) (fun _ _ e => e) (fun h' u tk hk => ⟨.str _, H, I.kept hk, ⟨_, rfl⟩, q⟩) hsz
    rw [nd] at z; cases z
  | dict h1 h2 h3 h4 h5 => cases hd

/-! ### the law's own call -/
section
variable {P : Program} {w : World} {K : PySem.W.Frag} {mg mb : Str → Option Value} {CX : CXT} {k : Nat} {fa a : Addr} {fd : FuncData} {x : Str} {sp : Sp} {s1 : Shared} {vs : List Value} {ns : List Int}

/-- from an abstract heap H that tracks the script at most -/
theorem law_core (KX : K.In s1.heap) (hns : s1.heap.Ns mainGlobals mg) (hb : s1.heap.Ns builtinsNs mb)
    (hbb : ∀ x : Str, x ≠ "__name__" → mb x = bootBuiltins x) (hlim : s1.heap.NoLimit) (hg : s1.gens = #[])
    (ha : s1.heap.get? a = some { cls := .type "list", data := .seq vs.toArray }) (hr : Room k callerA)
    (F : ∀ base : Heap, K.In base → base.Ns mainGlobals mg → FnG P w K mg base CX k fa fd [x] sp)
    (hbind : ∀ (s : Shared) (u : Value), BindsTo s fd ⟨[u], []⟩ [(x, u)])
    {H : Hp} (only : Only H) (hok : HOk P w H s1.heap) (hA : ∀ b, H b ≠ none → b = a) (hK : H a ≠ none → K.lookup a = none)
    (hsp : sp [.ref a] H (fun v _ => v = .bl true) fun _ _ _ => False)
    (hCX : ∀ e s', CX [] H s1 (fun _ _ _ => False) e s' → False) :
    codeAny (model P w) callerA (.call (.ref fa) ⟨[.ref a], []⟩)
      (fun r s' => r = .ok (.ret (.bool true)) ∧ OldK s1.heap s'.heap ∧ s'.os = s1.os ∧ AllBare s'.gens) s1 := by
  have tracked : ∀ {b : Addr} {u : HO}, H b = some u → b = a := fun {b u} q => hA b (by simp [q])
  have dictFree : ∀ {b : Addr} {o : Obj} {es : Array DictEntry} {ep : Nat}, s1.heap.get? b = some o → o.data = .dict es ep → H b = none := by
    intro b o es ep e d
    cases q : H b with
    | none => rfl
    | some u =>
      rw [tracked q, ha] at e
      cases e
      cases d
  have nsK : ∀ {b : Addr} {m : Str → Option Value}, s1.heap.Ns b m → (hidT s1.heap H).Ns b m := by
    rintro b m ⟨o, es, ep, e, d, r⟩
    exact ⟨o, es, ep, hidT_get e (dictFree e d), d, r⟩
  have kin : K.In (hidT s1.heap H) := by
    intro b o e
    refine hidT_get (KX b o e) ?_
    cases q : H b with
    | none => rfl
    | some u =>
      have eb := tracked q
      subst eb
      rw [hK (by simp [q])] at e
      cases e
  have md : Mod K mg (hidT s1.heap H) := by
    obtain ⟨mc, l1, l2⟩ := hlim
    exact ⟨kin, nsK hns, ⟨mb, nsK hb, hbb⟩, ⟨mc, nsK l1, l2⟩⟩
  have e0 : Env0 P w K mg (hidT s1.heap H) callerA [] s1 H :=
    { frames := rfl, mod := md, bs := fun b o e => of_hidT e, bsz := Nat.le_of_eq (hidT_size _ _), funs := trivial,
      frf := fun b z => absurd (show b ∈ ([] : List Addr) from z) List.not_mem_nil, hok := hok, bare := .of_eq hg }
  have go := (F _ kin (nsK hns)).goes callerA [] s1 H ⟨[.ref a], []⟩ [.ref a] [.ref a] _ _ hr rfl e0 (hbind s1 (.ref a)) (.cons rfl .nil) hsp
  refine codeAny_mono go fun r s' h => ?_
  cases r with
  | error e => exact (hCX e s' h).elim
  | ok fl =>
    cases fl with
    | next => exact h.elim
    | brk => exact h.elim
    | cont => exact h.elim
    | ret u =>
      obtain ⟨v, H', os, bare, un, hok', r', q⟩ := h
      have ev : v = .bl true := q
      subst ev
      have eu : u = Value.bool true := r'
      subst eu
      refine ⟨rfl, OldK.of_keep fun b o e => ?_, os, bare⟩
      rcases only b with z | ⟨ob, xs, z⟩
      · exact un.keep b o e z (fun y => absurd (show b ∈ ([] : List Addr) from y) List.not_mem_nil) List.not_mem_nil
      · obtain ⟨e1, _⟩ := hok b _ z
        obtain ⟨e2, _⟩ := hok' b _ (un.frzs b ob _ z)
        rw [e1] at e
        cases e
        exact e2

theorem law_callG (KX : K.In s1.heap) (hns : s1.heap.Ns mainGlobals mg) (hb : s1.heap.Ns builtinsNs mb)
    (hbb : ∀ x : Str, x ≠ "__name__" → mb x = bootBuiltins x) (hlim : s1.heap.NoLimit) (hg : s1.gens = #[])
    (ha : s1.heap.get? a = some { cls := .type "list", data := .seq vs.toArray }) (hi : IntsAre vs ns) (hl : ns.length ≤ sizeLine) (hr : Room k callerA)
    (F : ∀ base : Heap, K.In base → base.Ns mainGlobals mg → FnG P w K mg base CX k fa fd [x] sp)
    (hbind : ∀ (s : Shared) (u : Value), BindsTo s fd ⟨[u], []⟩ [(x, u)])
    (hsp : ∀ H : Hp, Only H → SqL K H a (ns.map V.int) → sp [.ref a] H (fun v _ => v = .bl true) fun _ _ _ => False)
    (hCX : ∀ H e s', CX [] H s1 (fun _ _ _ => False) e s' → False) :
    codeAny (model P w) callerA (.call (.ref fa) ⟨[.ref a], []⟩)
      (fun r s' => r = .ok (.ret (.bool true)) ∧ OldK s1.heap s'.heap ∧ s'.os = s1.os ∧ AllBare s'.gens) s1 := by
  have rv := vals_ints hi
  cases hk : K.lookup a with
  | some o =>
    have e := KX a o hk
    rw [ha] at e
    cases e
    have on : Only (fun _ => none) := fun _ => .inl rfl
    refine law_core KX hns hb hbb hlim hg ha hr F hbind on (fun b u z => by cases z) (fun b z => absurd rfl z) (fun z => absurd rfl z) (hsp _ on (.inr ?_)) (hCX _)
    exact ⟨_, vs.toArray, _, hk, rfl, rfl, rfl, by rw [List.size_toArray, hi.length]; exact hl, by simpa using rv⟩
  | none =>
    let o : Obj := { cls := .type "list", data := .seq vs.toArray }
    let H : Hp := upd (fun _ => none) a (.frz o (.lst (ns.map V.int)))
    have hH : H a = some (.frz o (.lst (ns.map V.int))) := upd_same
    have hN : ∀ b, b ≠ a → H b = none := fun b z => upd_ne z
    have on : Only H := by
      intro b
      by_cases e : b = a
      · subst e; exact .inr ⟨_, _, hH⟩
      · exact .inl (hN b e)
    refine law_core KX hns hb hbb hlim hg ha hr F hbind on (fun b u z => ?_) (fun b z => ?_) (fun _ => hk) (hsp H on (.inl (.inr ⟨o, hH⟩))) (hCX _)
    · by_cases e : b = a
      · subst e
        rw [hH] at z
        cases z
        exact ⟨ha, by rw [List.length_map]; exact hl, vs, _, rv, ha⟩
      · rw [hN b e] at z; cases z
    · by_cases e : b = a
      · exact e
      · exact absurd (hN b e) z
end

/-- the walk that a head by facts asks for, with the script's bits -/
theorem walkG {l : PySem.W.OpenLaw} {n k : Nat} {q : Program} {loose : List Str} {XP : (Str → Option Value) → Heap → Prop} {YP : World → Heap → Prop} {d : DefRec} {CX : CXT} {x : Str}
    (hn : l.most = some n) (hn2 : n ≤ sizeLine) (hdf : d.params.defaults = []) (hr : Room k callerA)
    (F : ∀ (w : World) (mg : Str → Option Value) (fa : Addr) (h : Heap), YP w h → h.Ns mainGlobals mg → mg d.name = some (.ref fa) →
      ∃ (K : PySem.W.Frag) (fd : FuncData) (sp : Sp), K.In h ∧ (∀ (s : Shared) (u : Value), BindsTo s fd ⟨[u], []⟩ [(x, u)]) ∧
        (∀ (H : Hp) (a : Addr) (ns : List Int), ns.length ≤ n → (∀ z ∈ ns, Builtin.Int.intBits z ≤ 1048576) → Only H → SqL K H a (ns.map V.int) →
          sp [.ref a] H (fun v _ => v = .bl true) fun _ _ _ => False) ∧
        ∀ base : Heap, K.In base → base.Ns mainGlobals mg → FnG l.prog w K mg base CX k fa fd [x] sp)
    (hCX : ∀ (H : Hp) (s : Shared) (e : Value) (s' : Shared), CX [] H s (fun _ _ _ => False) e s' → False) :
    PySem.W.WalkO q loose XP YP l.row.toRowW d [] (fun f vs => PySem.call f vs) := by
  refine Att.attach_callB hn hdf ?_
  intro w s₀ s₁ mg mb fa o pm cd doc a vs ns G Y ho hd hcd hmg hobj hints hlen hbits hg
  obtain ⟨K, fd, sp, KX, hb, hsp, hF⟩ := F w mg fa _ Y G.T.g hmg
  exact law_callG KX G.T.g G.T.b G.T.builtins G.T.nolimit hg hobj hints (Nat.le_trans hlen hn2) hr hF hb (fun H hO hS => hsp H a ns hlen hbits hO hS) (fun H e s' => hCX H s₁ e s')
end HG

set_option maxHeartbeats 4000000
/-! HW: short words over HG: defs called by name (Cal), data, frames. -/
namespace HG
open PySem PySem.Spec PyProof.Rows L2

/-! ### a def of the top, ready to be called -/
structure Cal (P : Program) (w : World) (K : PySem.W.Frag) (mg : Str → Option Value) (base : Heap) (x : Str) (k : Nat) (ps : List Str) (sp : Sp) : Prop where
  ex : ∃ fd, FnOk P w K mg base CX0 k (He.ga K x) fd ps sp ∧ Binds K fd ps []
  gl : mg x = some (.ref (He.ga K x))
  kp : PySem.W.keepIn K (.ref (He.ga K x)) = true
structure CalG (P : Program) (w : World) (K : PySem.W.Frag) (mg : Str → Option Value) (base : Heap) (x : Str) (k : Nat) (ps : List Str) (sp : Sp) : Prop where
  ex : ∃ fd, FnG P w K mg base CX0 k (He.ga K x) fd ps sp ∧ Binds K fd ps []
  gl : mg x = some (.ref (He.ga K x))
  kp : PySem.W.keepIn K (.ref (He.ga K x)) = true
/-- called by keywords alone -/
structure CalK (P : Program) (w : World) (K : PySem.W.Frag) (mg : Str → Option Value) (base : Heap) (x : Str) (k : Nat) (ks ps : List Str) (gV : List V → List V) (sp : Sp) : Prop where
  ex : ∃ fd g, FnOk P w K mg base CX0 k (He.ga K x) fd ps sp ∧ KBn K fd ps 0 ks g (fun _ zs => gV zs)
  gl : mg x = some (.ref (He.ga K x))
  kp : PySem.W.keepIn K (.ref (He.ga K x)) = true
section
variable {X : Cx} {k : Nat} {ps ks : List Str} {sp : Sp} {x : Str} {p pos : Pos} {e : Expr} {es : List Expr} {t tk : TA} {kws : List Keyword} {gV : List V → List V}
theorem pe_cal (C : Cal X.prog X.w X.K X.mg X.base x k ps sp) (hr : Room k X.A) (hg : Gl X x) (ha : PA X (e :: es) t)
    (hdb : (x == ("__debug__" : Str)) = false := by decide)
    (he : starEach (e :: es) X.env = (false, eval e X.env) :: starEach es X.env := by rfl)
    (hpl : (backTo pos (starEach es X.env)).any (·.1) = false := by rfl) : PE X (.Call (.Name x p) (e :: es) [] pos) (tCall sp [] E0 t) := by
  obtain ⟨fd, F, b⟩ := C.ex
  exact pe_call F hr hg C.gl C.kp b .nil pass0 ha hdb he hpl
theorem pe_calG (C : CalG X.prog X.w X.K X.mg X.base x k ps sp) (hr : Room k X.A) (hgd : X.A.guards = some []) (hg : Gl X x) (ha : PA X (e :: es) t)
    (hdb : (x == ("__debug__" : Str)) = false := by decide)
    (he : starEach (e :: es) X.env = (false, eval e X.env) :: starEach es X.env := by rfl)
    (hpl : (backTo pos (starEach es X.env)).any (·.1) = false := by rfl) : PE X (.Call (.Name x p) (e :: es) [] pos) (tCall sp [] E0 t) := by
  obtain ⟨fd, F, b⟩ := C.ex
  exact pe_callG F hr hgd hg C.gl C.kp b .nil pass0 ha hdb he hpl
def tCalK (m : Nat) (sp : Sp) (gV : List V → List V) (tk : TA) : TE := fun σ H Q => tk σ H fun zs H1 => zs.length = m ∧ sp (gV zs) H1 Q E0
theorem pe_calK (C : CalK X.prog X.w X.K X.mg X.base x k ks ps gV sp) (hr : Room k X.A) (hg : Gl X x) (hkw : PK X kws tk)
    (hall : (backToKw pos (keywordEach kws X.env)).all (·.1.isSome) = true := by rfl)
    (hks : (backToKw pos (keywordEach kws X.env)).filterMap (·.1) = ks := by rfl)
    (hdb : (x == ("__debug__" : Str)) = false := by decide)
    (hpl : ((backTo pos (starEach [] X.env)).any (·.1) || (backToKw pos (keywordEach kws X.env)).any (·.1.isNone)) = false := by rfl) :
    PE X (.Call (.Name x p) [] kws pos) (tCalK ks.length sp gV tk) := by
  obtain ⟨fd, g, F, b⟩ := C.ex
  constructor
  intro pins s σ H Q I h
  refine wpAny_Call_Name_kw (ld_glob I hg C.gl ?_ hdb)
  refine PySem.W.callWith_KW0 (h₀ := X.base) I.ok.mod.kin C.kp hall (thn (hkw.run pos pins s σ H _ I h) ?_) hpl
  rintro ws s2 ⟨zs, H2, I2, rz, l2, q2⟩
  rw [hks]
  exact ⟨I2.kIn, run_fnN (us := []) (vs := []) F hr b pass0 I2 .nil rz rfl l2 q2⟩
theorem pe_globI {i : Int} (h : ∃ t, X.mg x = some (.int i t)) (hg : Gl X x) (hd : (x == ("__debug__" : Str)) = false := by decide) : PE X (.Name x pos) (tC (.int i)) := by
  obtain ⟨t, h⟩ := h
  exact pe_glob hg h ⟨t, rfl⟩ hd
theorem pe_globS {z : Str} (h : ∃ t, X.mg x = some (.str z t)) (hg : Gl X x) (hd : (x == ("__debug__" : Str)) = false := by decide) : PE X (.Name x pos) (tC (.str z)) := by
  obtain ⟨t, h⟩ := h
  exact pe_glob hg h ⟨t, rfl⟩ hd
end

/-! ### data -/
def tyN : PyData → String
  | .none => "NoneType"
  | .bool _ => "bool"
  | .int _ => "int"
  | .str _ => "str"
  | .list _ => "list"
  | .tuple _ => "tuple"
  | .dict _ => "dict"
theorem dp_ty {K : PySem.W.Frag} {H : Hp} {v : V} {d : PyData} (h : Dp K H v d) : TyX K H v (.type (tyN d)) := by
  cases h with
  | non => exact .base .non
  | bl b => exact .base (.bl b)
  | int i => exact .base (.int i)
  | str x => exact .base (.str x)
  | lst s _ =>
    rcases s with (e | ⟨o, e⟩) | ⟨o, _, _, e, c, _⟩
    · exact .base (.lst e)
    · exact .base (.frz e)
    · exact .kList e c
  | tup s _ =>
    rcases s with (e | ⟨o, e⟩) | ⟨o, _, _, e, c, _⟩
    · exact .base (.tup e)
    · exact .fTuple e
    · exact .kTuple e c
theorem isi_of {K : PySem.W.Frag} {H : Hp} {v : V} {d : PyData} {n : String} {b : Bool} {Q : VK} (h : Dp K H v d) (hk : kitB (tyN d) n = some b) (q : Q (.bl b) H) : rIsi K [v, .ty n] H Q :=
  ⟨v, .ty n, _, _, b, rfl, .ty n, dp_ty h, kit_ty hk, q⟩
def isI : PyData → Bool
  | .int _ => true
  | .bool _ => true
  | _ => false
def isB : PyData → Bool
  | .bool _ => true
  | _ => false
def isS : PyData → Bool
  | .str _ => true
  | _ => false
def isL : PyData → Bool
  | .list _ => true
  | _ => false
def isT : PyData → Bool
  | .tuple _ => true
  | _ => false
theorem kit_int : ∀ d : PyData, kitB (tyN d) "int" = some (isI d)
  | .none => (by decide +kernel : kitB "NoneType" "int" = some false)
  | .bool _ => (by decide +kernel : kitB "bool" "int" = some true)
  | .int _ => (by decide +kernel : kitB "int" "int" = some true)
  | .str _ => (by decide +kernel : kitB "str" "int" = some false)
  | .list _ => (by decide +kernel : kitB "list" "int" = some false)
  | .tuple _ => (by decide +kernel : kitB "tuple" "int" = some false)
  | .dict _ => (by decide +kernel : kitB "dict" "int" = some false)
theorem kit_bool : ∀ d : PyData, kitB (tyN d) "bool" = some (isB d)
  | .none => (by decide +kernel : kitB "NoneType" "bool" = some false)
  | .bool _ => (by decide +kernel : kitB "bool" "bool" = some true)
  | .int _ => (by decide +kernel : kitB "int" "bool" = some false)
  | .str _ => (by decide +kernel : kitB "str" "bool" = some false)
  | .list _ => (by decide +kernel : kitB "list" "bool" = some false)
  | .tuple _ => (by decide +kernel : kitB "tuple" "bool" = some false)
  | .dict _ => (by decide +kernel : kitB "dict" "bool" = some false)
theorem kit_str : ∀ d : PyData, kitB (tyN d) "str" = some (isS d)
  | .none => (by decide +kernel : kitB "NoneType" "str" = some false)
  | .bool _ => (by decide +kernel : kitB "bool" "str" = some false)
  | .int _ => (by decide +kernel : kitB "int" "str" = some false)
  | .str _ => (by decide +kernel : kitB "str" "str" = some true)
  | .list _ => (by decide +kernel : kitB "list" "str" = some false)
  | .tuple _ => (by decide +kernel : kitB "tuple" "str" = some false)
  | .dict _ => (by decide +kernel : kitB "dict" "str" = some false)
theorem kit_list : ∀ d : PyData, kitB (tyN d) "list" = some (isL d)
  | .none => (by decide +kernel : kitB "NoneType" "list" = some false)
  | .bool _ => (by decide +kernel : kitB "bool" "list" = some false)
  | .int _ => (by decide +kernel : kitB "int" "list" = some false)
  | .str _ => (by decide +kernel : kitB "str" "list" = some false)
  | .list _ => (by decide +kernel : kitB "list" "list" = some true)
  | .tuple _ => (by decide +kernel : kitB "tuple" "list" = some false)
  | .dict _ => (by decide +kernel : kitB "dict" "list" = some false)
theorem kit_tuple : ∀ d : PyData, kitB (tyN d) "tuple" = some (isT d)
  | .none => (by decide +kernel : kitB "NoneType" "tuple" = some false)
  | .bool _ => (by decide +kernel : kitB "bool" "tuple" = some false)
  | .int _ => (by decide +kernel : kitB "int" "tuple" = some false)
  | .str _ => (by decide +kernel : kitB "str" "tuple" = some false)
  | .list _ => (by decide +kernel : kitB "list" "tuple" = some false)
  | .tuple _ => (by decide +kernel : kitB "tuple" "tuple" = some true)
  | .dict _ => (by decide +kernel : kitB "dict" "tuple" = some false)

mutual
theorem dp_mono {K : PySem.W.Frag} {H H' : Hp} (e : Same H H') : ∀ (d : PyData) (v : V), Dp K H v d → Dp K H' v d
  | .none, _, h => by cases h; exact .non
  | .bool b, _, h => by cases h; exact .bl b
  | .int i, _, h => by cases h; exact .int i
  | .str x, _, h => by cases h; exact .str x
  | .list ds, _, h => by
    cases h with
    | lst s a =>
      refine .lst ?_ (dpAll_mono e ds _ a)
      rcases s with (s | ⟨o, s⟩) | s
      · exact .inl (.inl (e _ _ s))
      · exact .inl (.inr ⟨o, e _ _ s⟩)
      · exact .inr s
  | .tuple ds, _, h => by
    cases h with
    | tup s a =>
      refine .tup ?_ (dpAll_mono e ds _ a)
      rcases s with (s | ⟨o, s⟩) | s
      · exact .inl (.inl (e _ _ s))
      · exact .inl (.inr ⟨o, e _ _ s⟩)
      · exact .inr s
  | .dict _, _, h => by cases h
theorem dpAll_mono {K : PySem.W.Frag} {H H' : Hp} (e : Same H H') : ∀ (ds : List PyData) (vs : List V), DpAll K H vs ds → DpAll K H' vs ds
  | [], _, h => by cases h; exact .nil
  | d :: ds, _, h => by
    cases h with
    | cons a b => exact .cons (dp_mono e d _ a) (dpAll_mono e ds _ b)
end
theorem dpAll_len {K : PySem.W.Frag} {H : Hp} : ∀ {vs : List V} {ds : List PyData}, DpAll K H vs ds → vs.length = ds.length
  | _, _, .nil => rfl
  | _, _, .cons _ h => congrArg (· + 1) (dpAll_len h)
theorem dpAll_app {K : PySem.W.Frag} {H : Hp} : ∀ {vs us : List V} {ds es : List PyData}, DpAll K H vs ds → DpAll K H us es → DpAll K H (vs ++ us) (ds ++ es)
  | _, _, _, _, .nil, h => h
  | _, _, _, _, .cons a b, h => .cons a (dpAll_app b h)
theorem dpAll_get {K : PySem.W.Frag} {H : Hp} : ∀ {vs : List V} {ds : List PyData} {i : Nat} {v : V}, DpAll K H vs ds → vs[i]? = some v → ∃ d, ds[i]? = some d ∧ Dp K H v d
  | _, _, _, _, .nil, h => by simp at h
  | _, _, 0, _, .cons a _, h => by
    simp at h
    subst h
    exact ⟨_, rfl, a⟩
  | _, _, i + 1, _, .cons _ b, h => by
    obtain ⟨d, e, q⟩ := dpAll_get (i := i) b (by simpa using h)
    exact ⟨d, by simpa using e, q⟩

theorem dpInts {K : PySem.W.Frag} {H : Hp} : ∀ ns : List Int, DpAll K H (ns.map V.int) (ns.map PyData.int)
  | [] => .nil
  | n :: ns => .cons (.int n) (dpInts ns)
theorem canLay_ints : ∀ ns : List Int, PyData.canLayAll0 (ns.map PyData.int) = true
  | [] => by simp only [List.map_nil, PyData.canLayAll0]
  | n :: ns => by simp only [List.map_cons, PyData.canLayAll0, PyData.canLay0, canLay_ints ns, Bool.and_self]
theorem depth_ints : ∀ ns : List Int, PyData.depthAll (ns.map PyData.int) ≤ 1
  | [] => by simp only [List.map_nil, PyData.depthAll]; omega
  | n :: ns => by
    have := depth_ints ns
    simp only [List.map_cons, PyData.depthAll, PyData.depth]
    omega
theorem shaped_ints (ns : List Int) : SeqAt.shaped (.list (ns.map PyData.int)) = true := by
  have h := depth_ints ns
  have h2 : (PyData.list (ns.map PyData.int)).depth ≤ 64 := by
    simp only [PyData.depth]
    omega
  unfold SeqAt.shaped
  simp only [PyData.canLay0, canLay_ints ns, Bool.true_and]
  exact decide_eq_true h2
theorem upd_get {H : Hp} {p b : Addr} {o u : HO} (hp : H p = none) (h : H b = some u) : upd H p o b = some u := by
  rw [upd_ne (ne_of_none h hp)]
  exact h

/-! ### heaps but for two places -/
def off (d c : Addr) (H : Hp) : Hp := fun b => if b = d ∨ b = c then none else H b
theorem off_same {d c : Addr} {H : Hp} : Same (off d c H) H := fun b o h => by
  unfold off at h
  split at h
  · cases h
  · exact h
theorem off_get {d c b : Addr} {H : Hp} (h1 : b ≠ d) (h2 : b ≠ c) : off d c H b = H b := if_neg (fun z => z.elim h1 h2)
def Ext (d c : Addr) (H H' : Hp) : Prop := Same (off d c H) (off d c H')
theorem Ext.refl {d c : Addr} (H : Hp) : Ext d c H H := fun _ _ h => h
theorem Ext.trans {d c : Addr} {H H1 H2 : Hp} (a : Ext d c H H1) (b : Ext d c H1 H2) : Ext d c H H2 := fun x o h => b x o (a x o h)
theorem Ext.d {d c : Addr} {H : Hp} {o : HO} : Ext d c H (upd H d o) := fun b u h => by
  unfold off at h ⊢
  split at h
  · cases h
  · rename_i n
    rw [if_neg n, upd_ne (fun z => n (.inl z))]
    exact h
theorem Ext.c {d c : Addr} {H : Hp} {o : HO} : Ext d c H (upd H c o) := fun b u h => by
  unfold off at h ⊢
  split at h
  · cases h
  · rename_i n
    rw [if_neg n, upd_ne (fun z => n (.inr z))]
    exact h
theorem Ext.new {d c p : Addr} {H : Hp} {o : HO} (hp : H p = none) : Ext d c H (upd H p o) := fun b u h => by
  unfold off at h ⊢
  split at h
  · cases h
  · rename_i n
    rw [if_neg n, upd_ne (ne_of_none h hp)]
    exact h
/-- an object that was not there may change -/
theorem Ext.mut {d c p : Addr} {H H' : Hp} {o : HO} (e : Ext d c H H') (hp : H p = none) : Ext d c H (upd H' p o) := fun b u h => by
  have h1 := e b u h
  unfold off at h h1 ⊢
  split at h
  · cases h
  · rename_i n
    rw [if_neg n] at h1
    rw [if_neg n, upd_ne (ne_of_none h hp)]
    exact h1
theorem Ext.at {d c b : Addr} {H H' : Hp} {o : HO} (e : Ext d c H H') (h1 : b ≠ d) (h2 : b ≠ c) (h : H b = some o) : H' b = some o := by
  have := e b o ((off_get h1 h2).trans h)
  rw [off_get h1 h2] at this
  exact this
/-- of H' what H had not -/
def news (H H' : Hp) : Hp := fun b => if (H b).isSome = true then none else H' b
theorem news_get {H H' : Hp} {b : Addr} {o : HO} : news H H' b = some o ↔ H b = none ∧ H' b = some o := by
  unfold news
  cases h : H b with
  | none => simp
  | some u => simp
theorem news_same {H H' : Hp} : Same (news H H') H' := fun b o h => (news_get.mp h).2
theorem Ext.sqL {K : PySem.W.Frag} {d c : Addr} {H H' : Hp} {a : Addr} {xs : List V} (e : Ext d c H H') (h : SqL K (off d c H) a xs) : SqL K (off d c H') a xs := Same.seq e h
theorem offL {K : PySem.W.Frag} {d c : Addr} {H : Hp} {a : Addr} {xs : List V} (h : SqL K (off d c H) a xs) : SqL K H a xs := Same.seq off_same h
theorem offD {K : PySem.W.Frag} {d c : Addr} {H : Hp} {v : V} {D : PyData} (h : Dp K (off d c H) v D) : Dp K H v D := dp_mono off_same D v h
theorem Ext.dp {K : PySem.W.Frag} {d c : Addr} {H H' : Hp} {v : V} {D : PyData} (e : Ext d c H H') (h : Dp K (off d c H) v D) : Dp K (off d c H') v D := dp_mono e D v h
theorem tyes {σ : L2.St} {H : Hp} {A B : Hp → Prop} (h : A H) : tYes σ H fun b H3 => if b = true then A H3 else B H3 := by
  show if true = true then A H else B H
  exact iteT h
/-! ### texts -/
abbrev cp (z : Str) : List Nat := z.cps.toList
theorem cp_len (z : Str) : (cp z).length = z.length := by unfold cp; simp [Str.length]
theorem cp_app (a b : Str) : cp (a ++ b) = cp a ++ cp b := by
  unfold cp
  rw [Str.cps_append, Array.toList_append]
theorem cp_ext {a b : Str} (h : cp a = cp b) : a = b := Str.ext' (Array.toList_inj.mp h)
structure OkS (m : Nat) (z : Str) : Prop where
  len : z.length ≤ m
  cps : ∀ c ∈ cp z, c < 128
theorem OkS.up {m n : Nat} {z : Str} (h : OkS m z) (hn : m ≤ n) : OkS n z := ⟨Nat.le_trans h.len hn, h.cps⟩
theorem OkS.app {m n : Nat} {a b : Str} (h : OkS m a) (g : OkS n b) : OkS (m + n) (a ++ b) := by
  refine ⟨?_, fun c hc => ?_⟩
  · rw [Str.length_append]
    have := h.len
    have := g.len
    omega
  · rw [cp_app] at hc
    rcases List.mem_append.mp hc with q | q
    · exact h.cps c q
    · exact g.cps c q
theorem OkS.cut {m : Nat} {z : Str} (h : OkS m z) (lo hi : Option Int) : OkS m (cutS z lo hi) := by
  have e : cp (cutS z lo hi) = ((cp z).drop (HT.sIx z.length 0 lo)).take (HT.sIx z.length z.length hi - HT.sIx z.length 0 lo) := by
    unfold cutS cp
    simp
  refine ⟨?_, fun c hc => ?_⟩
  · rw [← cp_len, e, List.length_take, List.length_drop, cp_len]
    have := h.len
    omega
  · rw [e] at hc
    exact h.cps c (List.mem_of_mem_drop (List.mem_of_mem_take hc))
theorem OkS.one {c : Nat} (h : c < 128) : OkS 1 ⟨#[c]⟩ := ⟨by simp [Str.length], fun x hx => by simp [cp] at hx; omega⟩
theorem OkS.repr {m : Nat} {z : Str} (h : OkS m z) : (reprText z).length ≤ 10 * m + 2 := by
  have h1 := StrLaws.reprText_len z (fun c hc => Nat.lt_of_lt_of_le (h.cps c hc) (by decide))
  have := h.len
  omega
theorem cp_join0 : ∀ l : List Str, cp (Str.join "" l) = (l.map cp).flatten
  | [] => rfl
  | [x] => by
    show cp x = _
    simp
  | x :: y :: r => by
    show cp (x ++ "" ++ Str.join "" (y :: r)) = _
    rw [cp_app, cp_app, cp_join0 (y :: r)]
    have e : cp ("" : Str) = [] := rfl
    rw [e]
    simp
theorem cp_joinT (l : List Str) : cp (Txt.join "" l) = (l.map cp).flatten := by
  rw [eq_of_beq (join_plain_closes "" l)]
  exact cp_join0 l
end HG

set_option maxHeartbeats 4000000
/-! HH: a head's facts by a Hook with one more Bool; written dicts with text keys; written tuples. -/
namespace HG
open PySem PySem.Spec PyProof.Rows L2

/-! ### the Hook -/
abbrev AlB : Type := He.AlT × Bool
def obsB (fa : List He.Fa) (fn : List He.DefD) (ts : List He.Tab) (bx : PySem.W.Frag → Bool) (K : PySem.W.Frag) : AlB := (He.obsT fa fn ts K, bx K)
def obsBG (n : Nat) (fa : List He.Fa) (fn : List He.DefD) (ts : List He.Tab) (bx : PySem.W.Frag → Bool) (g : Addr → Option Obj) : AlB := obsB fa fn ts bx (He.frG g (He.asD g n))
def SaysB (fa : List He.Fa) (fn : List He.DefD) (ts : List He.Tab) (bx : PySem.W.Frag → Bool) (w : World) (K : PySem.W.Frag) : Prop := obsB fa fn ts bx K = (He.valT fn ts w, true)
def hookB (n : Nat) (fa : List He.Fa) (fn : List He.DefD) (ts : List He.Tab) (bx : PySem.W.Frag → Bool) : PySem.W.Hook where
  α := AlB
  obs := fun s => obsBG n fa fn ts bx s.heap.get?
  val := fun w => (He.valT fn ts w, true)
  says := fun w h => ∃ K : PySem.W.Frag, K.In h ∧ SaysB fa fn ts bx w K
  of := fun _ _ e => ⟨_, He.frG_in, e⟩
  keeps := fun _ _ _ ⟨K, hK, c⟩ k => ⟨K, PySem.W.Frag.In.keeps hK k, c⟩
theorem obsBG_eq {n : Nat} {fa : List He.Fa} {fn : List He.DefD} {ts : List He.Tab} {bx : PySem.W.Frag → Bool} {g : Addr → Option Obj} {s : Shared} (h : ∀ a, g a = s.heap.get? a) :
    obsBG n fa fn ts bx g = (hookB n fa fn ts bx).obs s := by
  have e : g = s.heap.get? := funext h
  rw [e]
  rfl
section
variable {fa : List He.Fa} {fn : List He.DefD} {ts : List He.Tab} {bx : PySem.W.Frag → Bool} {w : World} {K : PySem.W.Frag}
theorem SaysB.t (c : SaysB fa fn ts bx w K) : He.SaysT fa fn ts w K := congrArg (fun z : AlB => z.1) c
theorem SaysB.d (c : SaysB fa fn ts bx w K) : He.SaysD fa fn K := c.t.d
theorem SaysB.b (c : SaysB fa fn ts bx w K) : bx K = true := congrArg (fun z : AlB => z.2) c
end

/-! ### a written dict with text keys -/
structure KTab (K : PySem.W.Frag) (w : World) (a : Addr) (kvs : List (Str × V)) : Prop where
  dict : ∃ es n, KDict K w a es n
  hit : ∀ q ∈ kvs, ∃ u, PySem.W.nsIn K a q.1 = some (some u) ∧ RelV q.2 u
  miss : ∀ z : Str, z ∉ kvs.map (·.1) → PySem.W.nsIn K a z = some none
theorem keys_mem {P : Params} : ∀ {l : List DictEntry} {ks : List Str}, l.map He.keyOf = He.keysIn P ks → ∀ e ∈ l, ∃ x t, e.key = .str x t ∧ x ∈ ks
  | [], _, _, e, he => nomatch he
  | e :: r, [], h, _, _ => by cases h
  | e :: r, k :: ks, h, d, hd => by
    have h1 : He.keyOf e :: r.map He.keyOf = some (k, PyData.keyHash P k) :: He.keysIn P ks := h
    injection h1 with h2 h3
    rcases List.mem_cons.mp hd with rfl | hd
    · unfold He.keyOf at h2
      split at h2
      · rename_i x t q
        have h4 := Option.some.inj h2
        obtain ⟨h5, h6⟩ := Prod.mk.inj h4
        exact ⟨x, t, q, by rw [h5]; exact List.mem_cons_self⟩
      · cases h2
    · obtain ⟨x, t, q, hx⟩ := keys_mem h3 d hd
      exact ⟨x, t, q, List.mem_cons_of_mem _ hx⟩
theorem ns_miss {K : PySem.W.Frag} {P : Params} {a : Addr} {ks : List Str} (h : He.dicW K a = some (He.keysIn P ks)) {z : Str} (hz : z ∉ ks) : PySem.W.nsIn K a z = some none := by
  unfold He.dicW at h
  cases q : K.lookup a with
  | none =>
    rw [q] at h
    cases h
  | some o =>
    obtain ⟨oc, od, dt, osl⟩ := o
    rw [q] at h
    cases oc with
    | type c =>
      cases od with
      | none =>
        cases dt with
        | dict es n =>
          have h1 : (match decide (c = "dict") && (osl.isEmpty && !(a == sysModules)) with
            | true => some (es.toList.map He.keyOf)
            | false => none) = some (He.keysIn P ks) := h
          have h2 : es.toList.map He.keyOf = He.keysIn P ks := by
            cases y : decide (c = "dict") && (osl.isEmpty && !(a == sysModules)) with
            | false =>
              rw [y] at h1
              cases h1
            | true =>
              rw [y] at h1
              exact Option.some.inj h1
          have hk := keys_mem h2
          unfold PySem.W.nsIn
          rw [q]
          have e1 : es.toList.find? (·.key.isStr z) = none := by
            rw [List.find?_eq_none]
            intro e he
            obtain ⟨x, t, ex, hx⟩ := hk e he
            rw [ex]
            show ¬ (Value.str x t).isStr z = true
            intro hs
            have : x = z := by
              first
                | exact (beq_iff_eq.mp hs)
                | exact of_decide_eq_true hs
                | (simp [Value.isStr] at hs; exact hs)
            exact hz (this ▸ hx)
          have e2 : es.toList.any (·.refKey) = false := by
            rw [List.any_eq_false]
            intro e he
            obtain ⟨x, t, ex, hx⟩ := hk e he
            unfold DictEntry.refKey
            rw [ex]
            simp
          show (match es.toList.find? (·.key.isStr z) with
            | some e => some (some e.val)
            | none => if es.toList.any (·.refKey) then none else some none) = some none
          rw [e1, e2]
          rfl
        | _ => cases h
      | some b => cases dt <;> cases h
    | _ => cases od <;> cases dt <;> cases h
theorem ktab_mk {fa : List He.Fa} {fn : List He.DefD} {ts : List He.Tab} {bx : PySem.W.Frag → Bool} {w : World} {K : PySem.W.Frag} (c : SaysB fa fn ts bx w K) (i : Nat) {t : He.Tab} {kvs : List (Str × He.Dv)}
    (h : ts[i]? = some t) (hk : t.2 = kvs.map (·.1)) (hv : He.valsB K (t.1 K) kvs = true) : KTab K w (t.1 K) (kvs.map fun q => (q.1, q.2.v K)) := by
  have e : ts.map (fun t => He.dicW K (t.1 K)) = ts.map fun t => some (He.keysIn w.params t.2) := congrArg (fun z : He.AlT => z.2) c.t
  have e2 : (ts.map fun t => He.dicW K (t.1 K))[i]? = (ts.map fun t => some (He.keysIn w.params t.2))[i]? := by rw [e]
  rw [List.getElem?_map, List.getElem?_map, h] at e2
  have e3 := Option.some.inj e2
  refine ⟨He.dicW_ok e3, fun q hq => ?_, fun z hz => ns_miss e3 ?_⟩
  · obtain ⟨p, hp, rfl⟩ := List.mem_map.mp hq
    exact He.valsB_ok hv hp
  · rw [hk]
    rw [List.map_map] at hz
    exact hz
def tabGet (kvs : List (Str × V)) (z : Str) : Option V := (kvs.find? fun q => decide (q.1 = z)).map (·.2)
section
variable {X : Cx} {a : Addr} {kvs : List (Str × V)}
theorem ktab_get {K : PySem.W.Frag} {w : World} (T : KTab K w a kvs) (z : Str) : (∃ v u, tabGet kvs z = some v ∧ PySem.W.nsIn K a z = some (some u) ∧ RelV v u) ∨ (tabGet kvs z = none ∧ PySem.W.nsIn K a z = some none) := by
  unfold tabGet
  cases e : kvs.find? fun q => decide (q.1 = z) with
  | none =>
    refine .inr ⟨rfl, T.miss z fun hz => ?_⟩
    obtain ⟨q, hq, rfl⟩ := List.mem_map.mp hz
    have := List.find?_eq_none.mp e q hq
    simp at this
  | some q =>
    have h1 : q.1 = z := by simpa using List.find?_some e
    obtain ⟨u, h2, h3⟩ := T.hit q (List.mem_of_find?_eq_some e)
    rw [h1] at h2
    exact .inl ⟨q.2, u, rfl, h2, h3⟩
/-- z in TABLE -/
theorem op_in_tab (T : KTab X.K X.w a kvs) : OpR X (compareOp .In) (fun x y H Q => ∃ z : Str, x = .str z ∧ y = .ref a ∧ Q (.bl (tabGet kvs z).isSome) H) := by
  obtain ⟨es, n, D⟩ := T.dict
  intro pins s σ H x y v u Q I rx ry h
  obtain ⟨z, rfl, rfl, q⟩ := h
  rcases ktab_get T z with ⟨v0, u0, e1, e2, _⟩ | ⟨e1, e2⟩
  · rw [e1] at q
    exact op_in_kd D pins s σ H _ _ v u Q I rx ry ⟨z, _, rfl, rfl, e2, q⟩
  · rw [e1] at q
    exact op_in_kd D pins s σ H _ _ v u Q I rx ry ⟨z, _, rfl, rfl, e2, q⟩
theorem op_notIn_tab (T : KTab X.K X.w a kvs) : OpR X (compareOp .NotIn) (fun x y H Q => ∃ z : Str, x = .str z ∧ y = .ref a ∧ Q (.bl (!(tabGet kvs z).isSome)) H) := by
  obtain ⟨es, n, D⟩ := T.dict
  intro pins s σ H x y v u Q I rx ry h
  obtain ⟨z, rfl, rfl, q⟩ := h
  rcases ktab_get T z with ⟨v0, u0, e1, e2, _⟩ | ⟨e1, e2⟩
  · rw [e1] at q
    exact op_notIn_kd D pins s σ H _ _ v u Q I rx ry ⟨z, _, rfl, rfl, e2, q⟩
  · rw [e1] at q
    exact op_notIn_kd D pins s σ H _ _ v u Q I rx ry ⟨z, _, rfl, rfl, e2, q⟩
/-- TABLE[z] -/
theorem ix_tab (T : KTab X.K X.w a kvs) : IxR X (fun x y H Q => ∃ (z : Str) (v : V), x = .ref a ∧ y = .str z ∧ tabGet kvs z = some v ∧ Q v H) := by
  intro value slice pins s σ H x y v u Q I rx ry h hs
  obtain ⟨z, v1, rfl, rfl, e, q⟩ := h
  obtain ⟨es, n, D⟩ := T.dict
  rcases ktab_get T z with ⟨v0, u0, e1, e2, e3⟩ | ⟨e1, e2⟩
  · rw [e] at e1
    cases e1
    exact ix_kdict value slice pins s σ H _ _ v u Q I rx ry ⟨a, z, v1, rfl, rfl, ⟨es, n, u0, D.at_, D.lit, e2, e3⟩, q⟩ hs
  · rw [e] at e1
    cases e1
end

/-! ### a written tuple of plain things -/
def tupB (K : PySem.W.Frag) (x : Str) (ds : List He.Dv) : Bool := match K.lookup (He.ga K x) with
  | some ⟨.type "tuple", _, .seq its _, _⟩ => He.relAll (ds.map (He.Dv.v K)) its.toList && decide (its.size ≤ 1000)
  | _ => false
theorem tupB_ok {K : PySem.W.Frag} {x : Str} {ds : List He.Dv} (h : tupB K x ds = true) (H : Hp) : SqT K H (He.ga K x) (ds.map (He.Dv.v K)) := by
  unfold tupB at h
  split at h
  · rename_i od its n sl q
    obtain ⟨h1, h2⟩ := He.ba h
    exact .inr ⟨_, its, n, q, rfl, rfl, Nat.le_trans (of_decide_eq_true h2) (by decide), He.relAll_ok h1⟩
  · cases h
end HG

set_option maxHeartbeats 4000000
/-! HX: more rules: x is True of any value, text * int, {None: .., True: .., False: ..}[x], len(set(texts)). -/
namespace HG
open PySem PySem.Spec PyProof.Rows L2
section
variable {X : Cx}
/-- x is True, x is False -/
theorem op_isTF : OpR X (compareOp .Is) (fun x y H Q => ∃ b : Bool, y = .bl b ∧ Q (.bl (decide (x = .bl b))) H) := by
  intro pins s σ H x y v u Q I rx ry h
  obtain ⟨b, rfl, q⟩ := h
  cases (show u = Value.bool b from ry)
  by_cases e : x = .bl b
  · subst e
    cases (show v = Value.bool b from rx)
    exact wpAny_is_self rfl ⟨.bl true, H, I, rfl, by simpa using q⟩
  · have q' : Q (.bl false) H := by simpa [e] using q
    cases x with
    | non => cases rx; exact wpAny_is_other rfl (fun z => nomatch z) ⟨.bl false, H, I, rfl, q'⟩
    | bl a => cases rx; exact wpAny_is_other rfl (fun z => e (congrArg V.bl (Value.bool.inj z))) ⟨.bl false, H, I, rfl, q'⟩
    | int i => obtain ⟨t, rfl⟩ := rx; exact wpAny_is_other rfl (fun z => nomatch z) ⟨.bl false, H, I, rfl, q'⟩
    | str i => obtain ⟨t, rfl⟩ := rx; exact wpAny_is_other rfl (fun z => nomatch z) ⟨.bl false, H, I, rfl, q'⟩
    | byt i => obtain ⟨t, rfl⟩ := rx; exact wpAny_is_other rfl (fun z => nomatch z) ⟨.bl false, H, I, rfl, q'⟩
    | flt i => obtain ⟨t, rfl⟩ := rx; exact wpAny_is_other rfl (fun z => nomatch z) ⟨.bl false, H, I, rfl, q'⟩
    | ref i => cases rx; exact wpAny_is_other rfl (fun z => nomatch z) ⟨.bl false, H, I, rfl, q'⟩
    | ty i => cases rx; exact wpAny_is_other rfl (fun z => nomatch z) ⟨.bl false, H, I, rfl, q'⟩
/-- text * int -/
theorem op_mul_str : OpR X (binaryOp .Mult) (fun x y H Q => ∃ (z : Str) (n : Int), x = .str z ∧ y = .int n ∧ MulOk z n ∧ Q (.str (Txt.mul z n)) H) := by
  intro pins s σ H x y v u Q I rx ry h
  obtain ⟨z, n, rfl, rfl, ok, q⟩ := h
  obtain ⟨t, rfl⟩ := rx
  obtain ⟨t', rfl⟩ := ry
  exact SB.mul ok fun t' k => ⟨.str _, H, I.tok _, ⟨_, rfl⟩, q⟩
end
theorem mulOk_of {z : Str} {n : Int} (h0 : 0 ≤ n) (h : z.length * n.toNat ≤ 1000000) (hn : n < 2 ^ 40) (hz : z.length ≤ 1000000) : MulOk z n := by
  refine ⟨?_, fun h1 _ h2 => ?_, fun h1 _ => ?_⟩
  · rw [decide_eq_false (by omega), decide_eq_false (by omega)]
    rfl
  · have h3 : (1000000 : Int) ≤ (2 ^ 63 - 1) / n := by
      refine (Int.le_ediv_iff_mul_le (by omega)).mpr ?_
      omega
    omega
  · show decide (_ > _) = false
    refine decide_eq_false ?_
    rw [show (sizeLine : Nat) = 16777216 from sizeLine_eq]
    omega

theorem call_reprK {X : Cx} {K : PySem.W.Frag} (hK : X.K = K) (hgd : X.A.guards = some []) (hr : Room 0 X.A) : CallR X (.builtin "repr") (rRepr K) := by
  subst hK
  exact call_repr hgd hr
/-! ### keywords alone -/
theorem kbn0 {K : PySem.W.Frag} {x qual : Str} {params : Arguments} {body : List Stmt} {scope : Scope} {kws : List (Str × V)} {f : Addr} {fd : FuncData} {ks ps : List Str} {g : List Value → List Value} {gV : List V → List V}
    (F : FunD K x qual params body scope [] kws f fd)
    (h : ∀ (kV doc pm : Value) (an : Option Addr) (cdv ct : Value) (ws : List Value), ws.length = ks.length → bindArgs (PySem.W.fnOf x qual params body scope .none kV doc pm an cdv ct) ⟨[], ks.zip ws⟩ = pure (ps.zip (g ws)))
    (rel : ∀ {zs : List V} {ws : List Value}, Vals zs ws → Vals (gV zs) (g ws)) : KBn K fd ps 0 ks (fun _ ws => g ws) (fun _ zs => gV zs) := by
  obtain ⟨oc, od, dV, kV, doc, pm, an, cdv, ct, osl, rfl, lk, hcd, hD, hK⟩ := F.ex
  rcases hD with ⟨_, rfl⟩ | ⟨e, _⟩
  · refine ⟨fun s us ws _ hu hw => ?_, fun _ r => rel r⟩
    obtain rfl : us = [] := List.length_eq_zero_iff.mp hu
    exact .of_eq (h kV doc pm an cdv ct ws hw)
  · exact absurd rfl e

/-! ### objects made by a class of the top -/
structure MkC (P : Program) (w : World) (K : PySem.W.Frag) (mg : Str → Option Value) (base : Heap) (x : Str) (k : Nat) (sp : Sp) : Prop where
  ex : ∃ (f : Addr) (fd : FuncData) (ps : List Str), Mk K (He.ga K x) f ∧ FnOk P w K mg base CX0 k f fd ps sp ∧ Binds K fd ps []
  gl : mg x = some (.ref (He.ga K x))
theorem pe_mk {X : Cx} {k : Nat} {x : Str} {sp : Sp} {p pos : Pos} {e : Expr} {es : List Expr} {t : TA} (C : MkC X.prog X.w X.K X.mg X.base x k sp) (hr : Room (k + 1) X.A) (hg : Gl X x) (ha : PA X (e :: es) t)
    (hdb : (x == ("__debug__" : Str)) = false := by decide)
    (he : starEach (e :: es) X.env = (false, eval e X.env) :: starEach es X.env := by rfl)
    (hpl : (backTo pos (starEach es X.env)).any (·.1) = false := by rfl) : PE X (.Call (.Name x p) (e :: es) [] pos) (tMake (He.ga X.K x) sp [] E0 t) := by
  obtain ⟨f, fd, ps, M, F, b⟩ := C.ex
  exact pe_make M F hr hg C.gl b .nil pass0 ha hdb he hpl

/-! ### None and bools as keys -/
def nbV : Option Bool → V
  | none => .non
  | some b => .bl b
def nbIs : Option Bool → Value → Bool
  | none, .none => true
  | none, _ => false
  | some k, v => PpSet.isB k v
theorem nb_none {v : Value} (h : nbIs none v = true) : v = .none := by
  cases v with
  | none => rfl
  | _ => exact nomatch (show false = true from h)
def nbU : Option Bool → Value
  | none => .none
  | some b => .bool b
theorem nb_shape {k : Option Bool} {v : Value} (h : nbIs k v = true) : v = nbU k := by
  cases k with
  | none => exact nb_none h
  | some b => exact PpSet.isB_shape h
theorem nb_of {k : Option Bool} {v : Value} (h : RelV (nbV k) v) : nbIs k v = true := by
  cases k with
  | none => cases (show v = Value.none from h); rfl
  | some b => cases (show v = Value.bool b from h); exact beq_self_eq_true b
def nbKind (prog : Program) (w : World) : PySem.KeyKind prog w (Option Bool) where
  is := nbIs
  hash := fun k => match k with
    | none => reduceHash 0xFCA86420
    | some k => PpSet.hB k
  inj := fun v a b ha hb => by
    have e1 := nb_shape ha
    have e2 := nb_shape hb
    rw [e1] at e2
    cases a with
    | none => cases b with
      | none => rfl
      | some _ => cases e2
    | some x => cases b with
      | none => cases e2
      | some y => exact congrArg some (Value.bool.inj e2)
  byValue := fun k v h => by
    rw [nb_shape h]
    cases k <;> rfl
  pyHash := @fun A E s k v Q hv h => by
    cases k with
    | none =>
      have e := nb_none hv
      subst e
      exact PySem.W.pyHash_slot (T := "NoneType") rfl PySem.F.slot_NoneType_hash PySem.F.entry_NoneType_hash (PySem.F.args_NoneType_hash_1 _) (beq_builtin_none _) (.inl rfl) (wpAny_bind (wpAny_pure (wpAny_bind (wpAny_mkInt (wpAny_pure ⟨_, _, rfl, h⟩)))))
    | some k => exact (PpSet.boolK prog w).pyHash (k := k) hv h
  eqBool := @fun A E s a b u v Q hu hv h => by
    have e1 := nb_shape hu
    have e2 := nb_shape hv
    subst e1 e2
    cases a with
    | none =>
      cases b with
      | none =>
        rw [decide_eq_true rfl] at h
        exact SeqAt.EqAt.same _ _ _ _ _ h
      | some k =>
        rw [decide_eq_false (fun z => nomatch z)] at h
        exact SeqAt.EqAt.none_bool k _ _ _ _ h
    | some k =>
      cases b with
      | none =>
        rw [decide_eq_false (fun z => nomatch z)] at h
        exact SeqAt.EqAt.bool_none k _ _ _ _ h
      | some j =>
        have e : decide ((some k : Option Bool) = some j) = (k == j) := by cases k <;> cases j <;> rfl
        rw [e] at h
        exact SeqAt.EqAt.bool_bool k j _ _ _ _ h
  «strs» := fun k x t v h => by
    cases k with
    | none => exact nomatch (show false = true from h)
    | some k => exact absurd h Bool.false_ne_true
abbrev NB (P : Program) (w : World) (a : Addr) (vs : List (Option Bool × Value)) : HO := .ext fun h => h.DictOf (nbKind P w) a vs
theorem nb_new {P : Program} {w : World} {H : Hp} {h : Heap} {a : Addr} {vs : List (Option Bool × Value)} (R : h.DictOf (nbKind P w) a vs) : ObjOk P w H h a (NB P w a vs) := by
  refine ⟨R, ?_, fun h1 h2 p k => ?_⟩
  · obtain ⟨o, _, _, ho, _⟩ := R
    exact ⟨o, ho⟩
  · obtain ⟨o, es, ep, ho, r⟩ := p
    exact ⟨o, es, ep, k o ho, r⟩
/-- {None: 'x', True: 'y', False: 'z'}[e] -/
def tNb3 (x y z : Str) (te : TE) : TE := fun σ H Q => ∀ (p : Addr) (o : HO), H p = none → te σ (upd H p o) fun v H2 => H2 p = some o ∧ ∃ k : Option Bool, v = nbV k ∧ Q (.str (match k with | none => x | some true => y | some false => z)) H2
section
variable {X : Cx}
theorem pe_nb3 {x y z : Str} {e : Expr} {te : TE} {p1 p2 p3 p4 p5 p6 p7 pos : Pos} {k4 k5 k6 k7 k8 k9 : Nat} (he : PE X e te) (hs : NoSl e) :
    PE X (.Subscript (.Dict [some (.Constant .none k4 p1), some (.Constant (.bool true) k5 p2), some (.Constant (.bool false) k6 p3)] [.Constant (.str x) k7 p4, .Constant (.str y) k8 p5, .Constant (.str z) k9 p6] p7) e pos) (tNb3 x y z te) := by
  refine ⟨fun pins s σ H Q I h => ?_⟩
  refine subD_of PySem.F.slot_dict_getitem.lookup hs ?_
  have hn := I.hok.fresh (Nat.le_refl s.heap.objs.size)
  have I1 := I.laid (a := s.heap.objs.size) (o := NB X.prog X.w s.heap.objs.size []) (h' := s.heap.push { cls := .type "dict", data := .dict #[] }) (t' := s.toks) (fun _ _ q => Heap.get?_push_of_some _ q) (Nat.le_refl _) (nb_new (Heap.DictOf.new _))
  have PP : PPs X p7 [some (.Constant .none k4 p1), some (.Constant (.bool true) k5 p2), some (.Constant (.bool false) k6 p3)] [.Constant (.str x) k7 p4, .Constant (.str y) k8 p5, .Constant (.str z) k9 p6]
      [(tC .non, tC (.str x)), (tC (.bl true), tC (.str y)), (tC (.bl false), tC (.str z))] := pps_cons pe_non pe_str (pps_cons pe_bl pe_str (pps_cons pe_bl pe_str pps_nil))
  refine wpAny_Dict_walk (knd := nbKind X.prog X.w) rfl rfl (fun z => nomatch z) (show 3 ≤ 15 by decide) ?_
  refine thn (PP.run pins _ σ _ (fun ps H2 => ps = [(.non, .str x), (.bl true, .str y), (.bl false, .str z)] ∧ H2 = upd H s.heap.objs.size (NB X.prog X.w s.heap.objs.size [])) I1 ⟨rfl, rfl⟩) ?_
  rintro ws s2 ⟨ps, H2, I2, rel, rfl, rfl⟩
  cases rel with
  | @cons _ a1 _ _ r1 rel =>
  cases rel with
  | @cons _ a2 _ _ r2 rel =>
  cases rel with
  | @cons _ a3 _ _ r3 rel =>
  cases rel
  obtain ⟨c1, d1⟩ := a1
  obtain ⟨c2, d2⟩ := a2
  obtain ⟨c3, d3⟩ := a3
  have dd := (I2.hok _ _ upd_same).1
  refine ⟨[(none, d1), (some true, d2), (some false, d3)], ⟨nb_of (k := none) r1.1, rfl, nb_of (k := some true) r2.1, rfl, nb_of (k := some false) r3.1, rfl, trivial⟩, dd, fun h' dd' hsb => ?_⟩
  have em : merged [] [((none : Option Bool), d1), (some true, d2), (some false, d3)] = [(none, d1), (some true, d2), (some false, d3)] := rfl
  rw [em] at dd'
  have he' : ∃ q, h'.get? s.heap.objs.size = some q := let ⟨q, _, _, hq, _⟩ := dd'; ⟨q, hq⟩
  have I3 := d_write (t' := s2.toks + 3) (ob := NB X.prog X.w s.heap.objs.size [(none, d1), (some true, d2), (some false, d3)]) I2 (by rw [upd_same]; exact True.intro) hsb he' (nb_new dd')
  have eu : upd (upd H s.heap.objs.size (NB X.prog X.w s.heap.objs.size [])) s.heap.objs.size (NB X.prog X.w s.heap.objs.size [(none, d1), (some true, d2), (some false, d3)]) = upd H s.heap.objs.size (NB X.prog X.w s.heap.objs.size [(none, d1), (some true, d2), (some false, d3)]) := by
    funext b
    by_cases e : b = s.heap.objs.size
    · subst e; rw [upd_same, upd_same]
    · rw [upd_ne e, upd_ne e, upd_ne e]
  rw [eu] at I3
  refine thn (he.run pins _ σ _ _ I3 (h _ _ hn)) ?_
  rintro iv s3 ⟨v, H3, I4, rv, h3, k, rfl, q⟩
  have D3 : s3.heap.DictOf (nbKind X.prog X.w) s.heap.objs.size [(none, d1), (some true, d2), (some false, d3)] := (I4.hok _ _ h3).1
  refine ⟨D3.mapOf.typeIs, ?_⟩
  cases k with
  | none => exact wpAny_getItem_of (k := none) (nb_of rv) D3.mapOf rfl ⟨.str x, H3, I4.tok _, r1.2, q⟩
  | some b =>
    cases b with
    | true => exact wpAny_getItem_of (k := some true) (nb_of rv) D3.mapOf rfl ⟨.str y, H3, I4.tok _, r2.2, q⟩
    | false => exact wpAny_getItem_of (k := some false) (nb_of rv) D3.mapOf rfl ⟨.str z, H3, I4.tok _, r3.2, q⟩
end
end HG

set_option maxHeartbeats 4000000
/-! HM: for k, x in enumerate(tuple). -/
namespace HG
open PySem PySem.Spec PyProof.Rows L2
theorem meets_enumerate_newT (t : Addr) (items : Array Value) (n : Nat) (dct : Option Addr) (sl : Array (Option Value)) :
    Meets (Builtin.«enumerate.__new__» ⟨[.type "enumerate", .ref t], []⟩) (fun _ R s => s.heap.get? t = some { cls := .type "tuple", dict := dct, data := .seq items n, slots := sl } ∧
      R (.ok (.ret (.ref (s.heap.push { cls := .type "tuple_iterator", data := .fields #[.ref t, .int 0 0] }).objs.size)))
        { s with heap := (s.heap.push { cls := .type "tuple_iterator", data := .fields #[.ref t, .int 0 0] }).push { cls := .type "enumerate", data := .fields #[.none, .bool false, .ref s.heap.objs.size, rawInt 0, .none, .none] } }) :=
  .of_wp fun prog w A R s h => by
    obtain ⟨hp, g, d, tk, os⟩ := s; obtain ⟨hl, h⟩ := h
    have hsub := sub_enumerate
    have hT : Heap.IsTuple (Shared.heap ⟨hp, g, d, tk, os⟩) t items := ⟨_, hl, rfl, n, rfl⟩
    have q1 : ∀ {A' : Around} {E : Value → Shared → Prop} {Q : Value → Shared → Prop}, Q (.ref hp.objs.size) ⟨hp.push { cls := .type "tuple_iterator", data := .fields #[.ref t, .int 0 0] }, g, d, tk, os⟩ → wpAny (model prog w) A' (pyIter (.ref t)) Q E ⟨hp, g, d, tk, os⟩ :=
      fun q => wpAny_pyIter_tuple hT q
    wp_walk using q1
    refine wpAny_stack_any fun st => wpAny_pure ?_
    split
    · rename_i c _ _ _ _ _
      cases (c == Value.type "enumerate")
      · wp_walk using q1
        exact ⟨_, rfl, h⟩
      · wp_walk using q1
        exact ⟨_, rfl, h⟩
    · wp_walk using q1
      exact ⟨_, rfl, h⟩
theorem call_enumerate_tup {prog : Program} {w : World} {A : Around} {E : Value → Shared → Prop} {s : Shared} {l : Addr} {items : Array Value} {Q : Value → Shared → Prop} (hL : s.heap.IsTuple l items)
    (h : ∀ h', IsEnum h' (s.heap.objs.size + 1) s.heap.objs.size 0 .none → h'.IsTupleIter s.heap.objs.size l 0 → h'.objs.size = s.heap.objs.size + 2 →
      (∀ b o, s.heap.get? b = some o → h'.get? b = some o) → Q (.ref (s.heap.objs.size + 1)) { s with heap := h' }) :
    wpAny (model prog w) A (call (.type "enumerate") [.ref l]) Q E s := by
  obtain ⟨⟨c, dct, dt, sl⟩, hl, hc, n, hd⟩ := hL
  replace hc : c = .type "tuple" := hc
  replace hd : dt = .seq items n := hd
  subst hc hd
  refine callType_new F.called_enumerate (by decide) (F.typeCall_enumerate_1 _) (F.newCall_enumerate_1 _) (fun obj => F.args_object_init_2 obj _) F.entry_enumerate_new
    (meets_enumerate_newT l items n dct sl) ⟨hl, ?_⟩
  have hz : (s.heap.push { cls := .type "tuple_iterator", data := .fields #[.ref l, .int 0 0] }).objs.size = s.heap.objs.size + 1 := Heap.size_push ..
  show _ ∧ _
  rw [hz]
  have he : IsEnum ((s.heap.push { cls := .type "tuple_iterator", data := .fields #[.ref l, .int 0 0] }).push
      { cls := .type "enumerate", data := .fields #[.none, .bool false, .ref s.heap.objs.size, rawInt 0, .none, .none] }) (s.heap.objs.size + 1) s.heap.objs.size 0 .none := by
    have := Heap.get?_push_size (s.heap.push { cls := .type "tuple_iterator", data := .fields #[.ref l, .int 0 0] })
      (o := { cls := .type "enumerate", data := .fields #[.none, .bool false, .ref s.heap.objs.size, rawInt 0, .none, .none] }) rfl
    rw [hz] at this; exact this
  refine ⟨⟨_, he, rfl⟩, h _ he ⟨_, Heap.get?_push_of_some _ (Heap.get?_push_size _ rfl), rfl, rfl⟩ (by rw [Heap.size_push, hz]) fun b o x => Heap.get?_push_of_some _ (Heap.get?_push_of_some _ x)⟩
def IteT (K : PySem.W.Frag) (a : Addr) : It :=
  ⟨fun i H => ∃ (xs : List V) (x : V), SqT K H a xs ∧ xs[i]? = some x, fun i H v H' => ∃ T x, v = .ref T ∧ H T = none ∧ H' = upd H T (.tup [.int (i : Nat), x]) ∧ ∀ xs, SqT K H a xs → xs[i]? = some x, fun i H => ∃ xs : List V, SqT K H a xs ∧ xs.length ≤ i⟩
theorem turn_enumT {P : Program} {w : World} {K : PySem.W.Frag} {elts : List Expr} {kk : Nat} {tpos : Pos} (a e it : Addr) :
    Turn P w K (.Tuple elts kk tpos) (IteT K a) [e, it] e (fun i h => (∃ old, IsEnum h e it ((i : Nat) : Int) old) ∧ h.IsTupleIter it a i ∧ e ≠ it) where
  mem := by simp
  obj := fun i h st b hb => by
    obtain ⟨⟨old, he⟩, ⟨o, ho, hc, hd⟩, _⟩ := st
    have e' : b = e ∨ b = it := by simpa using hb
    rcases e' with z | z
    · rw [z]; exact ⟨_, he, fun v q => nomatch q⟩
    · rw [z]; exact ⟨o, ho, fun v q => by rw [hd] at q; cases q⟩
  keep := fun i h h' st k => let ⟨⟨old, he⟩, hi, hne⟩ := st; ⟨⟨old, k e (by simp) _ he⟩, hi.at fun o q => k it (by simp) o q, hne⟩
  item := by
    intro X hP hw hK hc i pins s σ H E I hf st hg
    subst hP hw hK
    obtain ⟨⟨old, he⟩, hit, hne⟩ := st
    obtain ⟨xs, x, hq, hx⟩ := hg
    obtain ⟨its, rv, p, hz⟩ := I.tuple hq
    obtain ⟨u, hu, ru⟩ := rv.get hx
    have hel : e < s.heap.objs.size := Heap.lt_size he
    have hil : it < s.heap.objs.size := by obtain ⟨_, q, _⟩ := hit; exact Heap.lt_size q
    have hai : a ≠ it := fun z => by
      obtain ⟨o, q, c1, _⟩ := hit
      obtain ⟨o2, q2, c2, _⟩ := p
      rw [z] at q2
      rw [q] at q2
      cases q2
      rw [c1] at c2
      exact absurd c2 (by decide)
    have hae : a ≠ e := fun z => by
      obtain ⟨o2, q2, c2, _⟩ := p
      rw [z] at q2
      have he' : s.heap.get? e = some _ := he
      rw [he'] at q2
      cases q2
      exact absurd (show Value.type "enumerate" = Value.type "tuple" from c2) (by decide)
    have hlt : i < its.toArray.size := by
      have := (List.getElem?_eq_some_iff.mp hu).1
      simpa using this
    refine wpAny_pyNext_enum_itemD (Draws.tuple (A := X.A.in1) (I.ok.hd hc) it a hai its.toArray) he ⟨hit, p⟩ hlt hne (by simp; exact ⟨hne, fun z => hae z.symm⟩) fun u' h' tk hu' ho hst hT hsz hk => ?_
    obtain ⟨hit', _⟩ := hst
    have eu : u' = u := by
      have h1 : its.toArray[i]? = some u' := hu'
      have h2 : its.toArray[i]? = some u := by simpa using hu
      rw [h2] at h1
      cases h1
      rfl
    subst eu
    refine ⟨_, rfl, wpAny_letOwnedTupleGo_enum (s := { s with heap := h', toks := tk + 1 }) ho fun h'' he' sb => ?_⟩
    have hT2 : h''.get? s.heap.objs.size = some { cls := .type "tuple", data := .seq #[.int i tk, u'] } := (sb.2 _ (Nat.ne_of_gt hel)).trans hT
    have new : ObjOk X.prog X.w (upd H s.heap.objs.size (.tup [.int (i : Nat), x])) h'' s.heap.objs.size (.tup [.int (i : Nat), x]) :=
      ⟨by show 2 ≤ sizeLine; decide, [.int i tk, u'], .cons ⟨_, rfl⟩ (.cons ru .nil), ⟨_, hT2, rfl, _, rfl⟩⟩
    have I1 : Inv X pins σ (upd H s.heap.objs.size (.tup [.int (i : Nat), x])) { s with heap := h'', toks := tk + 1 } :=
      I.turnedNew (ch := [e, it]) (fun b ob hb q => (sb.2 b (fun z => hb (by simp [z]))).trans (hk b ob (fun z => hb (by simp [z])) (fun z => hb (by simp [z])) q)) hf (Nat.le_refl _) new
    refine ⟨.ref s.heap.objs.size, _, I1, rfl, ⟨_, x, rfl, I.hok.fresh (Nat.le_refl _), rfl, fun ys hy => by rw [I.tuple_inj hy hq]; exact hx⟩, ⟨⟨u', ?_⟩, hit'.at fun o q => (sb.2 it (Ne.symm hne)).trans q, hne⟩, fun b hb => ?_⟩
    · have e1 : ((i + 1 : Nat) : Int) = (i : Int) + 1 := by omega
      rw [e1]; exact he'
    · have hb' : b < s.heap.objs.size := by
        have e' : b = e ∨ b = it := by simpa using hb
        rcases e' with z | z
        · rw [z]; exact hel
        · rw [z]; exact hil
      rw [upd_ne (Nat.ne_of_lt hb')]
      exact (hf b hb).1
  done := by
    intro X hP hw hK hc i pins s σ H E I hf st hg
    subst hP hw hK
    obtain ⟨⟨old, he⟩, hit, hne⟩ := st
    obtain ⟨xs, hq, hx⟩ := hg
    obtain ⟨its, rv, p, hz⟩ := I.tuple hq
    obtain ⟨f0, f1, f2, f3, f4, f5⟩ := hf it (by simp)
    have hl := rv.length
    have hT : s.TypeIs (.ref e) "enumerate" := ⟨_, he, rfl⟩
    unfold pyNext
    refine wpAny_bind (wpAny_attempt (wpAny_callSpecial?_slot (name := Str.ofString "__next__") hT F.slot_enumerate_next
      (wpAny_call_entry F.slot_enumerate_next hT F.entry_enumerate_next ?_ (F.args_enumerate_next_1 _))))
    show wpAny _ _ (field (.ref e) 2 >>= _) _ _ _
    refine wpAny_bind (wpAny_field he rfl (x := .ref it) rfl ?_)
    refine wpAny_bind (wpAny_nextOf_tuple_end (I.ok.hd hc) hit p (by simp; omega) fun h' x he' hx' => ?_)
    obtain ⟨o, ho, hc⟩ := hx'
    refine wpAny_bind (wpAny_isInstance (T := "StopIteration") (b := true) ⟨o, ho, hc⟩ isSubtype_stop ?_)
    exact wpAny_pure ⟨rfl, I.turned (t' := s.toks) (fun b o hb q => he' b o hb q) f0 f1 f3 f4 f5⟩
  self := fun A i s Q E st h => let ⟨⟨_, he⟩, _⟩ := st; wpAny_pyIter_enum he h
def iEnumT (K : PySem.W.Frag) (ta : TA) : TI := fun σ H R => ta σ H fun vs H1 => ∃ a xs, vs = [.ref a] ∧ SqT K H1 a xs ∧ R (IteT K a) H1
theorem pi_enumT {X : Cx} {e : Expr} {ta : TA} {p pos tpos : Pos} {elts : List Expr} {kk : Nat} (hg : Gl X "enumerate") (hm : X.mg "enumerate" = none) (ha : PA X [e] ta) (hs : starEach [e] X.env = [(false, eval e X.env)] := by rfl) :
    PI X (.Tuple elts kk tpos) (.Call (.Name "enumerate" p) [e] [] pos) (iEnumT X.K ta) := by
  refine ⟨fun pins s σ H R I h => ?_⟩
  refine Call_ (ld_blt I hg hm boot_enumerate (PyProof.Rows.callWith_type1 (thn (ha.run pos pins s σ H _ I h) fun us s1 ⟨vs, H1, I1, r1, q1⟩ => ?_) hs rfl))
  obtain ⟨a, xs, ex, hq, q⟩ := q1
  subst ex
  cases r1 with
  | cons r rr =>
    cases rr
    cases r
    obtain ⟨its, rv, p', hz⟩ := I1.tuple hq
    refine call_enumerate_tup p' fun h' he hit hsz hk => wpAny_pyIter_enum he ?_
    have I2 : Inv X pins σ H1 { s1 with heap := h' } := I1.kept (t' := s1.toks) hk
    refine ⟨s1.heap.objs.size + 1, [s1.heap.objs.size + 1, s1.heap.objs.size], _, _, H1, rfl, I2, turn_enumT a (s1.heap.objs.size + 1) s1.heap.objs.size, ⟨⟨.none, he⟩, hit, Nat.succ_ne_self _⟩, fun b hb => ?_, q⟩
    have e' : b = s1.heap.objs.size + 1 ∨ b = s1.heap.objs.size := by simpa using hb
    have hle : s1.heap.objs.size ≤ b := by
      rcases e' with z | z
      · rw [z]; exact Nat.le_add_right _ _
      · rw [z]; exact Nat.le_refl _
    exact I1.fpOk hle (I1.hok.fresh hle)
theorem walk_enumT {K : PySem.W.Frag} {a : Addr} {xs : List V} : Walk (IteT K a) xs.length (fun H => SqT K H a xs) (YPair (fun i => some (.int (i : Nat))) (fun i => xs[i]?)) := by
  refine ⟨fun i _ hi q => ⟨xs, xs[i], q, by simp [hi]⟩, fun _ q => ⟨xs, q, Nat.le_refl _⟩, fun i H v H' _ q y => ?_⟩
  obtain ⟨T, x, h1, h2, h3, h4⟩ := y
  exact ⟨T, .int (i : Nat), x, h1, h2, h3, rfl, h4 xs q⟩
theorem walk_zipT {K : PySem.W.Frag} {a b : Addr} {xs ys : List V} {n : Nat} (hn : n = min xs.length ys.length) : Walk (RZ.ItzT K a b) n (fun H => SqT K H a xs ∧ SqT K H b ys) (YPair (fun i => xs[i]?) (fun i => ys[i]?)) := by
  subst hn
  refine ⟨fun i _ hi q => ?_, fun _ q => ⟨xs, ys, q.1, q.2, by omega⟩, fun i H v H' _ q y => ?_⟩
  · have h1 : i < xs.length := by omega
    have h2 : i < ys.length := by omega
    exact ⟨xs, ys, xs[i], ys[i], q.1, q.2, by simp [h1], by simp [h2]⟩
  · obtain ⟨T, x, z, h1, h2, h3, h4, h5⟩ := y
    exact ⟨T, x, z, h1, h2, h3, h4 xs q.1, h5 ys q.2⟩
end HG

set_option maxHeartbeats 4000000
/-! HE: own errors over ValueError whose __init__ says super().__init__('..') and then self.f = f, ..: made as values. -/
namespace PySem.ErrX
open PySem PySem.W PySem.Calls PyProof.Rows PySem.HandSPX

/-- super().__init__('..') -/
abbrev supS (msg : Str) (p0 p1 p2 p3 p4 p5 : Pos) (k : Nat) : Stmt := .Expr (.Call (.Attribute (.Call (.Name "super" p0) [] [] p1) "__init__" p2) [.Constant (.str msg) k p3] [] p4) p5
/-- self.f = f -/
structure SetP where
  f : Str
  q1 : Pos
  q2 : Pos
  q3 : Pos
  q4 : Pos
abbrev setS (z : SetP) : Stmt := .Assign [.Attribute (.Name "self" z.q1) z.f z.q2] (.Name z.f z.q3) z.q4

/-- what the written part says of such a class, at C, and of its __init__, at fI -/
structure ErrT (prog : Program) (K : Frag) (C fI : Addr) (q : Str) (args : Arguments) (body : List Stmt) (scope : Scope) (fs : List Str) : Prop where
  cls : ∃ nm q N bs bm sn sub ab col dd k0 k1 k2 k3 k5, K.lookup C = some (excClassObj nm q C N bs bm true sn sub ab col dd k0 k1 k2 k3 k5 "ValueError.__new__") ∧ refsVE bm = true
  exi : excInitIn K C veTail "ValueError.__new__" = true
  sa : findIn K (.ref C) "__setattr__" = some (some (.builtin "object.__setattr__"))
  sup : ks_superIn K C C "__init__" = some (some (.builtin "ValueError.__init__"))
  sve : subIn K (.ref C) (.type "ValueError") = some true
  slf : mroIn K C (.ref C) = some true
  opq : nsIn K cStatics "thirdparty.any" = some none
  init : findIn K (.ref C) "__init__" = some (some (.ref fI))
  tyI : typeIn K (.ref fI) = some (.type "function")
  no : ∀ f ∈ fs, findIn K (.ref C) f = some none
  kC : keepIn K (.ref C) = true
  fn : ∃ (oc : Value) (od : Option Addr) (osl : Array (Option Value)) (doc pm ct : Value) (an : Option Addr) (cda cc : Addr) (ccl cl : Value) (cdd cld : Option Addr) (ccs csl : Array (Option Value)) (vs : Array Value) (file : Str) (tf : Tok),
    K.lookup fI = some ⟨oc, od, .func (ksFn "__init__" q args body scope .none .none doc pm an (.ref cda) ct cc), osl⟩ ∧
    codeIn K (.ref cda) q = true ∧ K.lookup cda = some ⟨ccl, cdd, .fields vs, ccs⟩ ∧ vs[2]? = some (.str file tf) ∧ ((prog.main.file : Str) == file) = true ∧ K.lookup cc = some ⟨cl, cld, .cell (some (.ref C)), csl⟩
  shape : ∃ (msg : Str) (p0 p1 p2 p3 p4 p5 : Pos) (k : Nat) (zs : List SetP), body = supS msg p0 p1 p2 p3 p4 p5 k :: zs.map setS ∧ zs.map SetP.f = fs ∧
    ∃ pl : Sem Bool, ∀ (L a cc : Addr) (cda : Value), eval (.Call (.Attribute (.Call (.Name "super" p0) [] [] p1) "__init__" p2) [.Constant (.str msg) k p3] [] p4) (ksEnv q scope L a cda cc) = (do
      let ov ← attributeBase (.Call (.Name "super" p0) [] [] p1) "__init__" (ksEnv q scope L a cda cc) (eval (.Call (.Name "super" p0) [] [] p1) (ksEnv q scope L a cda cc))
      standAt p2.atName
      let (f, first) ← holding [ov] (getMethod ov "__init__" pl)
      callWith p4 f first (backTo p4 (starEach [.Constant (.str msg) k p3] (ksEnv q scope L a cda cc))) [])
  ar : ∃ ar : Arg, (args.posonlyargs ++ args.args).head? = some ar ∧ ar.arg = "self"
  scK : scope.kind = .function
  scC : scope.isCoroutine = false
  scG : scope.isGenerator = false
  scS : scope.names.lookup ("super" : Str) = some .globalImplicit
  scL : scope.names.lookup ("__class__" : Str) = some .free
  scN : ∀ x ∈ scope.names, x.2 ≠ .cell
  scV : ∀ x ∈ ("self" : Str) :: fs, scope.names.lookup x = some .local
  nd : ((("self" : Str) :: fs)).Nodup ∧ (∀ x ∈ fs, (x == ("__debug__" : Str)) = false) ∧ fs.length ≤ 100
  top : (prog.main.scope.names.lookup ("super" : Str)).isSome = false

/-- an error at e that has the fields done (the last one first) -/
def ErrAt (hp : Heap) (L : Addr) (h : Heap) (e C : Addr) (done : List (Str × Value)) : Prop :=
  (done = [] ∧ ∃ t1, h.get? e = some (excObj C t1 none .none)) ∨
  (done ≠ [] ∧ ∃ t1 dx, h.get? e = some (excObj C t1 (some dx) .none) ∧ h.Ns1 dx (fun y => done.lookup y) ∧ dx ≠ L ∧ dx ≠ e ∧ hp.get? dx = none)

section
variable {prog : Program} {w : World} {A : Around} {E : Value → Shared → Prop} {K : Frag} {C fI e L : Addr} {hp : Heap} {m : Str → Option Value} {g : Array GenState} {d : Drawn} {os : OsState}
theorem K_in (X : K.In hp) {h : Heap} (F : Fr hp L h m) : K.In h := X.keeps F.keep

theorem within_lookup (done : List (Str × Value)) : Within (fun y => done.lookup y) (done.map (·.1)) := by
  intro y h
  have : ∀ l : List (Str × Value), l.lookup y ≠ none → y ∈ l.map (·.1) := by
    intro l
    induction l with
    | nil => intro h; exact absurd rfl h
    | cons p l ih =>
      intro h
      obtain ⟨a, b⟩ := p
      rw [List.lookup_cons] at h
      cases e : (y == a) with
      | true => rw [beq_iff_eq.mp e]; exact List.mem_cons_self
      | false => rw [e] at h; exact List.mem_cons_of_mem _ (ih h)
  exact this done h
theorem lookup_put (done : List (Str × Value)) (f : Str) (v : Value) : (fun y => if y = f then some v else done.lookup y) = fun y => ((f, v) :: done).lookup y := by
  funext y
  rw [List.lookup_cons]
  by_cases h : y = f
  · rw [if_pos h, beq_iff_eq.mpr h]
  · rw [if_neg h, beq_eq_false_iff_ne.mpr h]
/-- self.f = v -/
theorem set_field {f : Str} {v : Value} {done : List (Str × Value)} {h : Heap} {t : Nat} {Q : Unit → Shared → Prop} (X : K.In hp) (F : Fr hp L h m)
    (cls : ∃ nm q N bs bm sn sub ab col dd k0 k1 k2 k3 k5, K.lookup C = some (excClassObj nm q C N bs bm true sn sub ab col dd k0 k1 k2 k3 k5 "ValueError.__new__") ∧ refsVE bm = true)
    (sa : findIn K (.ref C) "__setattr__" = some (some (.builtin "object.__setattr__"))) (no : findIn K (.ref C) f = some none)
    (he : hp.get? e = none) (eL : e ≠ L) (hl : done.length ≤ 900) (at_ : ErrAt hp L h e C done)
    (hq : ∀ h' tk, Fr hp L h' m → ErrAt hp L h' e C ((f, v) :: done) → Q () ⟨h', g, d, tk, os⟩) :
    wpAny (model prog w) A (setAttr (.ref e) f v) Q E ⟨h, g, d, t, os⟩ := by
  obtain ⟨nm, q, N, bs, bm, sn, sub, ab, col, dd, k0, k1, k2, k3, k5, hC, hbm⟩ := cls
  have Xh : K.In h := X.keeps F.keep
  have hcl : clsIn K C = some { name := nm, bases := bs, mro := .ref C :: bm, ns := N, qualname := q, hasDict := true, slotNames := sn, subclasses := sub, abstract := ab, collection := col, hasDel := false } := by unfold clsIn; rw [hC] <;> rfl
  obtain ⟨oL, es, ep, hL, hr⟩ := F.ns
  have lL : L < h.objs.size := Heap.lt_size hL
  have lP : hp.objs.size ≤ h.objs.size := Nat.le_trans F.above (Nat.le_of_lt lL)
  rcases at_ with ⟨rfl, t1, ho⟩ | ⟨hne, t1, dx, ho, hns, hdL, hde, hdp⟩
  · refine set_plain Xh (ox := excObj C t1 none .none) (od := none) ⟨ho, rfl, rfl, trivial⟩ sa ?_
    refine exc_osa Xh ho hcl (show refsVE (.ref C :: bm) = true from hbm) rfl no (fun h' tk' dx k dn dne hx hn => ?_)
    refine hq h' tk' ⟨⟨oL, es, ep, k _ _ eL.symm hL, hr⟩, fun b o z => k b o (fun y => by rw [y, he] at z; cases z) (F.keep b o z), F.above⟩ (.inr ⟨(fun z => nomatch z), t1, dx, hx, ?_, ?_, dne, ?_⟩)
    · rw [← lookup_put]
      exact hn
    · exact Nat.ne_of_gt (Nat.lt_of_lt_of_le lL dn)
    · cases z : hp.get? dx with
      | none => rfl
      | some o => exact absurd (Heap.lt_size z) (Nat.not_lt.mpr (Nat.le_trans lP dn))
  · have hw := within_lookup done
    obtain ⟨oD, _, _, hoD, _, _⟩ := hns.count hw
    refine set_plain Xh (ox := excObj C t1 (some dx) .none) (od := some oD) ⟨ho, rfl, rfl, hoD⟩ sa ?_
    refine OEX.osa_old Xh ho hns hw (by rw [List.length_map]; omega) hcl (show refsVE (.ref C :: bm) = true from hbm) rfl no (fun h' tk' k hn => ?_)
    refine hq h' tk' ⟨⟨oL, es, ep, k _ _ hdL.symm hL, hr⟩, fun b o z => k b o (fun y => by rw [y, hdp] at z; cases z) (F.keep b o z), F.above⟩ (.inr ⟨(fun z => nomatch z), t1, dx, k _ _ hde.symm ho, ?_, hdL, hde, hdp⟩)
    rw [← lookup_put]
    exact hn
/-- the fields, one by one -/
theorem set_fields {q : Str} {scope : Scope} {a cc : Addr} {cda : Value} (X : K.In hp)
    (cls : ∃ nm q N bs bm sn sub ab col dd k0 k1 k2 k3 k5, K.lookup C = some (excClassObj nm q C N bs bm true sn sub ab col dd k0 k1 k2 k3 k5 "ValueError.__new__") ∧ refsVE bm = true)
    (sa : findIn K (.ref C) "__setattr__" = some (some (.builtin "object.__setattr__"))) (he : hp.get? e = none) (eL : e ≠ L) (hk : scope.kind = .function)
    (hs : scope.names.lookup ("self" : Str) = some .local) (hm : m ("self" : Str) = some (.ref e)) :
    ∀ (zs : List SetP) (us : List Value) (done : List (Str × Value)) (h : Heap) (t : Nat) (Q : Flow → Shared → Prop), Fr hp L h m → ErrAt hp L h e C done → us.length = zs.length → done.length + zs.length ≤ 900 →
      (∀ z ∈ zs, findIn K (.ref C) z.f = some none) → (∀ z ∈ zs, scope.names.lookup z.f = some .local) → (∀ z ∈ zs, (z.f == ("__debug__" : Str)) = false) → (∀ p ∈ (zs.map SetP.f).zip us, m p.1 = some p.2) →
      (∀ h' tk, Fr hp L h' m → ErrAt hp L h' e C (((zs.map SetP.f).zip us).reverse ++ done) → Q .next ⟨h', g, d, tk, os⟩) →
      wpAny (model prog w) A (execs (zs.map setS) (ksEnv q scope L a cda cc)) Q E ⟨h, g, d, t, os⟩
  | [], [], done, h, t, Q, F, at_, _, _, _, _, _, _, hq => wpAny_execs_nil (hq h t F at_)
  | z :: zs, u :: us, done, h, t, Q, F, at_, hl, hn, no, nl, nd, mv, hq => by
    rw [List.map_cons]
    refine wpAny_execs_cons (plainObj_wpAny_Assign_Attribute (wpAny_Name (wpAny_loadName_local hk (nl z List.mem_cons_self) F.ns (mv (z.f, u) List.mem_cons_self) (wpAny_Name (wpAny_loadName_local hk hs F.ns hm ?_) (by decide))) (nd z List.mem_cons_self)) rfl)
    rw [List.length_cons] at hn
    refine set_field X F cls sa (no z List.mem_cons_self) he eL (by omega) at_ fun h' tk F' at' => ?_
    refine set_fields X cls sa he eL hk hs hm zs us ((z.f, u) :: done) h' tk Q F' at' (by simpa using hl) (by rw [List.length_cons]; omega) (fun y hy => no y (List.mem_cons_of_mem _ hy)) (fun y hy => nl y (List.mem_cons_of_mem _ hy)) (fun y hy => nd y (List.mem_cons_of_mem _ hy)) (fun p hp => mv p (List.mem_cons_of_mem _ hp)) fun h'' tk' F'' at'' => hq h'' tk' F'' ?_
    rw [List.map_cons, List.zip_cons_cons, List.reverse_cons, List.append_assoc]
    exact at''
  | [], _ :: _, _, _, _, _, _, _, hl, _, _, _, _, _, _ => by cases hl
  | _ :: _, [], _, _, _, _, _, _, hl, _, _, _, _, _, _ => by cases hl

theorem map_self {fs : List Str} {us : List Value} {e : Value} (hn : ((("self" : Str) :: fs)).Nodup) (hl : us.length = fs.length) :
    (fun x => (((("self" : Str), e) :: fs.zip us).reverse.lookup x)) ("self" : Str) = some e ∧ ∀ p ∈ fs.zip us, (fun x => ((("self" : Str), e) :: fs.zip us).reverse.lookup x) p.1 = some p.2 := by
  have key : ∀ (l : List (Str × Value)), (l.map (·.1)).Nodup → ∀ p ∈ l, l.reverse.lookup p.1 = some p.2 := by
    intro l
    induction l with
    | nil => intro _ p hp; cases hp
    | cons a l ih =>
      intro hd p hp
      rw [List.map_cons, List.nodup_cons] at hd
      rw [List.reverse_cons, List.lookup_append]
      rcases List.mem_cons.mp hp with rfl | hp
      · have : l.reverse.lookup p.1 = none := by
          rw [List.lookup_eq_none_iff]
          intro q hq
          rw [List.mem_reverse] at hq
          refine bne_iff_ne.mpr fun z => hd.1 ?_
          rw [z]
          exact List.mem_map.mpr ⟨q, hq, rfl⟩
        rw [this]
        obtain ⟨x, y⟩ := p
        simp [List.lookup_cons]
      · rw [ih hd.2 p hp]
        rfl
  have em : ((("self" : Str), e) :: fs.zip us).map (·.1) = ("self" : Str) :: fs := by
    rw [List.map_cons]
    congr 1
    exact List.map_fst_zip (by omega)
  have k2 := key ((("self" : Str), e) :: fs.zip us) (by rw [em]; exact hn)
  exact ⟨k2 (("self" : Str), e) List.mem_cons_self, fun p hp => k2 p (List.mem_cons_of_mem _ hp)⟩

/-- __init__ of such a class, on a fresh error at e -/
theorem err_init {R : Result → Shared → Prop} {mg mb : Str → Option Value} {q : Str} {args : Arguments} {body : List Stmt} {scope : Scope} {fs : List Str} {us : List Value} {as : Args} {h : Heap} {t : Nat} {t0 : Addr}
    (T : ErrT prog K C fI q args body scope fs) (X : K.In hp) (hroom : A.depth < recursionLimit) (hg : hp.Ns mainGlobals mg) (hms : mg "super" = none) (hb : hp.Ns builtinsNs mb) (hbb : mb "super" = some (.type "super")) (hlim : hp.NoLimit)
    (keep : ∀ b o, hp.get? b = some o → h.get? b = some o) (hsz : hp.objs.size ≤ h.objs.size) (he : hp.get? e = none) (ho : h.get? e = some (excObj C t0 none .none)) (hu : us.length = fs.length)
    (hbd : ∀ (doc pm ct : Value) (an : Option Addr) (cda cc : Addr), bindArgs (ksFn "__init__" q args body scope .none .none doc pm an (.ref cda) ct cc) as = pure ((("self" : Str), .ref e) :: fs.zip us))
    (hq : ∀ h' tk, (∀ b o, hp.get? b = some o → h'.get? b = some o) → (∃ L, h'.objs.size > L ∧ ErrAt hp L h' e C ((fs.zip us).reverse)) → R (.ok (.ret .none)) ⟨h', g, d, tk, os⟩) :
    codeAny (model prog w) A (.call (.ref fI) as) R ⟨h, g, d, t, os⟩ := by
  obtain ⟨oc, od, osl, doc, pm, ct, an, cda, cc, ccl, cl, cdd, cld, ccs, csl, vs, file, tf, hF, hcd, hcode, hvs, hfile, hcell⟩ := T.fn
  obtain ⟨msg, p0, p1, p2, p3, p4, p5, k, zs, hbody, hzs, pl, hmc⟩ := T.shape
  obtain ⟨ar, har, hara⟩ := T.ar
  have Xh : K.In h := X.keeps keep
  have hk := T.scK
  obtain ⟨hmS, hmF⟩ := map_self (e := .ref e) T.nd.1 hu
  refine ks_codeAny_call_defAt (fd := ksFn "__init__" q args body scope .none .none doc pm an (.ref cda) ct cc) hroom (Xh _ _ hF) rfl (hlim.keeps keep) (codeRec_of Xh hcd) rfl (.of_eq (hbd doc pm ct an cda cc)) T.scN (fun x hx => ?_) (fun h₀ hns hk0 => ?_) T.scC T.scG hk
  · rcases List.mem_cons.mp hx with rfl | hx
    · exact T.scV _ List.mem_cons_self
    · exact T.scV _ (List.mem_cons_of_mem _ (List.of_mem_zip hx).1)
  generalize eL : h.objs.size = L at hns ⊢
  show wpAt _ _ (.func body (ksEnv q scope L fI (.ref cda) cc)) (execs body (ksEnv q scope L fI (.ref cda) cc)) _ _ _
  have heL : e ≠ L := by rw [← eL]; exact Nat.ne_of_lt (Heap.lt_size ho)
  have F0 : Fr hp L h₀ (fun x => ((("self" : Str), Value.ref e) :: fs.zip us).reverse.lookup x) := ⟨hns, fun b o z => hk0 b o (keep b o z), by rw [← eL]; exact hsz⟩
  have N0 : News hp L h₀ [(e, excObj C t0 none .none)] := fun p hp' => by
    rw [List.mem_singleton.mp hp']
    exact ⟨hk0 _ _ ho, heL, he⟩
  have X0 : K.In h₀ := X.keeps F0.keep
  generalize (((("self" : Str), Value.ref e) :: fs.zip us).length) = n1
  rw [hbody]
  -- super().__init__('..')
  have hint : interactive (ksEnv q scope L fI (.ref cda) cc) = false := by
    unfold interactive
    simp [hk]
  refine ks_wpAt_execs_cons (ks_wpAt_Expr_any (ks_wpAt_MethodCall ?_ (hmc _ _ _ _)) hint)
  obtain ⟨nm, qn, N', bs, bm, sn, sub, ab, col, dd, k0, k1, k2, k3, k5, hC, hbm⟩ := T.cls
  refine ks_wpAt_super_base (env := ksEnv q scope L fI (.ref cda) cc) T.scS T.scL (by decide) rfl (X0 _ _ hF) rfl har rfl (X0 _ _ hcode) rfl hvs hfile T.top ?_
  refine ks_loadName_global hk T.scS (loadGlobal_builtin (env := ksEnv q scope L fI (.ref cda) cc) (hg.keeps F0.keep) hms (hb.keeps F0.keep) hbb ⟨rfl, ?_⟩)
  refine wpAny_loadName_free hk T.scL rfl ⟨_, X0 _ _ hcell, rfl⟩ ?_
  rw [hara]
  refine wpAny_loadName_local hk (T.scV _ List.mem_cons_self) F0.ns hmS ?_
  refine ks_wpAny_isType_cls (X0 _ _ hC) rfl ⟨rfl, ?_⟩
  have I0 : W.InstAt h₀ e (excObj C t0 none .none) C none := ⟨hk0 _ _ ho, rfl, rfl, trivial⟩
  refine ks_wpAny_call_super (X0 _ _ hC) rfl I0.at_ I0.cls (fun c z => nomatch z) (looks_mroIn X0 T.slf) (fun h1 e1 k1' => ?_)
  obtain ⟨F1, N1, l1⟩ := ks_newsPush (s := ⟨h₀, g, d, t, os⟩) (o := ks_superObj C e C) F0 N0 rfl e1 k1'
  have I1 : W.InstAt h1 e (excObj C t0 none .none) C none := ⟨(N1 _ (List.mem_cons_of_mem _ List.mem_cons_self)).1, rfl, rfl, trivial⟩
  refine kxs_method kxs_ValueError F1 X N1 List.mem_cons_self I1 T.opq T.sup T.sve (by decide) (fun u h2 F2 N2 l2 => ?_)
  refine kxs_callWith1 (i := "ValueError.__init__") (x := e) N2 List.mem_cons_self ?_
  refine args_cons (wpAny_Constant_str (args_nil ⟨kxs_at N2 List.mem_cons_self, ?_⟩))
  have neSo : h₀.objs.size ≠ e := Nat.ne_of_gt (l1 _ List.mem_cons_self)
  have neU : u ≠ e := Nat.ne_of_gt (l2 _ (List.mem_cons_of_mem _ List.mem_cons_self))
  refine kxs_call (C := C) (x := e) F2 X N2 PySem.F.excBase_ValueError T.exi List.mem_cons_self (.tail neU (.tail neSo (.head (fun p hp => nomatch hp)))) (by show 1 ≤ sizeLine; decide) (fun t' h3 F3 N3 l3 => ?_)
  -- the fields
  refine wpAt_of_wpAny ?_
  have at3 : ErrAt hp L h3 e C [] := .inl ⟨rfl, t', (N3 (e, excObj C t' none .none) (by simp)).1⟩
  refine set_fields X T.cls T.sa he heL hk (T.scV _ List.mem_cons_self) hmS zs us [] h3 _ _ F3 at3 (by rw [hu, ← hzs, List.length_map]) ?_ ?_ ?_ ?_ ?_ (fun h4 tk F4 at4 => ?_)
  · have := T.nd.2.2
    rw [← hzs, List.length_map] at this
    rw [List.length_nil]
    omega
  · exact fun z hz => T.no _ (by rw [← hzs]; exact List.mem_map.mpr ⟨z, hz, rfl⟩)
  · exact fun z hz => T.scV _ (List.mem_cons_of_mem _ (by rw [← hzs]; exact List.mem_map.mpr ⟨z, hz, rfl⟩))
  · exact fun z hz => T.nd.2.1 _ (by rw [← hzs]; exact List.mem_map.mpr ⟨z, hz, rfl⟩)
  · rw [hzs]
    exact hmF
  · rw [hzs, List.append_nil] at at4
    obtain ⟨oL, _, _, hL4, _⟩ := F4.ns
    exact hq h4 tk F4.keep ⟨L, Heap.lt_size hL4, at4⟩
end
end PySem.ErrX

set_option maxHeartbeats 4000000
/-! HF: own errors called with keywords. -/
namespace PySem.ErrX
open PySem PySem.W PySem.Calls PyProof.Rows PySem.HandSPX
section
variable {M : Model} {A : Around} {E : Value → Shared → Prop} {h : Heap} {g : Array GenState} {d : Drawn} {t : Nat} {os : OsState}
variable {nm q : Str} {C N : Addr} {bs bm bmB : List Value} {hdct : Bool} {sn : List Str} {sub : List Value} {ab : Bool} {col : Option Bool} {dd : Option Addr} {k0 k1 k2 k3 k5 : Option Value} {B newId initId : String}
theorem check_newK (F : ExcBaseFacts B newId initId bmB) (hT : ∀ X : String, bm.contains (.type X) = bmB.contains (.type X)) {rest : List Value} {kw : List (Str × Value)} {Q : Unit → Shared → Prop}
    (hC : h.get? C = some (excClassObj nm q C N bs bm hdct sn sub ab col dd k0 k1 k2 k3 k5 newId)) (hq : Q () ⟨h, g, d, t, os⟩) : wpAny M A (checkBuiltinCall newId ⟨.ref C :: rest, kw⟩) Q E ⟨h, g, d, t, os⟩ := by
  have hcont : (Value.ref C :: bm).contains (.type B) = true := by rw [List.contains_cons, hT, F.hasB, Bool.or_true]
  have hstar := F.noStar
  simp only [checkBuiltinCall, F.newKind, F.newSplit, F.newRow]
  repeat (first | refine wpAny_loadPart_at hC ?_ | (refine wpAny_isSubtype_exc hC ?_; rw [hcont]) | refine wpAny_staticBase_exc hC ?_ | refine wpAny_madeBy_exc hC ?_ | simp only [bne_self_eq_false, Bool.false_eq_true, if_false] | wp_step)
  exact hq
end
section
variable {prog : Program} {w : World} {A : Around} {E : Value → Shared → Prop} {R : Result → Shared → Prop} {h : Heap} {g : Array GenState} {d : Drawn} {t : Nat} {os : OsState}
variable {nm q : Str} {C N : Addr} {bs bm bmB : List Value} {hdct : Bool} {sn : List Str} {sub : List Value} {ab : Bool} {col : Option Bool} {dd : Option Addr} {k0 k1 k2 k3 k5 : Option Value} {B newId initId : String}
theorem new_ownK (F : ExcBaseFacts B newId initId bmB) (hT : ∀ X : String, bm.contains (.type X) = bmB.contains (.type X)) {rest : List Value} {kw : List (Str × Value)}
    (hC : h.get? C = some (excClassObj nm q C N bs bm hdct sn sub ab col dd k0 k1 k2 k3 k5 newId))
    (hq : R (.ok (.ret (.ref (h.objs.size + 1)))) ⟨(h.push { cls := .type "tuple", data := .seq rest.toArray }).push
      { cls := .ref C, data := .fields #[.ref h.objs.size, .none, .none, .none, .bool false, .none] }, g, d, t, os⟩) (hrest : rest.length ≤ sizeLine) :
    codeAny (model prog w) A (.builtin newId ⟨.ref C :: rest, kw⟩) R ⟨h, g, d, t, os⟩ := by
  have hends := F.ends
  have hcB : (Value.ref C :: bm).contains (.type B) = true := by rw [List.contains_cons, hT, F.hasB, Bool.or_true]
  have hcA : (Value.ref C :: bm).contains (.type "AttributeError") = false := by rw [List.contains_cons, hT, F.noAttr]; rfl
  have hcN : (Value.ref C :: bm).contains (.type "NameError") = false := by rw [List.contains_cons, hT, F.noName]; rfl
  refine codeAny_builtinAt F.entry ?_
  unfold Builtin.«BaseException.__new__»
  refine wpAt_bind ?_
  show wpAt _ _ _ (stack >>= _) _ _ _
  refine wpAt_bind (wpAt_stack fun p below => wpAt_of_wpAny ?_)
  wp_walk
  refine wpAt_of_wpAny ?_
  rw [F.owner]
  repeat (first | with_reducible refine wpAny_madeHere_exc F.canon hC ?_ | with_reducible refine wpAny_loadPart_at hC ?_ | (with_reducible refine wpAny_isSubtype_exc hC ?_; first | rw [hcB] | rw [hcA] | rw [hcN]) | wp_step)
  show R _ _
  rw [Heap.size_push]
  exact hq
theorem type_callK (F : ExcBaseFacts B newId initId bmB) (hT : ∀ X : String, bm.contains (.type X) = bmB.contains (.type X)) {rest : List Value} {kw : List (Str × Value)} {fI : Addr} {Q : Fin → Shared → Prop}
    (hC : h.get? C = some (excClassObj nm q C N bs bm hdct sn sub ab col dd k0 k1 k2 k3 k5 newId))
    (hi : W.Looks (model prog w) h (typeLookup (.ref C) "__init__") (some (.ref fI))) (hb : ∀ self, W.Looks (model prog w) h (bindSpecial (.ref fI) self) (.ref fI, [self])) (hrest : rest.length ≤ sizeLine)
    (hq : codeAny (model prog w) A (.call (.ref fI) ⟨.ref (h.objs.size + 1) :: rest, kw⟩)
      (fun r s' => match r with | .ok (.ret v) => v = .none ∧ Q (.done (.ret (.ref (h.objs.size + 1)))) s' | .ok _ => False | .error e => E e s')
      ⟨(h.push (W.kdv_tup rest)).push (excO C h.objs.size), g, d, t, os⟩) :
    wpAny (model prog w) A (Builtin.«type.__call__» ⟨.ref C :: rest, kw⟩) Q E ⟨h, g, d, t, os⟩ := by
  repeat (first | with_reducible refine wpAny_loadPart_at hC ?_ | with_reducible refine wpAny_madeBy_exc hC ?_ | wp_step)
  refine codeAny_call_builtin_code (Code.quiet_builtin _ F.quiet) (check_newK F hT hC ?_)
  refine new_ownK F hT hC ?_ hrest
  show wpAny _ _ _ _ _ _
  have k : ∀ b o, h.get? b = some o → ((h.push (W.kdv_tup rest)).push (excO C h.objs.size)).get? b = some o := fun b o e => Heap.get?_push_of_some _ (Heap.get?_push_of_some _ e)
  have hC₁ := k _ _ hC
  have hget : ((h.push (W.kdv_tup rest)).push (excO C h.objs.size)).get? (h.objs.size + 1) = some (excO C h.objs.size) := by heap_get
  have hcC : (Value.ref C :: bm).contains (.ref C) = true := by simp
  have i1 := hi.keeps k
  have b1 := (hb (.ref (h.objs.size + 1))).keeps k
  unfold isInstance
  repeat (first | with_reducible refine wpAny_loadPart_at hget ?_ | (with_reducible refine wpAny_isSubtype_exc hC₁ ?_; rw [hcC]) | wp_step)
  show wpAny _ _ (typeLookup (.ref C) _) _ _ _
  refine i1.at ?_
  refine wpAny_holding (wpAny_bind (b1.at ?_))
  refine wpAny_bind (wpAny_call (codeAny_mono hq fun r s' z => ?_))
  rcases r with e | (v | _ | _ | _) <;> first | exact z | exact z.elim | skip
  obtain ⟨rfl, z⟩ := z
  first
    | exact wpAny_pure (wpAny_pure z)
    | (wp_walk; exact z)
theorem call_ownK (F : ExcBaseFacts B newId initId bmB) (hT : ∀ X : String, bm.contains (.type X) = bmB.contains (.type X)) {rest : List Value} {kw : List (Str × Value)} {fI : Addr}
    (hC : h.get? C = some (excClassObj nm q C N bs bm hdct sn sub ab col dd k0 k1 k2 k3 k5 newId))
    (hi : W.Looks (model prog w) h (typeLookup (.ref C) "__init__") (some (.ref fI))) (hb : ∀ self, W.Looks (model prog w) h (bindSpecial (.ref fI) self) (.ref fI, [self])) (hrest : rest.length ≤ sizeLine)
    (hq : codeAny (model prog w) (A.under (.builtin "type.__call__" ⟨.ref C :: rest, kw⟩)) (.call (.ref fI) ⟨.ref (h.objs.size + 1) :: rest, kw⟩) (W.InitBack (h.objs.size + 1) R)
      ⟨(h.push (W.kdv_tup rest)).push (excO C h.objs.size), g, d, t, os⟩) :
    codeAny (model prog w) A (.call (.ref C) ⟨rest, kw⟩) R ⟨h, g, d, t, os⟩ := by
  have f1 := tc_lookup
  have f2 := tc_bind (.ref C)
  have hTy : (⟨h, g, d, t, os⟩ : Shared).TypeIs (.ref C) "type" := ⟨_, hC, rfl⟩
  refine codeAny_of_tree ?_
  show wpAny _ _ (callAny (.ref C) _) _ _ _
  repeat (any_goals (first | assumption | with_reducible refine wpAny_loadPart_at hC ?_ | wp_step))
  refine ⟨rfl, ?_⟩
  refine codeAny_call_builtin_at (Code.quiet_builtin _ (by decide +kernel)) entry_typeCall (wpAny_check_type_call_sub hC (type_callK F hT hC hi hb hrest ?_))
  refine codeAny_mono hq fun r s' z => ?_
  unfold W.InitBack at z
  rcases r with e | (v | _ | _ | _) <;> exact z
/-- such an error made -/
theorem err_make {mg mb : Str → Option Value} {K : Frag} {fI : Addr} {qn : Str} {args : Arguments} {body : List Stmt} {scope : Scope} {fs : List Str} {us : List Value} {pos : List Value} {kw : List (Str × Value)} {Q : Value → Shared → Prop}
    (T : ErrT prog K C fI qn args body scope fs) (X : K.In h) (hr : L2.Room 1 A) (hg : h.Ns mainGlobals mg) (hms : mg "super" = none) (hb : h.Ns builtinsNs mb) (hbb : mb "super" = some (.type "super")) (hlim : h.NoLimit) (hu : us.length = fs.length) (hz : pos.length ≤ sizeLine)
    (hbd : ∀ (e : Value) (doc pm ct : Value) (an : Option Addr) (cda cc : Addr), bindArgs (ksFn "__init__" qn args body scope .none .none doc pm an (.ref cda) ct cc) ⟨e :: pos, kw⟩ = pure ((("self" : Str), e) :: fs.zip us))
    (hq : ∀ h' tk, (∀ b o, h.get? b = some o → h'.get? b = some o) → (∃ L, h'.objs.size > L ∧ ErrAt h L h' (h.objs.size + 1) C ((fs.zip us).reverse)) → Q (.ref (h.objs.size + 1)) ⟨h', g, d, tk, os⟩) :
    wpAny (model prog w) A (call (.ref C) pos kw) Q E ⟨h, g, d, t, os⟩ := by
  obtain ⟨nm, q, N, bs, bm, sn, sub, ab, col, dd, k0, k1, k2, k3, k5, hC, hbm⟩ := T.cls
  refine wpAny_call (call_ownK PySem.F.excBase_ValueError (fun Y => refsVE_contains Y bm hbm) (X _ _ hC) (looks_findIn X T.init) (fun self => bind_fn X self T.tyI) hz ?_)
  have kk : ∀ b o, h.get? b = some o → ((h.push (W.kdv_tup pos)).push (excO C h.objs.size)).get? b = some o := fun b o e => Heap.get?_push_of_some _ (Heap.get?_push_of_some _ e)
  have hget : ((h.push (W.kdv_tup pos)).push (excO C h.objs.size)).get? (h.objs.size + 1) = some (excO C h.objs.size) := by heap_get
  refine err_init (t0 := h.objs.size) T X (hr.make C pos kw).depth hg hms hb hbb hlim kk (by rw [Heap.size_push, Heap.size_push]; omega) ?_ hget hu (hbd _) (fun h' tk k at_ => ?_)
  · cases z : h.get? (h.objs.size + 1) with
    | none => rfl
    | some o => exact absurd (Heap.lt_size z) (Nat.not_lt.mpr (Nat.le_succ _))
  · exact ⟨rfl, hq h' tk k at_⟩
end
end PySem.ErrX

set_option maxHeartbeats 4000000
/-! HQ: own errors as values in the hand layer: making, isinstance, fields. -/
namespace PySem.ErrX
open PySem PySem.W PySem.Calls PyProof.Rows PySem.HandSPX
section
variable {prog : Program} {w : World} {A : Around} {E : Value → Shared → Prop} {s : Shared} {K : Frag} {x D : Addr} {ox : Obj} {od : Option Obj}
theorem findObj_dataO {C : Addr} {name : Str} {a g : Value} (hc : (clsIn K C).isSome = true) (ha : findIn K (.ref C) name = some (some a)) (hg : specialIn K a "__get__" = some (some g)) (ht : takesIn K a = some true) : findObj K C od name = some (.bind g a) := by
  obtain ⟨cd, hc⟩ := Option.isSome_iff_exists.mp hc
  unfold findObj
  rw [hc, Option.bind_some, ha, Option.bind_some]
  simp [hg, ht]
/-- x.__class__ of an error -/
theorem class_of_err {Q : Option Value → Shared → Prop} (T : L2.ExcC K D) (X : K.In s.heap) (I : InstAt s.heap x ox D od) (h : Q (some (.ref D)) { s with toks := s.toks + 1 }) : wpAny (model prog w) A (getAttr? (.ref x) "__class__") Q E s := by
  have hf : findObj K D od "__class__" = some (.bind (.builtin "getset_descriptor.__get__") (.builtin "object.__class__")) := findObj_dataO (by obtain ⟨cd, hc, _⟩ := any_some T.hd; rw [hc]; rfl) T.ha T.hn T.ht
  obtain ⟨hp, g, d, t, os⟩ := s
  have L0 := I.type (M := model prog w)
  have L1 := looks_findIn (M := model prog w) X T.hg
  have L2 := looks_findIn (M := model prog w) X T.hk
  have L3 := looks_find (M := model prog w) X I hf
  have sub : Looks (model prog w) hp (isInstance (.ref x) (.type "BaseException")) true := L0.andThen (looks_subIn X T.hs)
  have hx0 : (false && onTheHeap (Value.builtin "BaseException.__getattribute__")) = false := rfl
  have hx2 : (Value.builtin "BaseException.__getattribute__" == Value.builtin "object.__getattribute__") = false := by decide +kernel
  have hx1 : (onTheHeap (Value.ref D) && Value.builtin "BaseException.__getattribute__" == Value.builtin "object.__getattribute__") = false := by rw [hx2]; rfl
  unfold getAttr? getAttrBy? getAttrBy
  refine wpAny_bind (wpAny_mkText (wpAny_bind (wpAny_attempt (wpAny_holding (wpAny_bind (L0.at (wpAny_bind (L1.at ?_))))))))
  show wpAny _ _ (if (onTheHeap (Value.ref D) && Value.builtin "BaseException.__getattribute__" == Value.builtin "object.__getattribute__") = true then _ else _) _ _ _
  rw [hx1, if_neg Bool.false_ne_true]
  unfold getAttrByItsOwn hookBefore
  refine wpAny_bind ?_
  rw [if_pos (show onTheHeap (Value.ref D) = true from rfl)]
  refine L2.at ?_
  refine wpAny_bind (wpAny_attempt (wpAny_holding ?_))
  unfold callGetattribute
  rw [hx0, if_neg Bool.false_ne_true]
  unfold boundAndCalled
  rw [PySem.F.excAttr_ValueError.ga.bind (.ref x)]
  refine wpAny_bind (wpAny_pure ?_)
  show wpAny _ _ (call (.builtin "BaseException.__getattribute__") [.ref x, .str "__class__" t]) _ _ _
  refine wpAny_call (codeAny_call_builtin PySem.F.excAttr_ValueError.ga.plain PySem.F.entry_bexc_ga ?_)
  refine @check_slot (model prog w) _ _ ⟨hp, g, d, t + 1, os⟩ "BaseException.__getattribute__" "BaseException" "__getattribute__" (.ref x) [.str "__class__" t] [] _ (by decide +kernel) (by decide +kernel) sub (PySem.F.args_bexc_ga (.ref x) (.str "__class__" t)) ?_
  unfold Builtin.«object.__getattribute__»
  refine wpAny_bind (wpAny_of_eq (a := ((Value.ref x : Value), [Value.str "__class__" t])) (by first | rfl | (simp only [slotArgs]; rfl)) ?_)
  refine wpAny_bind (wpAny_pure (wpAny_bind (L0.at (wpAny_bind (L3.at ?_)))))
  show wpAny _ _ (holding [Value.builtin "object.__class__"] (call (.builtin "getset_descriptor.__get__") [.builtin "object.__class__", .ref x, .ref D]) >>= ret) _ _ _
  refine wpAny_bind (wpAny_holding (wpAny_call (class_get (s := ⟨hp, g, d, t + 1, os⟩) (ox := ox) (od := od) X I T.hm ?_)))
  refine wpAny_pure ?_
  show wpAny _ _ (handedOut (.ref D)) _ _ _
  rw [handedOut_of (v := .ref D) rfl]
  first
    | exact wpAny_pure (wpAny_pure h)
    | exact wpAny_pure h
    | exact wpAny_pure (wpAny_bind (wpAny_pure (wpAny_pure h)))
theorem kitx_err (T : L2.ExcC K D) : KitX K (.ref x) (.ref D) (fun h => ∃ ox od, InstAt h x ox D od) where
  ty := fun _ _ _ ⟨_, _, I⟩ => I.type
  it := fun _ _ X _ => by
    obtain ⟨cdD, hcD, _⟩ := any_some T.hd
    unfold clsIn at hcD
    split at hcD
    · rename_i c' d' cd' sl' ho
      intro A' Q' E' s' k q
      unfold isType loadHead
      exact wpAny_bind (wpAny_loadPart (k _ _ (X _ _ ho)) (wpAny_pure q))
    · cases hcD
  ne := fun h tp dd its n sl X htp => by
    obtain ⟨cdD, hcD, _⟩ := any_some T.hd
    refine Bool.eq_false_iff.mpr fun q => ?_
    have e : D = tp := Value.ref.inj (beq_iff_eq.mp q)
    subst e
    unfold clsIn at hcD
    split at hcD
    · rename_i c' d' cd' sl' ho
      have z := (X _ _ ho).symm.trans htp
      cases z
    · cases hcD
  ca := fun X ⟨_, _, I⟩ k => class_of_err T X I k
end
end PySem.ErrX

namespace HG
open PySem PySem.Spec PyProof.Rows L2 PySem.ErrX
/-- an error at a with its dict at dx; l: the fields, the last one first -/
def errH (H : Hp) (a dx C : Addr) : List (Str × V) → Hp
  | [] => upd H a (exo a C none)
  | p :: l => upd (upd H dx (exd dx (p :: l))) a (exo a C (some dx))
/-- isinstance(e, c), e such an error -/
def rIsErr (K : PySem.W.Frag) : List V → Hp → VK → Prop := fun xs H Q => ∃ (a D : Addr) (dx : Option Addr) (c : V) (u : Value) (b : Bool), xs = [.ref a, c] ∧ ClsV c u ∧ H a = some (exo a D dx) ∧ (∀ d, dx = some d → ∃ fs, H d = some (exd d fs)) ∧ ExcC K D ∧ PySem.W.kitOne K (.ref D) u = some b ∧ Q (.bl b) H
section
variable {X : Cx}
theorem call_isErr : CallR X (.builtin "isinstance") (rIsErr X.K) := by
  intro pins s σ H xs us Q I r h
  obtain ⟨a, D, dx, c, u, b, rfl, k, ha, hd, T, e, q⟩ := h
  obtain ⟨u1, u2, rfl, r1, r2⟩ := vals2 r
  cases (show u1 = Value.ref a from r1)
  have e2 := k.eq r2
  subst e2
  obtain ⟨t1, ho⟩ := exo_at I.hok ha
  have J : ∃ ox od, PySem.W.InstAt s.heap a ox D od := by
    cases dx with
    | none => exact ⟨_, none, ho, rfl, rfl, trivial⟩
    | some d =>
      obtain ⟨fs, hd⟩ := hd d rfl
      obtain ⟨mA, hns, _⟩ := exd_at I.hok hd
      obtain ⟨o, _, _, hod, _⟩ := hns
      exact ⟨_, some o, ho, rfl, rfl, hod⟩
  exact PySem.W.kia_one (kitx_err T) I.kIn J e (fun z => nomatch z) fun tk => ⟨.bl b, H, I.tok tk, rfl, q⟩
/-- e.f -/
def tErrF (K : PySem.W.Frag) (f : Str) (te : TE) : TE := fun σ H Q => te σ H fun x H1 => ∃ (a C dx : Addr) (fs : List (Str × V)) (v : V), x = .ref a ∧ H1 a = some (exo a C (some dx)) ∧ H1 dx = some (exd dx fs) ∧ XfC K C ∧ PySem.W.findIn K (.ref C) f = some none ∧ fs.lookup f = some v ∧ Q v H1
theorem pe_errF {e : Expr} {te : TE} {pos : Pos} {n : Str} (he : PE X e te) (hb : attributeBase e n X.env (eval e X.env) = eval e X.env := by rfl) : PE X (.Attribute e n pos) (tErrF X.K n te) := by
  refine ⟨fun pins s σ H Q I h => ?_⟩
  refine attr_of hb (thn (he.run pins s σ H _ I h) fun u s1 hh => ?_)
  obtain ⟨x, H1, I1, rx, a, C, dx, fs, v, ex, ea, ed, T, hno, l, q⟩ := hh
  subst ex
  obtain rfl : u = Value.ref a := rx
  obtain ⟨t1, ho⟩ := exo_at I1.hok ea
  obtain ⟨mA, hns, hr⟩ := exd_at I1.hok ed
  obtain ⟨od, hod, hl⟩ := lookIn_ns hns
  obtain ⟨u, hu, ru⟩ := RelO.some_of (v := v) (o := mA n) (by rw [← l]; exact hr n)
  have J : PySem.W.InstAt s1.heap a _ C (some od) := ⟨ho, rfl, rfl, hod⟩
  exact HandSPX.exc_get I1.kIn J T.ga T.gg T.exC (PySem.W.findObj_own T.hdC hno rfl (by rw [hl, hu])) (handed_of ru) ⟨v, H1, I1.tok _, ru, q⟩
end
end HG

set_option maxHeartbeats 4000000
/-! HR: own errors made as values: C(), C(x, ..), C(f = x, ..). -/
namespace HG
open PySem PySem.Spec PyProof.Rows L2 PySem.ErrX
theorem relO_fields : ∀ {l : List (Str × V)} {l' : List (Str × Value)}, Paired (fun (p : Str × V) (q : Str × Value) => p.1 = q.1 ∧ RelV p.2 q.2) l l' → ∀ f, RelO (l.lookup f) (l'.lookup f)
  | [], _, .nil, f => True.intro
  | p :: l, q :: l', .cons h t, f => by
    obtain ⟨a, x⟩ := p
    obtain ⟨b, y⟩ := q
    obtain ⟨h1, h2⟩ := h
    have e : a = b := h1
    subst e
    rw [List.lookup_cons, List.lookup_cons]
    cases (f == a) with
    | true => exact h2
    | false => exact relO_fields t f
theorem zip_fields : ∀ {fs : List Str} {vs : List V} {us : List Value}, Vals vs us → Paired (fun (p : Str × V) (q : Str × Value) => p.1 = q.1 ∧ RelV p.2 q.2) (fs.zip vs) (fs.zip us)
  | [], _, _, _ => by simp; exact .nil
  | f :: fs, _, _, .nil => by simp; exact .nil
  | f :: fs, _, _, .cons h t => .cons ⟨rfl, h⟩ (zip_fields t)
theorem paired_app {α β : Type} {R : α → β → Prop} : ∀ {a : List α} {b : List β} {c : List α} {d : List β}, Paired R a b → Paired R c d → Paired R (a ++ c) (b ++ d)
  | _, _, _, _, .nil, h => h
  | _, _, _, _, .cons x y, h => .cons x (paired_app y h)
theorem paired_rev {α β : Type} {R : α → β → Prop} : ∀ {a : List α} {b : List β}, Paired R a b → Paired R a.reverse b.reverse
  | _, _, .nil => .nil
  | _, _, .cons x y => by
    rw [List.reverse_cons, List.reverse_cons]
    exact paired_app (paired_rev y) (.cons x .nil)
section
variable {X : Cx} {C fI : Addr} {q : Str} {args : Arguments} {body : List Stmt} {scope : Scope} {fs : List Str}
theorem err_run {pins : List (Addr × Obj)} {σ : L2.St} {H1 : Hp} {s1 : Shared} {us : List Value} {vs : List V} {pos : List Value} {kw : List (Str × Value)} {Q : VK}
    (T : ErrT X.prog X.K C fI q args body scope fs) (hr : Room 1 X.A) (hms : X.mg "super" = none) (I1 : Inv X pins σ H1 s1) (r1 : Vals vs us) (hl : vs.length = fs.length) (hz : pos.length ≤ sizeLine)
    (hbd : ∀ (e : Value) (doc pm ct : Value) (an : Option Addr) (cda cc : Addr), bindArgs (PySem.W.ksFn "__init__" q args body scope .none .none doc pm an (.ref cda) ct cc) ⟨e :: pos, kw⟩ = pure ((("self" : Str), e) :: fs.zip us))
    (hq : ∀ a dx, H1 a = none → H1 dx = none → dx ≠ a → Q (.ref a) (errH H1 a dx C (fs.zip vs).reverse)) :
    wpAny (model X.prog X.w) X.A (call (.ref C) pos kw) (EP X pins σ Q) X.xe s1 := by
  have e0 := I1.env0
  obtain ⟨mb, hmb, hbb⟩ := e0.mod.blt
  have bk : ∀ b o, X.base.get? b = some o → s1.heap.get? b = some o := fun b o e => (e0.bs b o e).1
  obtain ⟨hp, g, dr, tk, os⟩ := s1
  refine err_make (g := g) (d := dr) (os := os) T I1.kIn hr (e0.mod.glob.keeps bk) hms (hmb.keeps bk) ((hbb _ (by decide)).trans PyProof.Rows.Boot.«super») (e0.mod.nolimit.keeps bk) (us := us) (by rw [← r1.length]; exact hl) hz hbd (fun h' tk' k hat => ?_)
  obtain ⟨L, _, at_⟩ := hat
  have ng : hp.get? (hp.objs.size + 1) = none := by
    cases z : hp.get? (hp.objs.size + 1) with
    | none => rfl
    | some o => exact absurd (Heap.lt_size z) (Nat.not_lt.mpr (Nat.le_succ _))
  have hn : H1 (hp.objs.size + 1) = none := I1.hok.gone ng
  have hrel := relO_fields (paired_rev (zip_fields (fs := fs) r1))
  rcases at_ with ⟨hnil, t1, ho⟩ | ⟨hne, t1, dx, ho, hns, _, hde, hdp⟩
  · have hv : (fs.zip vs).reverse = [] := by
      have e1 := congrArg List.length hnil
      rw [List.length_reverse, List.length_zip, ← r1.length, ← List.length_zip, List.length_nil] at e1
      rw [List.length_eq_zero_iff.mp e1]
      rfl
    have qq := hq (hp.objs.size + 1) (hp.objs.size + 2) hn (I1.hok.fresh (Nat.le_add_right _ 2)) (Nat.ne_of_gt (Nat.lt_succ_self _))
    rw [hv] at qq
    exact ⟨.ref _, _, I1.laidN (t' := tk') (o := exo (hp.objs.size + 1) C none) k ng hn (exo_ok ho), rfl, qq⟩
  · obtain ⟨G, g1, g2⟩ := restrict h' fun b => decide (b ≠ hp.objs.size + 1)
    have gk : ∀ b, b ≠ hp.objs.size + 1 → G.get? b = h'.get? b := fun b hb => g1 b (decide_eq_true hb)
    have ge : G.get? (hp.objs.size + 1) = none := g2 _ (by simp)
    have hnd : H1 dx = none := I1.hok.gone hdp
    have kG : ∀ b u, hp.get? b = some u → G.get? b = some u := fun b u z => by
      rw [gk b (fun y => by rw [y, ng] at z; cases z)]
      exact k b u z
    have kG2 : ∀ b u, G.get? b = some u → h'.get? b = some u := fun b u z => by
      by_cases hb : b = hp.objs.size + 1
      · rw [hb, ge] at z; cases z
      · rw [← gk b hb]; exact z
    have hnsG : G.Ns1 dx (fun y => (fs.zip us).reverse.lookup y) := hns.at fun o z => by rw [gk dx hde]; exact z
    have I2 := I1.laidN (t' := tk') (a := dx) (o := exd dx (fs.zip vs).reverse) kG hdp hnd (exd_ok hnsG hrel)
    have hn2 : (upd H1 dx (exd dx (fs.zip vs).reverse)) (hp.objs.size + 1) = none := by rw [upd_ne hde.symm]; exact hn
    have I3 := I2.laidN (t' := tk') (a := hp.objs.size + 1) (o := exo (hp.objs.size + 1) C (some dx)) (h' := h') kG2 ge hn2 (exo_ok ho)
    have qq := hq (hp.objs.size + 1) dx hn hnd hde
    refine ⟨.ref _, _, I3, rfl, ?_⟩
    cases e : (fs.zip vs).reverse with
    | nil =>
      exfalso
      apply hne
      have e1 := congrArg List.length e
      rw [List.length_reverse, List.length_zip, r1.length, ← List.length_zip, List.length_nil] at e1
      rw [List.length_eq_zero_iff.mp e1]
      rfl
    | cons p l =>
      rw [e] at qq
      exact qq
/-- an own error's class of the top -/
structure ErrC (P : Program) (K : PySem.W.Frag) (mg : Str → Option Value) (x : Str) (q : Str) (args : Arguments) (body : List Stmt) (scope : Scope) (fs : List Str) : Prop where
  t : ∃ fI, ErrT P K (He.ga K x) fI q args body scope fs
  gl : mg x = some (.ref (He.ga K x))
  sp : mg "super" = none
def tErr (C : Addr) (fs : List Str) (gV : List V → List V) (ta : TA) : TE := fun σ H Q => ta σ H fun vs H1 => (gV vs).length = fs.length ∧ vs.length ≤ 1000 ∧ ∀ a dx, H1 a = none → H1 dx = none → dx ≠ a → Q (.ref a) (errH H1 a dx C (fs.zip (gV vs)).reverse)
variable {x : Str} {p pos : Pos} {e : Expr} {es : List Expr} {t : TA} {kws : List Keyword}
theorem pe_err (E : ErrC X.prog X.K X.mg x q args body scope fs) (hr : Room 1 X.A) (hg : Gl X x) (ha : PA X (e :: es) t)
    (hb : ∀ (e : Value) (doc pm ct : Value) (an : Option Addr) (cda cc : Addr) (us : List Value), us.length = fs.length → bindArgs (PySem.W.ksFn "__init__" q args body scope .none .none doc pm an (.ref cda) ct cc) ⟨e :: us, []⟩ = pure ((("self" : Str), e) :: fs.zip us))
    (hdb : (x == ("__debug__" : Str)) = false := by decide) (he : starEach (e :: es) X.env = (false, eval e X.env) :: starEach es X.env := by rfl) (hpl : (backTo pos (starEach es X.env)).any (·.1) = false := by rfl) :
    PE X (.Call (.Name x p) (e :: es) [] pos) (tErr (He.ga X.K x) fs id t) := by
  obtain ⟨fI, T⟩ := E.t
  refine ⟨fun pins s σ H Q I h => ?_⟩
  refine wpAny_Call_Name_kw (ld_glob I hg E.gl ?_ hdb)
  refine PySem.W.callWith_K (h₀ := X.base) I.ok.mod.kin T.kC (thn (ha.run pos pins s σ H _ I h) fun us s1 ⟨vs, H1, I1, r1, hl, hz, q1⟩ => ⟨I1.kIn, ?_⟩) he hpl
  have hl' : us.length = fs.length := by rw [← r1.length]; exact hl
  exact err_run (vs := vs) T hr E.sp I1 r1 hl (show us.length ≤ sizeLine by rw [← r1.length]; exact Nat.le_trans hz (by decide)) (fun e doc pm ct an cda cc => hb e doc pm ct an cda cc us hl') q1
theorem pe_err0 (E : ErrC X.prog X.K X.mg x q args body scope []) (hr : Room 1 X.A) (hg : Gl X x)
    (hb : ∀ (e : Value) (doc pm ct : Value) (an : Option Addr) (cda cc : Addr), bindArgs (PySem.W.ksFn "__init__" q args body scope .none .none doc pm an (.ref cda) ct cc) ⟨[e], []⟩ = pure [(("self" : Str), e)])
    (hdb : (x == ("__debug__" : Str)) = false := by decide) :
    PE X (.Call (.Name x p) [] [] pos) (tErr (He.ga X.K x) [] id tNil) := by
  obtain ⟨fI, T⟩ := E.t
  refine ⟨fun pins s σ H Q I h => ?_⟩
  refine wpAny_Call_Name_kw (ld_glob I hg E.gl ?_ hdb)
  refine PySem.W.callWith_K0 I.kIn T.kC ?_
  obtain ⟨_, _, q1⟩ := h
  exact err_run (vs := []) T hr E.sp I .nil rfl (Nat.zero_le _) (fun e doc pm ct an cda cc => hb e doc pm ct an cda cc) q1
theorem pe_errK {ks : List Str} {g : List Value → List Value} {gV : List V → List V} (E : ErrC X.prog X.K X.mg x q args body scope fs) (hr : Room 1 X.A) (hg : Gl X x) (hkw : PK X kws t) (rel : ∀ {zs : List V} {ws : List Value}, Vals zs ws → Vals (gV zs) (g ws))
    (hb : ∀ (e : Value) (doc pm ct : Value) (an : Option Addr) (cda cc : Addr) (us : List Value), us.length = ks.length → bindArgs (PySem.W.ksFn "__init__" q args body scope .none .none doc pm an (.ref cda) ct cc) ⟨[e], ks.zip us⟩ = pure ((("self" : Str), e) :: fs.zip (g us)))
    (hkl : ∀ vs : List V, (gV vs).length = fs.length → vs.length = ks.length)
    (hall : (backToKw pos (keywordEach kws X.env)).all (·.1.isSome) = true := by rfl)
    (hks : (backToKw pos (keywordEach kws X.env)).filterMap (·.1) = ks := by rfl)
    (hdb : (x == ("__debug__" : Str)) = false := by decide)
    (hpl : ((backTo pos (starEach [] X.env)).any (·.1) || (backToKw pos (keywordEach kws X.env)).any (·.1.isNone)) = false := by rfl) :
    PE X (.Call (.Name x p) [] kws pos) (tErr (He.ga X.K x) fs gV t) := by
  obtain ⟨fI, T⟩ := E.t
  refine ⟨fun pins s σ H Q I h => ?_⟩
  refine wpAny_Call_Name_kw (ld_glob I hg E.gl ?_ hdb)
  refine PySem.W.callWith_KW0 (h₀ := X.base) I.ok.mod.kin T.kC hall (thn (hkw.run pos pins s σ H _ I h) ?_) hpl
  rintro ws s2 ⟨zs, H2, I2, rz, l2, hz, q2⟩
  rw [hks]
  refine ⟨I2.kIn, ?_⟩
  exact err_run (vs := gV zs) (us := g ws) T hr E.sp I2 (rel rz) l2 (Nat.zero_le _) (fun e doc pm ct an cda cc => hb e doc pm ct an cda cc ws (by rw [← rz.length]; exact hkl zs l2)) q2
end
end HG

set_option maxHeartbeats 4000000
/-! HS: a head's facts with own errors. -/
namespace HG
open PySem PySem.Spec PyProof.Rows L2 PySem.ErrX
abbrev ErrD : Type := Option (Str × Arguments × List Stmt × Scope)
def cellB (K : PySem.W.Frag) (cc C : Addr) : Bool := match K.lookup cc with
  | some ⟨_, _, .cell (some (.ref D)), _⟩ => D == C
  | _ => false
def fileB (K : PySem.W.Frag) (cda : Addr) (file : Str) : Bool := match K.lookup cda with
  | some ⟨_, _, .fields vs, _⟩ => (match (vs[2]? : Option Value) with | some (Value.str f _) => f == file | _ => false)
  | _ => false
/-- __init__ of the class x, as it is written -/
def errD (file : Str) (K : PySem.W.Frag) (x : Str) : ErrD := match PySem.W.findIn K (.ref (He.ga K x)) "__init__" with
  | some (some (.ref f)) => (match K.lookup f with
    | some ⟨_, _, .func ⟨n, q, a, .stmts b, sc, gl, [(c, cc)], .none, .none, _, _, _, .ref cda, _, bl⟩, _⟩ =>
      if (n == ("__init__" : Str) && (c == ("__class__" : Str) && (gl == mainGlobals && (bl == builtinsNs && (PySem.W.codeIn K (.ref cda) q && (cellB K cc (He.ga K x) && (fileB K cda file && decide (PySem.W.typeIn K (.ref f) = some (.type "function"))))))))) = true then some (q, a, b, sc) else none
    | _ => none)
  | _ => none
def clsEB (K : PySem.W.Frag) (C : Addr) : Bool := match K.lookup C with
  | some ⟨.type t, _, .cls cd, sl⟩ => (match cd.mro, sl.toList with
    | .ref C' :: bm, [_, _, _, _, some (.builtin n), _] => t == "type" && (C' == C && (n == "ValueError.__new__" && (!cd.hasDel && (PySem.HandSPX.refsVE bm && cd.hasDict))))
    | _, _ => false)
  | _ => false
theorem clsEB_ok {K : PySem.W.Frag} {C : Addr} (h : clsEB K C = true) : ∃ nm q N bs bm sn sub ab col dd k0 k1 k2 k3 k5, K.lookup C = some (excClassObj nm q C N bs bm true sn sub ab col dd k0 k1 k2 k3 k5 "ValueError.__new__") ∧ PySem.HandSPX.refsVE bm = true := by
  unfold clsEB at h
  split at h
  · rename_i t dd cd sl hl
    split at h
    · rename_i C' bm a0 a1 a2 a3 n a5 hm hsl
      simp only [Bool.and_eq_true, beq_iff_eq, Bool.not_eq_true'] at h
      obtain ⟨h0, h1, h2, h3, h4, h5⟩ := h
      subst h0 h1 h2
      obtain ⟨nm, bs, mro, ns, qn, hd, sn, sub, ab, col, del⟩ := cd
      dsimp only at hm h3 h5
      subst hm h3 h5
      have es : sl = #[a0, a1, a2, a3, some (.builtin "ValueError.__new__"), a5] := by
        rw [← Array.toList_inj, hsl]
      subst es
      exact ⟨nm, qn, ns, bs, bm, sn, sub, ab, col, dd, a0, a1, a2, a3, a5, hl, h4⟩
    · cases h
  · cases h
def excB (K : PySem.W.Frag) (C : Addr) : Bool :=
  decide (PySem.W.findIn K (.ref C) "__class__" = some (some (.builtin "object.__class__"))) && (decide (PySem.W.specialIn K (.builtin "object.__class__") "__get__" = some (some (.builtin "getset_descriptor.__get__"))) &&
    (decide (PySem.W.takesIn K (.builtin "object.__class__") = some true) && decide (PySem.W.mroIn K C (.type "object") = some true)))
def errB (K : PySem.W.Frag) (x : Str) (fs : List Str) : Bool :=
  clsEB K (He.ga K x) && (PySem.W.excInitIn K (He.ga K x) PySem.HandSPX.veTail "ValueError.__new__" && (decide (PySem.W.findIn K (.ref (He.ga K x)) "__setattr__" = some (some (.builtin "object.__setattr__"))) &&
    (decide (PySem.W.ks_superIn K (He.ga K x) (He.ga K x) "__init__" = some (some (.builtin "ValueError.__init__"))) && (decide (PySem.W.subIn K (.ref (He.ga K x)) (.type "ValueError") = some true) && (decide (PySem.W.mroIn K (He.ga K x) (.ref (He.ga K x)) = some true) &&
      (decide (PySem.W.nsIn K cStatics "thirdparty.any" = some none) && (fs.all (fun f => decide (PySem.W.findIn K (.ref (He.ga K x)) f = some none)) && (PySem.W.keepIn K (.ref (He.ga K x)) && (xfB K (He.ga K x) && (excB K (He.ga K x) &&
        decide (PySem.W.typeIn K (.ref (He.ga K x)) = some (.type "type"))))))))))))
/-- all that is known of such a class -/
structure ErrX (K : PySem.W.Frag) (x : Str) (fs : List Str) : Prop where
  xf : XfC K (He.ga K x)
  ex : ExcC K (He.ga K x)
  ty : PySem.W.typeIn K (.ref (He.ga K x)) = some (.type "type")
  no : ∀ f ∈ fs, PySem.W.findIn K (.ref (He.ga K x)) f = some none
theorem errX_of {K : PySem.W.Frag} {x : Str} {fs : List Str} (h : errB K x fs = true) : ErrX K x fs := by
  unfold errB at h
  simp only [Bool.and_eq_true] at h
  obtain ⟨h1, h2, h3, h4, h5, h6, h7, h8, h9, h10, h11, h12⟩ := h
  have xf := xfB_ok h10
  unfold excB at h11
  simp only [Bool.and_eq_true] at h11
  obtain ⟨a, b, c, d⟩ := h11
  exact ⟨xf, ⟨xf.ga, xf.gg, xf.exC, xf.hdC, of_decide_eq_true a, of_decide_eq_true b, of_decide_eq_true c, of_decide_eq_true d⟩, of_decide_eq_true h12, fun f hf => of_decide_eq_true (List.all_eq_true.mp h8 f hf)⟩
/-- what is asked of the program -/
structure PrgOk (file : Str) (P : Program) : Prop where
  file : ((P.main.file : Str) == file) = true
  top : (P.main.scope.names.lookup ("super" : Str)).isSome = false
theorem errC_mk {P : Program} {file : Str} {K : PySem.W.Frag} {mg : Str → Option Value} {x q : Str} {a : Arguments} {b : List Stmt} {sc : Scope} {fs : List Str} (hP : PrgOk file P) (hd : errD file K x = some (q, a, b, sc)) (hb : errB K x fs = true)
    (gl : mg x = some (.ref (He.ga K x))) (sp : mg "super" = none)
    (shape : ∃ (msg : Str) (p0 p1 p2 p3 p4 p5 : Pos) (k : Nat) (zs : List SetP), b = supS msg p0 p1 p2 p3 p4 p5 k :: zs.map setS ∧ zs.map SetP.f = fs ∧
      ∃ pl : Sem Bool, ∀ (L a cc : Addr) (cda : Value), eval (.Call (.Attribute (.Call (.Name "super" p0) [] [] p1) "__init__" p2) [.Constant (.str msg) k p3] [] p4) (PySem.W.ksEnv q sc L a cda cc) = (do
        let ov ← attributeBase (.Call (.Name "super" p0) [] [] p1) "__init__" (PySem.W.ksEnv q sc L a cda cc) (eval (.Call (.Name "super" p0) [] [] p1) (PySem.W.ksEnv q sc L a cda cc))
        standAt p2.atName
        let (f, first) ← holding [ov] (getMethod ov "__init__" pl)
        callWith p4 f first (backTo p4 (starEach [.Constant (.str msg) k p3] (PySem.W.ksEnv q sc L a cda cc))) []))
    (ar : ∃ ar : Arg, (a.posonlyargs ++ a.args).head? = some ar ∧ ar.arg = "self")
    (scK : sc.kind = .function) (scC : sc.isCoroutine = false) (scG : sc.isGenerator = false) (scS : sc.names.lookup ("super" : Str) = some .globalImplicit) (scL : sc.names.lookup ("__class__" : Str) = some .free) (scN : ∀ x ∈ sc.names, x.2 ≠ .cell)
    (scV : ∀ x ∈ ("self" : Str) :: fs, sc.names.lookup x = some .local) (nd : ((("self" : Str) :: fs)).Nodup ∧ (∀ x ∈ fs, (x == ("__debug__" : Str)) = false) ∧ fs.length ≤ 100) : ErrC P K mg x q a b sc fs := by
  unfold errB at hb
  simp only [Bool.and_eq_true] at hb
  obtain ⟨h1, h2, h3, h4, h5, h6, h7, h8, h9, h10, h11, h12⟩ := hb
  unfold errD at hd
  split at hd
  · rename_i f hf
    split at hd
    · rename_i oc od n q' a' b' sc' gl' c cc doc pm an cda ct bl osl hF
      split at hd
      · rename_i hc
        simp only [Bool.and_eq_true] at hc
        obtain ⟨c1, c2, c3, c4, c5, c6, c7, c8⟩ := hc
        obtain ⟨rfl, rfl, rfl, rfl⟩ : q' = q ∧ a' = a ∧ b' = b ∧ sc' = sc := by
          have e := Option.some.inj hd
          obtain ⟨e1, e⟩ := Prod.mk.inj e
          obtain ⟨e2, e⟩ := Prod.mk.inj e
          obtain ⟨e3, e4⟩ := Prod.mk.inj e
          exact ⟨e1, e2, e3, e4⟩
        have d1 := beq_iff_eq.mp c1
        have d2 := beq_iff_eq.mp c2
        have d3 := beq_iff_eq.mp c3
        have d4 := beq_iff_eq.mp c4
        subst d1 d2 d3 d4
        refine ⟨⟨f, ⟨clsEB_ok h1, h2, of_decide_eq_true h3, of_decide_eq_true h4, of_decide_eq_true h5, of_decide_eq_true h6, of_decide_eq_true h7, hf, of_decide_eq_true c8, fun g hg => of_decide_eq_true (List.all_eq_true.mp h8 g hg), h9, ?_, shape, ar, scK, scC, scG, scS, scL, scN, scV, nd, hP.top⟩⟩, gl, sp⟩
        unfold cellB at c6
        split at c6
        · rename_i cl cld D csl hcell
          have eD := beq_iff_eq.mp c6
          subst eD
          unfold fileB at c7
          split at c7
          · rename_i ccl cdd vs ccs hcode
            split at c7
            · rename_i fl tf hvs
              have ef := beq_iff_eq.mp c7
              subst ef
              exact ⟨oc, od, osl, doc, pm, ct, an, cda, cc, ccl, cl, cdd, cld, ccs, csl, vs, fl, tf, hF, c5, hcode, hvs, hP.file, hcell⟩
            · cases c7
          · cases c7
        · cases c6
      · cases hd
    · cases hd
  · cases hd
/-! ### the Hook -/
abbrev AlE : Type := AlB × List ErrD
def obsE (file : Str) (fa : List He.Fa) (fn : List He.DefD) (ts : List He.Tab) (bx : PySem.W.Frag → Bool) (es : List Str) (K : PySem.W.Frag) : AlE := (obsB fa fn ts bx K, es.map (errD file K))
def obsEG (n : Nat) (file : Str) (fa : List He.Fa) (fn : List He.DefD) (ts : List He.Tab) (bx : PySem.W.Frag → Bool) (es : List Str) (g : Addr → Option Obj) : AlE := obsE file fa fn ts bx es (He.frG g (cStatics :: He.asD g n))
structure SaysE (file : Str) (fa : List He.Fa) (fn : List He.DefD) (ts : List He.Tab) (bx : PySem.W.Frag → Bool) (es : List Str) (ev : List ErrD) (w : World) (K : PySem.W.Frag) : Prop where
  q : obsE file fa fn ts bx es K = ((He.valT fn ts w, true), ev)
def hookE (n : Nat) (file : Str) (fa : List He.Fa) (fn : List He.DefD) (ts : List He.Tab) (bx : PySem.W.Frag → Bool) (es : List Str) (ev : List ErrD) : PySem.W.Hook where
  α := AlE
  obs := fun s => obsEG n file fa fn ts bx es s.heap.get?
  val := fun w => ((He.valT fn ts w, true), ev)
  says := fun w h => ∃ K : PySem.W.Frag, K.In h ∧ SaysE file fa fn ts bx es ev w K
  of := fun _ _ e => ⟨_, He.frG_in, ⟨e⟩⟩
  keeps := fun _ _ _ ⟨K, hK, c⟩ k => ⟨K, PySem.W.Frag.In.keeps hK k, c⟩
theorem obsEG_eq {n : Nat} {file : Str} {fa : List He.Fa} {fn : List He.DefD} {ts : List He.Tab} {bx : PySem.W.Frag → Bool} {es : List Str} {ev : List ErrD} {g : Addr → Option Obj} {s : Shared} (h : ∀ a, g a = s.heap.get? a) :
    obsEG n file fa fn ts bx es g = (hookE n file fa fn ts bx es ev).obs s := by
  have e : g = s.heap.get? := funext h
  rw [e]
  rfl
section
variable {file : Str} {fa : List He.Fa} {fn : List He.DefD} {ts : List He.Tab} {bx : PySem.W.Frag → Bool} {es : List Str} {ev : List ErrD} {w : World} {K : PySem.W.Frag}
theorem SaysE.s (c : SaysE file fa fn ts bx es ev w K) : SaysB fa fn ts bx w K := congrArg (fun z : AlE => z.1) c.q
theorem SaysE.e (c : SaysE file fa fn ts bx es ev w K) (i : Nat) {x : Str} {d : ErrD} (h1 : es[i]? = some x) (h2 : ev[i]? = some d) : errD file K x = d := by
  have h : es.map (errD file K) = ev := congrArg (fun z : AlE => z.2) c.q
  rw [← h, List.getElem?_map, h1] at h2
  exact Option.some.inj h2
end
end HG

set_option maxHeartbeats 4000000
/-! HSel: the head's look at a part of the heap only: what named globals reach (a text of many defs that are not walked). -/
namespace HG
open PySem PySem.Spec PyProof.Rows L2
/-- one more round of what objects name, the module's names left out -/
def selN (g : Addr → Option Obj) : Nat → List Addr → List Addr
  | 0, _ => []
  | n + 1, as => as ++ selN g n ((as.flatMap fun a => match g a with
    | some o => He.refsD o
    | none => []).filter fun a => !(a == mainGlobals)).eraseDups
def selD (g : Addr → Option Obj) (pk : List Str) (n : Nat) : List Addr := mainGlobals :: selN g n (pk.map fun x => He.ga (He.frG g [mainGlobals]) x)
def obsEP (pk : List Str) (n : Nat) (file : Str) (fa : List He.Fa) (fn : List He.DefD) (ts : List He.Tab) (bx : PySem.W.Frag → Bool) (es : List Str) (g : Addr → Option Obj) : AlE := obsE file fa fn ts bx es (He.frG g (cStatics :: selD g pk n))
def hookEP (pk : List Str) (n : Nat) (file : Str) (fa : List He.Fa) (fn : List He.DefD) (ts : List He.Tab) (bx : PySem.W.Frag → Bool) (es : List Str) (ev : List ErrD) : PySem.W.Hook where
  α := AlE
  obs := fun s => obsEP pk n file fa fn ts bx es s.heap.get?
  val := fun w => ((He.valT fn ts w, true), ev)
  says := fun w h => ∃ K : PySem.W.Frag, K.In h ∧ SaysE file fa fn ts bx es ev w K
  of := fun _ _ e => ⟨_, He.frG_in, ⟨e⟩⟩
  keeps := fun _ _ _ ⟨K, hK, c⟩ k => ⟨K, PySem.W.Frag.In.keeps hK k, c⟩
theorem obsEP_eq {pk : List Str} {n : Nat} {file : Str} {fa : List He.Fa} {fn : List He.DefD} {ts : List He.Tab} {bx : PySem.W.Frag → Bool} {es : List Str} {ev : List ErrD} {g : Addr → Option Obj} {s : Shared} (h : ∀ a, g a = s.heap.get? a) :
    obsEP pk n file fa fn ts bx es g = (hookEP pk n file fa fn ts bx es ev).obs s := by
  have e : g = s.heap.get? := funext h
  rw [e]
  rfl
end HG

set_option maxHeartbeats 0
namespace K39
open PySem PySem.Spec PyProof.Rows L2 HG
def top (i : Nat) : Stmt := PySem.Challenge.pw_wholeapart_k39_applies_with_one_target.main.body.getD i (.Pass ⟨0, 0, 0, 0⟩)
def dd (x : Str) (i : Nat) : He.DefD := ⟨(x, none), x, x, defArgs (top i), defBody (top i), defScope (top i), [], []⟩
def dm (C m q : Str) (i j : Nat) : He.DefD := ⟨(C, some m), m, q, defArgs (inClass (top i) j), defBody (inClass (top i) j), defScope (inClass (top i) j), [], []⟩
def fn : List He.DefD := [dd "size_of" 19, dd "is_integer" 24, dd "is_name" 26, dd "is_full_name" 32, ⟨("is_ascending_questions", none), "is_ascending", "is_ascending", defArgs (top 36), defBody (top 36), defScope (top 36), [], []⟩, dd "is_name_tuple" 38, dd "answer_fits" 40, dd "known_answer" 41, dd "is_number_below" 88, dd "instruction_at" 89, dd "devirtualized" 95, dd "is_rewrite" 121, dd "changed_by" 122, ⟨("rewritten", none), "rewritten", "rewritten", defArgs (top 123), defBody (top 123), defScope (top 123), [.non, .non], []⟩, dd "_law_deck" 125, dd "_law_draw" 126, dd "_law_pick" 127, dd "_law_word" 128, dd "_law_operand" 129, dd "_law_row" 130, dd "_law_graph" 131, dd "_law_told" 132, dd "_law_called" 133, dd "_law_facts" 134, dd "_law_graph_right" 135, dd "law" 136]
def fa : List He.Fa := [.str "LETTERS" "abcdefghijklmnopqrstuvwxyz", .int "LONGEST_NAME" (8), .int "UNKNOWN" (-1), .int "MOST_INSTRUCTIONS" (2000), .free "ValueError", .free "all", .free "bool", .free "dict", .free "enumerate", .free "int", .free "isinstance", .free "len", .free "list", .free "max", .free "min", .free "range", .free "repr", .free "set", .free "sorted", .free "str", .free "sum", .free "super", .free "tuple", .free "zip", .glo "size_of", .glo "is_integer", .glo "is_name", .glo "is_full_name", .glo "is_ascending_questions", .glo "is_name_tuple", .glo "answer_fits", .glo "known_answer", .glo "is_number_below", .glo "instruction_at", .glo "devirtualized", .glo "is_rewrite", .glo "changed_by", .glo "rewritten", .glo "_law_deck", .glo "_law_draw", .glo "_law_pick", .glo "_law_word", .glo "_law_operand", .glo "_law_row", .glo "_law_graph", .glo "_law_told", .glo "_law_called", .glo "_law_facts", .glo "_law_graph_right", .glo "law", .glo "YES_OR_NO", .glo "NAME_TUPLES", .glo "PARTS", .glo "InvalidRewrite", .glo "WholeError"]
def ts : List He.Tab := [(fun K => He.ga K "PARTS", ["inline", "devirtualize", "fold", "propagate", "eliminate", "drop_stores", "tidy", "drop_arguments", "drop_result"])]
def bx (K : PySem.W.Frag) : Bool := tupB K "YES_OR_NO" [.str "live", .str "taken", .str "prints", .str "traps", .str "ends", .str "pure", .str "recursive", .str "unread", .str "unused", .str "pure_by"] && (tupB K "NAME_TUPLES" [.str "targets", .str "writes", .str "writes_by", .str "importable"] && (He.valsB K (He.ga K "PARTS") [("inline", .int 3), ("devirtualize", .int 3), ("fold", .int 2), ("propagate", .int 2), ("eliminate", .int 2), ("drop_stores", .int 2), ("tidy", .int 1), ("drop_arguments", .int 1), ("drop_result", .int 1)] && (decide (PySem.W.exmOne K (.ref (He.ga K "InvalidRewrite")) (.ref (He.ga K "InvalidRewrite")) = some true) && (decide (PySem.W.kitOne K (.ref (He.ga K "InvalidRewrite")) (.ref (He.ga K "WholeError")) = some true) && (decide (PySem.W.kitOne K (.ref (He.ga K "InvalidRewrite")) (.type "ValueError") = some true) && (errB K "InvalidRewrite" [] && (true)))))))
abbrev R : PySem.W.OpenRow := PySem.W.OpenLaw.row PySem.Challenge.rw_wholeapart_k39_applies_with_one_target
abbrev s_InvalidRewrite___init__ : Stmt := inClass (top 2) 0
abbrev file : Str := PySem.Challenge.pw_wholeapart_k39_applies_with_one_target.main.file
def es : List Str := ["InvalidRewrite"]
def ev : List ErrD := [some ("InvalidRewrite.__init__", defArgs s_InvalidRewrite___init__, defBody s_InvalidRewrite___init__, defScope s_InvalidRewrite___init__)]
def pk : List Str := (["size_of", "is_integer", "is_name", "is_full_name", "is_ascending_questions", "is_name_tuple", "answer_fits", "known_answer", "is_number_below", "instruction_at", "devirtualized", "is_rewrite", "changed_by", "rewritten", "_law_deck", "_law_draw", "_law_pick", "_law_word", "_law_operand", "_law_row", "_law_graph", "_law_told", "_law_called", "_law_facts", "_law_graph_right", "law", "YES_OR_NO", "NAME_TUPLES", "PARTS", "InvalidRewrite"] : List Str) ++ (["WholeError"] : List Str)
abbrev hk : PySem.W.Hook := hookEP pk 4 file fa fn ts bx es ev
def ob (s : PySem.W.SharedT) : AlE := obsEP pk 4 file fa fn ts bx es (HandSHeadRun.getT s)
theorem ob_eq (s : PySem.W.SharedT) : ob s = hk.obs s.abs := obsEP_eq (HandSHeadRun.getT_eq s)
def loose : List Str := (["WholeError", "InvalidRewrite", "SETTERS", "WORDS", "computed", "set_by", "operands_of", "with_operands", "with_set", "operands_of_end", "end_with_operands", "targets", "retargeted", "used_variables", "variables_of", "variable_count", "reachable", "size_of", "LETTERS", "LONGEST_NAME", "GREATEST_WORD", "is_integer", "is_word", "is_name", "YES_OR_NO", "NAME_TUPLES", "WORD_OR_NONE", "UNKNOWN", "is_full_name", "is_function_value"] : List Str) ++ (["is_value", "is_array_content", "is_ascending", "is_ascending_questions", "is_name_tuple", "is_signature", "answer_fits", "known_answer", "is_within", "is_harmless", "used_before", "used_at_end", "without_unused", "are_claims", "are_claims_eliminating", "eliminated", "is_needless", "without_stores", "with_kept_arguments", "without_arguments", "without_results", "PLAIN", "CALLS", "PAIR_PARTS", "known_fact", "value_of", "word_of", "with_word", "function_called", "loaded"] : List Str) ++ (["read_item", "result_of", "written", "without_globals", "with_value", "known_after", "known_at_end", "ways_on", "known_at_entry", "is_key", "are_pairs", "are_claims", "are_claims_folding", "are_known", "do_hold", "do_hold_folding", "folded_call", "folded_instruction", "folded_block", "folded", "is_number_below", "instruction_at", "set_to", "moved_operand", "moved_instruction", "moved_block", "inlined", "devirtualized", "LEAST_CLASS", "Classes"] : List Str) ++ (["classes_at_end", "is_ascending", "is_ascending_propagating", "is_class", "are_classes", "do_hold", "do_hold_propagating", "propagated_block", "propagated", "renumbered", "is_passage", "lasts_of", "shortened", "lead_counts", "follower", "appended", "preorder", "tidied", "MOST_INSTRUCTIONS", "PARTS", "is_rewrite", "changed_by", "rewritten", "_law_deck", "_law_draw", "_law_pick", "_law_word", "_law_operand", "_law_row", "_law_graph"] : List Str) ++ (["_law_told", "_law_called", "_law_facts", "_law_graph_right"] : List Str)
theorem runF (w : World) : HandSHeadRun.RunEq R (PySem.W.view R.prog [136]) hk ob 6000 loose (w.withFollow "special-get-raises" false) := by
  intro os
  kernel_rfl
theorem runT (w : World) : HandSHeadRun.RunEq R (PySem.W.view R.prog [136]) hk ob 6000 loose (w.withFollow "special-get-raises" true) := by
  intro os
  kernel_rfl
theorem run (w : World) : HandSHeadRun.RunEq R (PySem.W.view R.prog [136]) hk ob 6000 loose w := PySem.W.byRow2 "special-get-raises" (P := fun w => HandSHeadRun.RunEq R (PySem.W.view R.prog [136]) hk ob 6000 loose w) runF runT w
abbrev FnP (K : PySem.W.Frag) (x : Str) (st : Stmt) : Prop := ∃ fd, FunD K x x (defArgs st) (defBody st) (defScope st) [] [] (He.ga K x) fd
abbrev s_size_of : Stmt := top 19
abbrev N_size_of : List Str := ["graph", "instructions", "terminator"]
theorem sc_size_of : FnScope N_size_of ["graph"] (defScope s_size_of) := ⟨rfl, rfl, rfl, by decide +kernel, rfl, by decide +kernel, by decide +kernel⟩
abbrev s_is_integer : Stmt := top 24
abbrev N_is_integer : List Str := ["thing"]
theorem sc_is_integer : FnScope N_is_integer ["thing"] (defScope s_is_integer) := ⟨rfl, rfl, rfl, by decide +kernel, rfl, by decide +kernel, by decide +kernel⟩
abbrev s_is_name : Stmt := top 26
abbrev N_is_name : List Str := ["thing", "letter"]
theorem sc_is_name : FnScope N_is_name ["thing"] (defScope s_is_name) := ⟨rfl, rfl, rfl, by decide +kernel, rfl, by decide +kernel, by decide +kernel⟩
abbrev s_is_full_name : Stmt := top 32
abbrev N_is_full_name : List Str := ["thing", "parts"]
theorem sc_is_full_name : FnScope N_is_full_name ["thing"] (defScope s_is_full_name) := ⟨rfl, rfl, rfl, by decide +kernel, rfl, by decide +kernel, by decide +kernel⟩
abbrev s_is_ascending_questions : Stmt := top 36
abbrev N_is_ascending_questions : List Str := ["items", "k"]
theorem sc_is_ascending_questions : FnScope N_is_ascending_questions ["items"] (defScope s_is_ascending_questions) := ⟨rfl, rfl, rfl, by decide +kernel, rfl, by decide +kernel, by decide +kernel⟩
abbrev s_is_name_tuple : Stmt := top 38
abbrev N_is_name_tuple : List Str := ["thing", "one"]
theorem sc_is_name_tuple : FnScope N_is_name_tuple ["thing"] (defScope s_is_name_tuple) := ⟨rfl, rfl, rfl, by decide +kernel, rfl, by decide +kernel, by decide +kernel⟩
abbrev s_answer_fits : Stmt := top 40
abbrev N_answer_fits : List Str := ["question", "answer", "kind"]
theorem sc_answer_fits : FnScope N_answer_fits ["question", "answer"] (defScope s_answer_fits) := ⟨rfl, rfl, rfl, by decide +kernel, rfl, by decide +kernel, by decide +kernel⟩
abbrev s_known_answer : Stmt := top 41
abbrev N_known_answer : List Str := ["facts", "question", "answer"]
theorem sc_known_answer : FnScope N_known_answer ["facts", "question"] (defScope s_known_answer) := ⟨rfl, rfl, rfl, by decide +kernel, rfl, by decide +kernel, by decide +kernel⟩
abbrev s_is_number_below : Stmt := top 88
abbrev N_is_number_below : List Str := ["thing", "count"]
theorem sc_is_number_below : FnScope N_is_number_below ["thing", "count"] (defScope s_is_number_below) := ⟨rfl, rfl, rfl, by decide +kernel, rfl, by decide +kernel, by decide +kernel⟩
abbrev s_instruction_at : Stmt := top 89
abbrev N_instruction_at : List Str := ["graph", "b", "k", "word", "count", "blocks"]
theorem sc_instruction_at : FnScope N_instruction_at ["graph", "b", "k", "word"] (defScope s_instruction_at) := ⟨rfl, rfl, rfl, by decide +kernel, rfl, by decide +kernel, by decide +kernel⟩
abbrev s_devirtualized : Stmt := top 95
abbrev N_devirtualized : List Str := ["graph", "b", "k", "facts", "word", "v", "w", "args", "found", "count", "blocks", "instructions", "end", "block"]
theorem sc_devirtualized : FnScope N_devirtualized ["graph", "b", "k", "facts"] (defScope s_devirtualized) := ⟨rfl, rfl, rfl, by decide +kernel, rfl, by decide +kernel, by decide +kernel⟩
abbrev s_is_rewrite : Stmt := top 121
abbrev N_is_rewrite : List Str := ["thing"]
theorem sc_is_rewrite : FnScope N_is_rewrite ["thing"] (defScope s_is_rewrite) := ⟨rfl, rfl, rfl, by decide +kernel, rfl, by decide +kernel, by decide +kernel⟩
abbrev s_changed_by : Stmt := top 122
abbrev N_changed_by : List Str := ["graph", "rewrite", "name", "facts", "graphs", "signatures", "word"]
theorem sc_changed_by : FnScope N_changed_by ["graph", "rewrite", "name", "facts", "graphs", "signatures"] (defScope s_changed_by) := ⟨rfl, rfl, rfl, by decide +kernel, rfl, by decide +kernel, by decide +kernel⟩
abbrev s_rewritten : Stmt := top 123
abbrev N_rewritten : List Str := ["graph", "rewrite", "name", "facts", "graphs", "signatures", "found"]
theorem sc_rewritten : FnScope N_rewritten ["graph", "rewrite", "name", "facts", "graphs", "signatures"] (defScope s_rewritten) := ⟨rfl, rfl, rfl, by decide +kernel, rfl, by decide +kernel, by decide +kernel⟩
abbrev s__law_deck : Stmt := top 125
abbrev N__law_deck : List Str := ["_law_script", "_law_cells", "_law_total", "_law_cell"]
theorem sc__law_deck : FnScope N__law_deck ["_law_script"] (defScope s__law_deck) := ⟨rfl, rfl, rfl, by decide +kernel, rfl, by decide +kernel, by decide +kernel⟩
abbrev s__law_draw : Stmt := top 126
abbrev N__law_draw : List Str := ["_law_deck_here", "_law_many", "_law_turn", "_law_cell", "_law_mixed"]
theorem sc__law_draw : FnScope N__law_draw ["_law_deck_here", "_law_many"] (defScope s__law_draw) := ⟨rfl, rfl, rfl, by decide +kernel, rfl, by decide +kernel, by decide +kernel⟩
abbrev s__law_pick : Stmt := top 127
abbrev N__law_pick : List Str := ["_law_deck_here", "_law_some"]
theorem sc__law_pick : FnScope N__law_pick ["_law_deck_here", "_law_some"] (defScope s__law_pick) := ⟨rfl, rfl, rfl, by decide +kernel, rfl, by decide +kernel, by decide +kernel⟩
abbrev s__law_word : Stmt := top 128
abbrev N__law_word : List Str := ["_law_deck_here"]
theorem sc__law_word : FnScope N__law_word ["_law_deck_here"] (defScope s__law_word) := ⟨rfl, rfl, rfl, by decide +kernel, rfl, by decide +kernel, by decide +kernel⟩
abbrev s__law_operand : Stmt := top 129
abbrev N__law_operand : List Str := ["_law_deck_here", "_law_words"]
theorem sc__law_operand : FnScope N__law_operand ["_law_deck_here", "_law_words"] (defScope s__law_operand) := ⟨rfl, rfl, rfl, by decide +kernel, rfl, by decide +kernel, by decide +kernel⟩
abbrev s__law_row : Stmt := top 130
abbrev N__law_row : List Str := ["_law_deck_here", "_law_words", "_law_count", "_law_funcs", "_law_v", "_law_one", "_law_two", "_law_callee", "_law_n", "_law_word_here", "_law_cell", "_law_far", "_law_near", "_law_v_or_none", "_law_some"]
theorem sc__law_row : FnScope N__law_row ["_law_deck_here", "_law_words", "_law_count", "_law_funcs"] (defScope s__law_row) := ⟨rfl, rfl, rfl, by decide +kernel, rfl, by decide +kernel, by decide +kernel⟩
abbrev s__law_graph : Stmt := top 131
abbrev N__law_graph : List Str := ["_law_deck_here", "_law_most", "_law_count", "_law_words", "_law_many", "_law_blocks", "_law_funcs", "_law_number", "_law_rows", "_law_first", "_law_one", "_law_ends", "_law_k", "_law_v"]
theorem sc__law_graph : FnScope N__law_graph ["_law_deck_here", "_law_most", "_law_count"] (defScope s__law_graph) := ⟨rfl, rfl, rfl, by decide +kernel, rfl, by decide +kernel, by decide +kernel⟩
abbrev s__law_told : Stmt := top 132
abbrev N__law_told : List Str := ["_law_graph_here", "_law_step", "_law_facts_here", "_law_found", "e"]
theorem sc__law_told : FnScope N__law_told ["_law_graph_here", "_law_step", "_law_facts_here"] (defScope s__law_told) := ⟨rfl, rfl, rfl, by decide +kernel, rfl, by decide +kernel, by decide +kernel⟩
abbrev s__law_called : Stmt := top 133
abbrev N__law_called : List Str := ["_law_graph_here", "_law_b", "_law_k", "_law_name", "_law_rows", "_law_end", "_law_blocks", "_law_row_here"]
theorem sc__law_called : FnScope N__law_called ["_law_graph_here", "_law_b", "_law_k", "_law_name"] (defScope s__law_called) := ⟨rfl, rfl, rfl, by decide +kernel, rfl, by decide +kernel, by decide +kernel⟩
abbrev s__law_facts : Stmt := top 134
abbrev N__law_facts : List Str := ["_law_deck_here", "_law_one", "_law_odd", "_law_answers", "_law_way", "_law_facts_here"]
theorem sc__law_facts : FnScope N__law_facts ["_law_deck_here"] (defScope s__law_facts) := ⟨rfl, rfl, rfl, by decide +kernel, rfl, by decide +kernel, by decide +kernel⟩
abbrev s__law_graph_right : Stmt := top 135
abbrev N__law_graph_right : List Str := ["_law_deck_here", "_law_graph_here", "_law_places", "_law_others", "_law_b", "_law_rows", "_law_end", "_law_k", "_law_facts_here", "_law_one", "_law_due", "_law_told_here", "_law_steps", "_law_row_here", "_law_again", "_law_place", "_law_step"]
theorem sc__law_graph_right : FnScope N__law_graph_right ["_law_deck_here", "_law_graph_here"] (defScope s__law_graph_right) := ⟨rfl, rfl, rfl, by decide +kernel, rfl, by decide +kernel, by decide +kernel⟩
abbrev s_law : Stmt := top 136
abbrev N_law : List Str := ["_law_script", "_law_deck_here", "_law_turn", "_law_graph_here", "_law_kept"]
theorem sc_law : FnScope N_law ["_law_script"] (defScope s_law) := ⟨rfl, rfl, rfl, by decide +kernel, rfl, by decide +kernel, by decide +kernel⟩
def gnames : List Str := (["size_of", "is_integer", "is_name", "is_full_name", "is_ascending_questions", "is_name_tuple", "answer_fits", "known_answer", "is_number_below", "instruction_at", "devirtualized", "is_rewrite", "changed_by", "rewritten", "_law_deck", "_law_draw", "_law_pick", "_law_word", "_law_operand", "_law_row", "_law_graph", "_law_told", "_law_called", "_law_facts", "_law_graph_right", "law", "YES_OR_NO", "NAME_TUPLES", "PARTS", "InvalidRewrite"] : List Str) ++ (["WholeError"] : List Str)
structure Txt (w : World) (K : PySem.W.Frag) (mg : Str → Option Value) : Prop where
  d_size_of : FnP K "size_of" s_size_of
  d_is_integer : FnP K "is_integer" s_is_integer
  d_is_name : FnP K "is_name" s_is_name
  d_is_full_name : FnP K "is_full_name" s_is_full_name
  d_is_ascending_questions : ∃ fd, FunD K "is_ascending" "is_ascending" (defArgs s_is_ascending_questions) (defBody s_is_ascending_questions) (defScope s_is_ascending_questions) [] [] (He.ga K "is_ascending_questions") fd
  d_is_name_tuple : FnP K "is_name_tuple" s_is_name_tuple
  d_answer_fits : FnP K "answer_fits" s_answer_fits
  d_known_answer : FnP K "known_answer" s_known_answer
  d_is_number_below : FnP K "is_number_below" s_is_number_below
  d_instruction_at : FnP K "instruction_at" s_instruction_at
  d_devirtualized : FnP K "devirtualized" s_devirtualized
  d_is_rewrite : FnP K "is_rewrite" s_is_rewrite
  d_changed_by : FnP K "changed_by" s_changed_by
  d_rewritten : ∃ fd, FunD K "rewritten" "rewritten" (defArgs s_rewritten) (defBody s_rewritten) (defScope s_rewritten) [V.non, V.non] [] (He.ga K "rewritten") fd
  d__law_deck : FnP K "_law_deck" s__law_deck
  d__law_draw : FnP K "_law_draw" s__law_draw
  d__law_pick : FnP K "_law_pick" s__law_pick
  d__law_word : FnP K "_law_word" s__law_word
  d__law_operand : FnP K "_law_operand" s__law_operand
  d__law_row : FnP K "_law_row" s__law_row
  d__law_graph : FnP K "_law_graph" s__law_graph
  d__law_told : FnP K "_law_told" s__law_told
  d__law_called : FnP K "_law_called" s__law_called
  d__law_facts : FnP K "_law_facts" s__law_facts
  d__law_graph_right : FnP K "_law_graph_right" s__law_graph_right
  d_law : FnP K "law" s_law
  c_LETTERS : ∃ t, mg "LETTERS" = some (.str "abcdefghijklmnopqrstuvwxyz" t)
  c_LONGEST_NAME : ∃ t, mg "LONGEST_NAME" = some (.int (8) t)
  u_YES_OR_NO : ∀ H, SqT K H (He.ga K "YES_OR_NO") [.str "live", .str "taken", .str "prints", .str "traps", .str "ends", .str "pure", .str "recursive", .str "unread", .str "unused", .str "pure_by"]
  u_NAME_TUPLES : ∀ H, SqT K H (He.ga K "NAME_TUPLES") [.str "targets", .str "writes", .str "writes_by", .str "importable"]
  c_UNKNOWN : ∃ t, mg "UNKNOWN" = some (.int (-1) t)
  c_MOST_INSTRUCTIONS : ∃ t, mg "MOST_INSTRUCTIONS" = some (.int (2000) t)
  t_PARTS : KTab K w (He.ga K "PARTS") [("inline", .int 3), ("devirtualize", .int 3), ("fold", .int 2), ("propagate", .int 2), ("eliminate", .int 2), ("drop_stores", .int 2), ("tidy", .int 1), ("drop_arguments", .int 1), ("drop_result", .int 1)]
  exm : PySem.W.exmOne K (.ref (He.ga K "InvalidRewrite")) (.ref (He.ga K "InvalidRewrite")) = some true
  isW : PySem.W.kitOne K (.ref (He.ga K "InvalidRewrite")) (.ref (He.ga K "WholeError")) = some true
  isV : PySem.W.kitOne K (.ref (He.ga K "InvalidRewrite")) (.type "ValueError") = some true
  x_InvalidRewrite : ErrX K "InvalidRewrite" []
  e_InvalidRewrite : ∀ {P : Program}, PrgOk file P → ErrC P K mg "InvalidRewrite" "InvalidRewrite.__init__" (defArgs s_InvalidRewrite___init__) (defBody s_InvalidRewrite___init__) (defScope s_InvalidRewrite___init__) []
  n_ValueError : mg "ValueError" = none
  n_all : mg "all" = none
  n_bool : mg "bool" = none
  n_dict : mg "dict" = none
  n_enumerate : mg "enumerate" = none
  n_int : mg "int" = none
  n_isinstance : mg "isinstance" = none
  n_len : mg "len" = none
  n_list : mg "list" = none
  n_max : mg "max" = none
  n_min : mg "min" = none
  n_range : mg "range" = none
  n_repr : mg "repr" = none
  n_set : mg "set" = none
  n_sorted : mg "sorted" = none
  n_str : mg "str" = none
  n_sum : mg "sum" = none
  n_super : mg "super" = none
  n_tuple : mg "tuple" = none
  n_zip : mg "zip" = none
  g : ∀ x ∈ gnames, mg x = some (.ref (He.ga K x))
theorem glos {K : PySem.W.Frag} {h : Heap} {mg : Str → Option Value} (X : K.In h) (G : h.Ns mainGlobals mg) : ∀ {l : List Str}, (∀ x ∈ l, (He.Fa.glo x).ok K = true) → ∀ x ∈ l, mg x = some (.ref (He.ga K x)) := fun h x hx => He.glo_ok X G (h x hx)
theorem txt0 {w : World} {K : PySem.W.Frag} {h : Heap} {mg : Str → Option Value} (X : K.In h) (G : h.Ns mainGlobals mg) (c : SaysB fa fn ts bx w K) (c0 : SaysE file fa fn ts bx es ev w K) : Txt w K mg where
  d_size_of := c.d.def_ 0 (d := dd "size_of" 19) rfl
  d_is_integer := c.d.def_ 1 (d := dd "is_integer" 24) rfl
  d_is_name := c.d.def_ 2 (d := dd "is_name" 26) rfl
  d_is_full_name := c.d.def_ 3 (d := dd "is_full_name" 32) rfl
  d_is_ascending_questions := c.d.def_ 4 (d := ⟨("is_ascending_questions", none), "is_ascending", "is_ascending", defArgs (top 36), defBody (top 36), defScope (top 36), [], []⟩) rfl
  d_is_name_tuple := c.d.def_ 5 (d := dd "is_name_tuple" 38) rfl
  d_answer_fits := c.d.def_ 6 (d := dd "answer_fits" 40) rfl
  d_known_answer := c.d.def_ 7 (d := dd "known_answer" 41) rfl
  d_is_number_below := c.d.def_ 8 (d := dd "is_number_below" 88) rfl
  d_instruction_at := c.d.def_ 9 (d := dd "instruction_at" 89) rfl
  d_devirtualized := c.d.def_ 10 (d := dd "devirtualized" 95) rfl
  d_is_rewrite := c.d.def_ 11 (d := dd "is_rewrite" 121) rfl
  d_changed_by := c.d.def_ 12 (d := dd "changed_by" 122) rfl
  d_rewritten := c.d.def_ 13 (d := ⟨("rewritten", none), "rewritten", "rewritten", defArgs (top 123), defBody (top 123), defScope (top 123), [.non, .non], []⟩) rfl
  d__law_deck := c.d.def_ 14 (d := dd "_law_deck" 125) rfl
  d__law_draw := c.d.def_ 15 (d := dd "_law_draw" 126) rfl
  d__law_pick := c.d.def_ 16 (d := dd "_law_pick" 127) rfl
  d__law_word := c.d.def_ 17 (d := dd "_law_word" 128) rfl
  d__law_operand := c.d.def_ 18 (d := dd "_law_operand" 129) rfl
  d__law_row := c.d.def_ 19 (d := dd "_law_row" 130) rfl
  d__law_graph := c.d.def_ 20 (d := dd "_law_graph" 131) rfl
  d__law_told := c.d.def_ 21 (d := dd "_law_told" 132) rfl
  d__law_called := c.d.def_ 22 (d := dd "_law_called" 133) rfl
  d__law_facts := c.d.def_ 23 (d := dd "_law_facts" 134) rfl
  d__law_graph_right := c.d.def_ 24 (d := dd "_law_graph_right" 135) rfl
  d_law := c.d.def_ 25 (d := dd "law" 136) rfl
  c_LETTERS := He.str_ok X G (c.d.fact 0 (f := .str "LETTERS" "abcdefghijklmnopqrstuvwxyz") rfl)
  c_LONGEST_NAME := He.int_ok X G (c.d.fact 1 (f := .int "LONGEST_NAME" (8)) rfl)
  u_YES_OR_NO := fun H => tupB_ok (ds := [.str "live", .str "taken", .str "prints", .str "traps", .str "ends", .str "pure", .str "recursive", .str "unread", .str "unused", .str "pure_by"]) (He.ba c.b).1 H
  u_NAME_TUPLES := fun H => tupB_ok (ds := [.str "targets", .str "writes", .str "writes_by", .str "importable"]) (He.ba (He.ba c.b).2).1 H
  c_UNKNOWN := He.int_ok X G (c.d.fact 2 (f := .int "UNKNOWN" (-1)) rfl)
  c_MOST_INSTRUCTIONS := He.int_ok X G (c.d.fact 3 (f := .int "MOST_INSTRUCTIONS" (2000)) rfl)
  t_PARTS := ktab_mk c 0 (kvs := [("inline", .int 3), ("devirtualize", .int 3), ("fold", .int 2), ("propagate", .int 2), ("eliminate", .int 2), ("drop_stores", .int 2), ("tidy", .int 1), ("drop_arguments", .int 1), ("drop_result", .int 1)]) rfl rfl (He.ba (He.ba (He.ba c.b).2).2).1
  exm := of_decide_eq_true (He.ba (He.ba (He.ba (He.ba c.b).2).2).2).1
  isW := of_decide_eq_true (He.ba (He.ba (He.ba (He.ba (He.ba c.b).2).2).2).2).1
  isV := of_decide_eq_true (He.ba (He.ba (He.ba (He.ba (He.ba (He.ba c.b).2).2).2).2).2).1
  x_InvalidRewrite := errX_of (He.ba (He.ba (He.ba (He.ba (He.ba (He.ba (He.ba c.b).2).2).2).2).2).2).1
  e_InvalidRewrite := fun hP => errC_mk hP (c0.e 0 rfl rfl) (He.ba (He.ba (He.ba (He.ba (He.ba (He.ba (He.ba c.b).2).2).2).2).2).2).1 (He.glo_ok X G (c.d.fact 53 (f := .glo "InvalidRewrite") rfl)) (He.free_ok X G (c.d.fact 21 (f := .free "super") rfl)) ⟨_, _, _, _, _, _, _, _, [], rfl, rfl, _, fun _ _ _ _ => rfl⟩ ⟨_, rfl, rfl⟩ rfl rfl rfl rfl rfl (by decide +kernel) (by decide +kernel) ⟨by decide +kernel, by decide +kernel, by decide⟩
  n_ValueError := He.free_ok X G (c.d.fact 4 (f := .free "ValueError") rfl)
  n_all := He.free_ok X G (c.d.fact 5 (f := .free "all") rfl)
  n_bool := He.free_ok X G (c.d.fact 6 (f := .free "bool") rfl)
  n_dict := He.free_ok X G (c.d.fact 7 (f := .free "dict") rfl)
  n_enumerate := He.free_ok X G (c.d.fact 8 (f := .free "enumerate") rfl)
  n_int := He.free_ok X G (c.d.fact 9 (f := .free "int") rfl)
  n_isinstance := He.free_ok X G (c.d.fact 10 (f := .free "isinstance") rfl)
  n_len := He.free_ok X G (c.d.fact 11 (f := .free "len") rfl)
  n_list := He.free_ok X G (c.d.fact 12 (f := .free "list") rfl)
  n_max := He.free_ok X G (c.d.fact 13 (f := .free "max") rfl)
  n_min := He.free_ok X G (c.d.fact 14 (f := .free "min") rfl)
  n_range := He.free_ok X G (c.d.fact 15 (f := .free "range") rfl)
  n_repr := He.free_ok X G (c.d.fact 16 (f := .free "repr") rfl)
  n_set := He.free_ok X G (c.d.fact 17 (f := .free "set") rfl)
  n_sorted := He.free_ok X G (c.d.fact 18 (f := .free "sorted") rfl)
  n_str := He.free_ok X G (c.d.fact 19 (f := .free "str") rfl)
  n_sum := He.free_ok X G (c.d.fact 20 (f := .free "sum") rfl)
  n_super := He.free_ok X G (c.d.fact 21 (f := .free "super") rfl)
  n_tuple := He.free_ok X G (c.d.fact 22 (f := .free "tuple") rfl)
  n_zip := He.free_ok X G (c.d.fact 23 (f := .free "zip") rfl)
  g := by
    refine glos X G (l := gnames) ?_
    intro x hx
    obtain ⟨i, hi⟩ := List.getElem?_of_mem hx
    have e : fa[24 + i]? = some (He.Fa.glo x) := by
      have : (gnames.map He.Fa.glo)[i]? = some (He.Fa.glo x) := by rw [List.getElem?_map, hi]; rfl
      have h2 : fa.drop 24 = gnames.map He.Fa.glo := rfl
      rw [← h2, List.getElem?_drop] at this
      exact this
    exact c.d.fact (24 + i) e
theorem txt {w : World} {K : PySem.W.Frag} {h : Heap} {mg : Str → Option Value} (X : K.In h) (G : h.Ns mainGlobals mg) (c : SaysE file fa fn ts bx es ev w K) : Txt w K mg := txt0 X G c.s c
end K39

set_option maxHeartbeats 4000000
/-! HB: order of tuples of ints and texts, mixed: t < u, sorted of a dict with such keys. -/
namespace HG
open PySem PySem.SeqAt PySem.W PyProof.Rows
/-- the first unequal place is of one kind -/
inductive LexR : List L2.Key → List L2.Key → Bool → Prop
  | nn : LexR [] [] false
  | nc {b : L2.Key} {s : List L2.Key} : LexR [] (b :: s) true
  | cn {a : L2.Key} {r : List L2.Key} : LexR (a :: r) [] false
  | eq {a : L2.Key} {r s : List L2.Key} {z : Bool} : LexR r s z → LexR (a :: r) (a :: s) z
  | ii {i j : Int} {r s : List L2.Key} : i ≠ j → LexR (Sum.inl i :: r) (Sum.inl j :: s) (decide (i < j))
  | ss {x y : Str} {r s : List L2.Key} : x ≠ y → LexR (Sum.inr x :: r) (Sum.inr y :: s) (decide (x.cps.toList < y.cps.toList))
inductive LexV (fin : Bool) : List (Value × Value) → Bool → Prop
  | nil : LexV fin [] fin
  | eq {p q : Value} {r : List (Value × Value)} {z : Bool} : (∀ A s, EqAt A s p q true) → LexV fin r z → LexV fin ((p, q) :: r) z
  | ne {p q : Value} {r : List (Value × Value)} {z : Bool} : (∀ A s, EqAt A s p q false) → (∀ A s, Ob.RcOp .Lt A s p q z) →
      (∀ (prog : Program) (w : World) (A : Around) (E : Value → Shared → Prop) (s : Shared) (f : Bool) (Q : Bool → Shared → Prop), Q z s → wpAny (model prog w) A (PyProof.Rows.oneLt' f p q) Q E s) → LexV fin ((p, q) :: r) z
theorem rcLt_strs (A : Around) (s : Shared) (x : Str) (t : Tok) (y : Str) (u : Tok) : Ob.RcOp .Lt A s (.str x t) (.str y u) (decide (x.cps.toList < y.cps.toList)) := fun _ _ _ _ h => PyProof.Rows.lt_str h
theorem lexV_of {ks ls : List L2.Key} {z : Bool} (h : LexR ks ls z) : ∀ {us ws : List Value}, L2.Vals (ks.map L2.kV) us → L2.Vals (ls.map L2.kV) ws → LexV (decide (us.length < ws.length)) (us.zip ws) z := by
  induction h with
  | nn =>
    intro us ws h1 h2
    cases h1
    cases h2
    exact .nil
  | nc =>
    intro us ws h1 h2
    cases h1
    cases h2 with
    | cons r1 t1 =>
      rename_i w ws
      have e : decide (([] : List Value).length < (w :: ws).length) = true := decide_eq_true (by simp)
      rw [e]
      exact .nil
  | cn =>
    intro us ws h1 h2
    cases h2
    cases h1 with
    | cons _ _ => exact .nil
  | @eq a r s z _ ih =>
    intro us ws h1 h2
    cases h1 with
    | cons r1 t1 =>
      cases h2 with
      | cons r2 t2 =>
        have h3 := ih t1 t2
        rw [List.zip_cons_cons, List.length_cons, List.length_cons]
        have e : ∀ a b : Nat, decide (a + 1 < b + 1) = decide (a < b) := fun a b => by simp
        rw [e]
        refine .eq ?_ h3
        cases a with
        | inl i =>
          obtain ⟨t, rfl⟩ := r1
          obtain ⟨u, rfl⟩ := r2
          intro A s
          have := EqAt.int_int (A := A) (s := s) i t i u
          rw [beq_self_eq_true] at this
          exact this
        | inr x =>
          obtain ⟨t, rfl⟩ := r1
          obtain ⟨u, rfl⟩ := r2
          intro A s
          have := EqAt.str_str (A := A) (s := s) x t x u
          rw [beq_self_eq_true] at this
          exact this
  | @ii i j r s hne =>
    intro us ws h1 h2
    cases h1 with
    | cons r1 t1 =>
      cases h2 with
      | cons r2 t2 =>
        obtain ⟨t, rfl⟩ := r1
        obtain ⟨u, rfl⟩ := r2
        refine .ne (fun A s => ?_) (fun A s => Ob.RcOp.lt_int i j t u) (fun prog w A E s f Q hQ => oneLt_any_int hQ)
        have := EqAt.int_int (A := A) (s := s) i t j u
        rw [show (i == j) = false from by simpa using hne] at this
        exact this
  | @ss x y r s hne =>
    intro us ws h1 h2
    cases h1 with
    | cons r1 t1 =>
      cases h2 with
      | cons r2 t2 =>
        obtain ⟨t, rfl⟩ := r1
        obtain ⟨u, rfl⟩ := r2
        refine .ne (fun A s => ?_) (fun A s => rcLt_strs A s x t y u) (fun prog w A E s f Q hQ => oneLt_any_str hQ)
        have := EqAt.str_str (A := A) (s := s) x t y u
        rw [show (x == y) = false from by simpa using hne] at this
        exact this
section
open PySem.AutoSeq1 (wpAny_loadPart')
open PySem.MeetsSeq PySem.MeetsSeq2 PySem.MeetsSeq3
theorem tuple_ltL (l b : Addr) (xs ys : Array Value) (n n2 : Nat) (dd dd2 : Option Addr) (sl sl2 : Array (Option Value)) (z : Bool) (hz : LexV (decide (xs.size < ys.size)) (xs.toList.zip ys.toList) z) :
    Meets (Builtin.«tuple.__lt__» ⟨[.ref l, .ref b], []⟩)
      (fun _ R s => s.heap.get? l = some ⟨.type "tuple", dd, .seq xs n, sl⟩ ∧ s.heap.get? b = some ⟨.type "tuple", dd2, .seq ys n2, sl2⟩ ∧ R (.ok (.ret (.bool z))) s) :=
  .of_wp fun prog w A R s h => by
    obtain ⟨hp, g, d, tk, os⟩ := s
    obtain ⟨hl, hb, h⟩ := h
    have f2 := AutoSeq1.sub_tuple_tuple
    wp_walk using wpAny_loadPart' hl, wpAny_loadPart' hb, wpAny_forIn_list _ (fun rest b s' => b.1 = none ∧ s' = ⟨hp, g, d, tk, os⟩ ∧ LexV (decide (xs.size < ys.size)) rest z) _
    case turn =>
      rintro ⟨y, x⟩ rest b s' ⟨hb', rfl, hv⟩
      cases hv with
      | eq h1 h2 =>
        refine wpAny_bind (h1 A.in1 _ prog w _ _ ?_)
        wp_walk
        exact ⟨rfl, rfl, h2⟩
      | ne h1 h2 h3 =>
        refine wpAny_bind (h1 A.in1 _ prog w _ _ ?_)
        have hri := h2 A.in1 ⟨hp, g, d, tk, os⟩ prog w
        wp_walk using hri
        exact ⟨_, rfl, by simpa using h⟩
    case fin =>
      rintro ⟨b1, b2⟩ s' ⟨hb', rfl, hv⟩
      simp only at hb'
      subst hb'
      cases hv
      wp_walk
      exact ⟨_, rfl, by simpa [Builtin.Tuple.tupleCompareSizes] using h⟩
    case h => exact ⟨rfl, rfl, hz⟩
end
end HG
namespace HG
open PySem PySem.Spec PyProof.Rows L2
section
variable {X : Cx}
/-- t < u, tuples of ints and texts -/
def rLtK (K : PySem.W.Frag) : R2 := fun x y H Q => ∃ (a b : Addr) (ks ls : List Key) (z : Bool), x = .ref a ∧ y = .ref b ∧ SqT K H a (ks.map kV) ∧ SqT K H b (ls.map kV) ∧ LexR ks ls z ∧ Q (.bl z) H
theorem op_ltK (hu : X.A.units < cLine) : OpR X (compareOp .Lt) (rLtK X.K) := by
  intro pins s σ H x y v u Q I rx ry h
  obtain ⟨a, b, ks, ls, z, rfl, rfl, ha, hb, hz, q⟩ := h
  cases rx
  cases ry
  obtain ⟨us, r1, p1, _⟩ := I.tuple ha
  obtain ⟨ws, r2, p2, _⟩ := I.tuple hb
  obtain ⟨⟨c1, d1, e1, s1⟩, ho1, hc1, n1, hd1⟩ := p1
  obtain ⟨⟨c2, d2, e2, s2⟩, ho2, hc2, n2, hd2⟩ := p2
  dsimp only at hc1 hd1 hc2 hd2
  subst hc1 hd1 hc2 hd2
  have hv := lexV_of hz r1 r2
  have hv' : LexV (decide (us.toArray.size < ws.toArray.size)) (us.toArray.toList.zip ws.toArray.toList) z := by simpa using hv
  exact richCompare_meets_room (op := .Lt) ⟨_, ho1, rfl⟩ ⟨_, ho2, rfl⟩ PySem.F.slot_tuple_lt PySem.F.entry_tuple_lt (PySem.F.args_tuple_lt_2 _ _) (tuple_ltL a b _ _ n1 n2 d1 d2 s1 s2 z hv')
    ⟨ho1, ho2, show Value.bool z ≠ Value.notImplemented ∧ EP X pins σ Q (.bool z) s from ⟨(fun y => nomatch y), ⟨.bl z, H, I, rfl, q⟩⟩⟩ hu
theorem katlex_of {prog : Program} {w : World} {A : Around} {s : Shared} {b fin z : Bool} {Q : Bool → Shared → Prop} {l : List (Value × Value)} (h : LexV fin l z) (hq : Q z s) : ∀ i, PySem.W.KatLex prog w A b fin Q l i s := by
  induction h with
  | nil => intro i; exact PySem.W.kat_nil hq
  | eq h1 _ ih => intro i; exact PySem.W.kat_cons (h1 A s prog w _ _ (PySem.W.kat_yes (ih hq (i + 1))))
  | ne h1 h2 h3 => intro i; exact PySem.W.kat_cons (h1 A s prog w _ _ (PySem.W.kat_no (h3 prog w A _ s _ Q hq)))
theorem kV_inj : ∀ {a b : Key}, kV a = kV b → a = b
  | .inl _, .inl _, h => by cases h; rfl
  | .inr _, .inr _, h => by cases h; rfl
  | .inl _, .inr _, h => by cases h
  | .inr _, .inl _, h => by cases h
theorem kVs_inj : ∀ {a b : List Key}, a.map kV = b.map kV → a = b
  | [], [], _ => rfl
  | x :: a, y :: b, h => by
    rw [List.map_cons, List.map_cons] at h
    injection h with h1 h2
    rw [kV_inj h1, kVs_inj h2]
  | [], _ :: _, h => by simp at h
  | _ :: _, [], h => by simp at h
/-- sorted(d), d a dict with tuples of ints and texts as keys, each with a text ahead -/
def rSortDT : List V → Hp → VK → Prop := fun vs H Q => ∃ (a : Addr) (kvs : List (List Key × V)) (ρ : List Key → Int), vs = [.ref a] ∧ H a = some (.dT kvs) ∧ kvs.length < 64 ∧ (∀ k ∈ kvs.map (·.1), ∃ x r, k = Sum.inr x :: r) ∧
  (∀ k ∈ kvs.map (·.1), ∀ k' ∈ kvs.map (·.1), LexR k k' (decide (ρ k < ρ k'))) ∧
  ∀ (l : Addr) (ps : List (Addr × List Key)), H l = none → (ps.map (·.2)).Perm (kvs.map (·.1)) → (ps.map (·.2)).Pairwise (fun e f => ρ e ≤ ρ f) → (∀ z ∈ ps, H z.1 = some (.tup (z.2.map kV))) → Q (.ref l) (upd H l (.lst (ps.map fun z => V.ref z.1)))
theorem cr_sortedDT (hc : X.calm = true) (hu : X.A.units + 64 < cLine) : CallR X (.builtin "sorted") rSortDT := by
  intro pins s σ H xs us Q I r h
  obtain ⟨a, kvs, ρ, rfl, ha, h64, hhd, hlx, q⟩ := h
  obtain rfl := Vals.ref1 r
  obtain ⟨_, lo, xs', rel, o, es, ep, ho, hx, hdat, hes, his, hnd⟩ := dt_of I.hok ha
  have l1 : kvs.length = xs'.length := Paired.length rel
  have l2 : es.size = xs'.length := size_of_entries hes
  have keys : kvs.map (·.1) = xs'.map (·.1) := by
    have key : ∀ {A : List (List Key × V)} {B : List (List Key × Addr × Value)}, KT H A B → A.map (·.1) = B.map (·.1) := by
      intro A B rel
      induction rel with
      | nil => rfl
      | cons h _ ih => rw [List.map_cons, List.map_cons, ih, h.1]
    exact key rel
  have trk : ∀ x ∈ xs', H x.2.1 = some (.tup (x.1.map kV)) := by
    intro x hx'
    obtain ⟨j, hj⟩ := List.getElem?_of_mem hx'
    obtain ⟨e0, _, r1, r2, _⟩ := DX.pget rel hj
    rw [← r1]
    exact r2
  -- the rank of a value
  let rk : Value → Int := fun v => match xs'.find? (fun x => Value.ref x.2.1 == v) with
    | some x => ρ x.1
    | none => 0
  have rk_is : ∀ x ∈ xs', rk (.ref x.2.1) = ρ x.1 := by
    intro x hx'
    show (match xs'.find? (fun y => Value.ref y.2.1 == Value.ref x.2.1) with | some y => ρ y.1 | none => 0) = ρ x.1
    cases hf : xs'.find? (fun y => Value.ref y.2.1 == Value.ref x.2.1) with
    | none =>
      have := List.find?_eq_none.mp hf x hx'
      simp at this
    | some y =>
      have h1 := List.mem_of_find?_eq_some hf
      have h2 := List.find?_some hf
      have h3 : y.2.1 = x.2.1 := by simpa using h2
      have h4 := trk y h1
      rw [h3, trk x hx'] at h4
      have h5 : x.1.map kV = y.1.map kV := by injection (Option.some.inj h4)
      rw [kVs_inj h5]
  refine Calls.call_function_entry PyProof.Rows.kind_sorted PyProof.Rows.plain_sorted PyProof.Rows.entry_sorted (PyProof.Rows.args_sorted1 _) ?_
  unfold Builtin.«sorted»
  refine wpAny_bind (m := checkCount "sorted" 1 1 _) (wpAny_pure ?_)
  refine wpAny_bind (PySem.W.kdu_collect (A := X.A.in1) (PySem.KdlSrc.rawDict (es := es) (ep := ep) lo) (I.ok.hd hc) ⟨o, ho, hx, hdat⟩ (by rw [l2, ← l1, sizeLine_eq]; omega) fun h' tk acc hk hacc => ?_)
  have hal : acc.toList.length = xs'.length := by rw [Array.length_toList, hacc.1, l2]
  have hav : acc.toList = xs'.map fun x => Value.ref x.2.1 := by
    refine List.ext_getElem? fun j => ?_
    rw [List.getElem?_map]
    cases hxj : xs'[j]? with
    | none =>
      show acc.toList[j]? = none
      rw [List.getElem?_eq_none_iff] at hxj ⊢
      omega
    | some x =>
      have hj : j < acc.toList.length := by rw [hal]; exact (List.getElem?_eq_some_iff.mp hxj).1
      obtain ⟨v, hv⟩ : ∃ v, acc.toList[j]? = some v := ⟨_, List.getElem?_eq_getElem hj⟩
      rw [hv]
      obtain ⟨hi, rfl⟩ := hacc.2 j v (by rw [← Array.getElem?_toList]; exact hv)
      have e1 := entry_at hes j
      rw [hxj, Array.getElem?_eq_getElem hi] at e1
      have e2 : es[j] = entryOfKey (tupleKind (mixKind X.prog X.w)) x := Option.some.inj e1
      rw [e2]
      rfl
  refine wpAny_bind (wpAny_newList ?_ (by rw [hal, ← l1, sizeLine_eq]; omega))
  have hob : (h'.push (seqObj "list" acc.toList.toArray 0)).get? h'.objs.size = some (seqObj "list" acc.toList.toArray 0) := Heap.get?_push_size _ rfl
  show wpAny _ _ _ _ _ { s with heap := h'.push (seqObj "list" acc.toList.toArray 0), toks := tk }
  have kb : ∀ b u, s.heap.get? b = some u → b ≠ h'.objs.size ∧ (h'.push (seqObj "list" acc.toList.toArray 0)).get? b = some u := fun b u e => ⟨Nat.ne_of_lt (Heap.lt_size (hk b u e)), Heap.get?_push_of_some _ (hk b u e)⟩
  have ka : ∀ b u, h'.get? b = some u → b ≠ h'.objs.size ∧ (h'.push (seqObj "list" acc.toList.toArray 0)).get? b = some u := fun b u e => ⟨Nat.ne_of_lt (Heap.lt_size e), Heap.get?_push_of_some _ e⟩
  have I1 : Inv X pins σ H { s with heap := h', toks := tk } := I.kept hk
  generalize hh2 : h'.push (seqObj "list" acc.toList.toArray 0) = h2 at hob kb ka ⊢
  -- the tuples in the heap of the sort
  have tup : ∀ x ∈ xs', ∃ (ot : Obj) (its : List Value) (nt : Nat), Vals (x.1.map kV) its ∧ (TS.midHeap h2 h'.objs.size acc.toList).get? x.2.1 = some ot ∧ ot.cls = .type "tuple" ∧ ot.data = .seq its.toArray nt := by
    intro x hx'
    obtain ⟨_, its, rv, ot, hot, hct, nt, hdt⟩ := (show ObjOk X.prog X.w H s.heap x.2.1 (.tup (x.1.map kV)) from I.hok _ _ (trk x hx'))
    obtain ⟨k1, k2⟩ := kb _ _ hot
    exact ⟨ot, its, nt, rv, TS.midHeap_old k1 k2, hct, hdt⟩
  have mem : ∀ v ∈ acc.toList, ∃ x ∈ xs', v = .ref x.2.1 := by
    intro v hv
    rw [hav] at hv
    obtain ⟨x, hx', e⟩ := List.mem_map.mp hv
    exact ⟨x, hx', e.symm⟩
  have inK : ∀ x ∈ xs', x.1 ∈ kvs.map (·.1) := fun x hx' => by rw [keys]; exact List.mem_map_of_mem hx'
  have firsts : ∀ vs : List Value, (∀ v ∈ vs, ∃ x ∈ xs', v = .ref x.2.1) → ∃ fs : List Value, PySem.W.KatTups (TS.midHeap h2 h'.objs.size acc.toList) vs fs ∧ fs.length = vs.length ∧ ∀ f ∈ fs, ∃ x t, f = Value.str x t := by
    intro vs
    induction vs with
    | nil => intro _; exact ⟨[], .nil, rfl, fun _ h => nomatch h⟩
    | cons v vs ih =>
      intro hm
      obtain ⟨fs, k1, k2, k3⟩ := ih fun u hu' => hm u (List.mem_cons_of_mem _ hu')
      obtain ⟨x, hx', rfl⟩ := hm v List.mem_cons_self
      obtain ⟨ot, its, nt, rv, ho', hc', hd'⟩ := tup x hx'
      obtain ⟨y, rr, ey⟩ := hhd x.1 (inK x hx')
      rw [ey] at rv
      cases rv with
      | cons r1 r2 =>
        obtain ⟨t, rfl⟩ := r1
        refine ⟨.str y t :: fs, .cons ho' hc' hd' rfl k1, by rw [List.length_cons, List.length_cons, k2], fun f hf => ?_⟩
        rcases List.mem_cons.mp hf with rfl | hf
        · exact ⟨y, t, rfl⟩
        · exact k3 f hf
  refine wpAny_bind (wpAny_holding (wpAny_call_entry PyProof.Rows.slot_list_sort ⟨_, hob, rfl⟩ PyProof.Rows.entry_list_sort
    (SK.plain_sort (s := { s with heap := h2, toks := tk }) (r := rk) hob (by rw [hal, ← l1]; exact h64) (fun h2' Qk hQk => ?_) fun ps out o1 o2 o3 => ⟨.none, rfl, ?_⟩) (PyProof.Rows.args_list_sort _)))
  · obtain ⟨fs, k1, k2, k3⟩ := firsts acc.toList mem
    refine PySem.W.kat_kind (T := Value.type "str") k1 (by omega) (fun f hf => ?_) rfl (hQk _ ?_)
    · obtain ⟨x, t, rfl⟩ := k3 f hf
      exact .now
    · intro p q' hp hq Q' E' hQ
      rw [pairsOf_toList] at hp hq
      have mp := (mem_zip_self hp).2
      have mq := (mem_zip_self hq).2
      obtain ⟨x, hx1, e1⟩ := mem _ mp
      obtain ⟨y, hy1, e2⟩ := mem _ mq
      obtain ⟨ot, its, nt, rv, ho1, _, hd1⟩ := tup x hx1
      obtain ⟨ot2, its2, nt2, rv2, ho2, _, hd2⟩ := tup y hy1
      rw [e1, e2, rk_is x hx1, rk_is y hy1] at hQ
      rw [e1, e2]
      refine PySem.W.kat_lt ho1 hd1 ho2 hd2 (katlex_of ?_ hQ 0)
      have hv := lexV_of (hlx x.1 (inK x hx1) y.1 (inK y hy1)) rv rv2
      simpa using hv
  · have hzip : (xs'.map fun x => (x.2.1, x.1)).map (fun z : Addr × List Key => (Value.ref z.1, Value.ref z.1)) = acc.toList.zip acc.toList := by
      have zs0 : ∀ l : List Value, l.zip l = l.map fun v => (v, v) := fun l => by
        induction l with
        | nil => rfl
        | cons v l ih => rw [List.zip_cons_cons, ih]; rfl
      rw [zs0, hav, List.map_map, List.map_map]
      rfl
    obtain ⟨zs, pz, ez⟩ := perm_lift (fun z : Addr × List Key => (Value.ref z.1, Value.ref z.1)) o2 _ hzip
    have hout : out.toList = zs.map fun z => Value.ref z.1 := by
      rw [o1, ← ez, List.map_map]
      rfl
    have hin : ∀ z ∈ zs, ∃ x ∈ xs', z = (x.2.1, x.1) := fun z hz => by
      obtain ⟨x, hx', e⟩ := List.mem_map.mp (pz.mem_iff.mp hz)
      exact ⟨x, hx', e.symm⟩
    have hperm : (zs.map (·.2)).Perm (kvs.map (·.1)) := by
      have e := pz.map (·.2)
      rw [List.map_map] at e
      rw [keys]
      exact e
    have hsort : (zs.map (·.2)).Pairwise (fun e f => ρ e ≤ ρ f) := by
      rw [← ez, List.pairwise_map] at o3
      rw [List.pairwise_map]
      refine List.Pairwise.imp_of_mem (fun {u v} hu' hv' h => ?_) o3
      obtain ⟨x, hx', rfl⟩ := hin u hu'
      obtain ⟨y, hy', rfl⟩ := hin v hv'
      have h3 : rk (.ref x.2.1) ≤ rk (.ref y.2.1) := h
      rw [rk_is x hx', rk_is y hy'] at h3
      exact h3
    obtain ⟨eF, heF⟩ := PyProof.Rows.sortedHeap_at (vs := acc.toList) (out := out) hob
    have hlen : (zs.map fun z => V.ref z.1).length ≤ sizeLine := by
      have e := hperm.length_eq
      rw [List.length_map, List.length_map] at e
      rw [List.length_map, sizeLine_eq]
      omega
    have rv : Vals (zs.map fun z => V.ref z.1) out.toList := by
      rw [hout]
      clear hout hin hperm hsort pz ez hlen
      induction zs with
      | nil => exact .nil
      | cons z zs ih => exact .cons rfl ih
    refine wpAny_pure ⟨_, rfl, .ref h'.objs.size, upd H h'.objs.size (.lst (zs.map fun z => V.ref z.1)), I1.laid (t' := tk) (fun b u e => ?_) (Nat.le_refl _) ⟨hlen, out.toList, eF, rv, heF⟩, rfl, q _ zs (I1.hok.fresh (Nat.le_refl _)) hperm hsort fun z hz => ?_⟩
    · obtain ⟨k1, k2⟩ := ka b u e
      exact (PyProof.Rows.sortedHeap_old k1 (Heap.lt_size k2)).trans k2
    · obtain ⟨x, hx', rfl⟩ := hin z hz
      exact trk x hx'
end
end HG

set_option maxHeartbeats 4000000
/-! HA: texts of signs below 128, and what repr shows of data. -/
namespace HG
open PySem PySem.Spec PyProof.Rows L2
open TL (numL tl_num numL_digits numL_ne numL_inj numL_val numL_len)
def asc (z : Str) : Prop := ∀ c ∈ cp z, c < 128
theorem asc_app {a b : Str} (ha : asc a) (hb : asc b) : asc (a ++ b) := fun c hc => by
  rw [cp_app] at hc
  exact (List.mem_append.mp hc).elim (ha c) (hb c)
theorem asc_ok {z : Str} (h : asc z) : PyData.strOk z = true := by
  unfold PyData.strOk
  rw [← Array.all_toList]
  refine List.all_eq_true.mpr fun c hc => ?_
  have := h c hc
  exact decide_eq_true (by omega)
theorem asc_repr {z : Str} (h : asc z) : asc (reprText z) := by
  have hq : reprQuote z = 39 ∨ reprQuote z = 34 := by
    unfold reprQuote
    split
    · exact .inr rfl
    · exact .inl rfl
  have sm : ∀ q, q = 39 ∨ q = 34 → ∀ c, c < 128 → ∀ d ∈ Builtin.Str.reprChar q c, d < 128 := by
    have h1 : ∀ c : Nat, c < 128 → ∀ d ∈ Builtin.Str.reprChar 39 c, d < 128 := by decide +kernel
    have h2 : ∀ c : Nat, c < 128 → ∀ d ∈ Builtin.Str.reprChar 34 c, d < 128 := by decide +kernel
    rintro q (rfl | rfl)
    · exact h1
    · exact h2
  have key : ∀ (l : List Nat) (acc : Array Nat), (∀ c ∈ l, c < 128) → (∀ d ∈ acc.toList, d < 128) → ∀ d ∈ (l.foldl (fun out c => out ++ (Builtin.Str.reprChar (reprQuote z) c).toArray) acc).toList, d < 128 := by
    intro l
    induction l with
    | nil => intro acc _ ha; exact ha
    | cons c r ih =>
      intro acc hl ha
      rw [List.foldl_cons]
      refine ih _ (fun x hx => hl x (List.mem_cons_of_mem _ hx)) fun d hd => ?_
      rw [Array.toList_append] at hd
      rcases List.mem_append.mp hd with z | z
      · exact ha d z
      · exact sm _ hq c (hl c List.mem_cons_self) d z
  intro d hd
  unfold cp reprText at hd
  rw [Array.toList_push, ← Array.foldl_toList] at hd
  have q128 : reprQuote z < 128 := by rcases hq with e | e <;> rw [e] <;> decide
  rcases List.mem_append.mp hd with y | y
  · refine key _ _ h (fun x hx => ?_) d y
    have : x = reprQuote z := by simpa using hx
    rw [this]
    exact q128
  · rw [List.mem_singleton.mp y]
    exact q128
theorem asc_join : ∀ {l : List Str}, (∀ z ∈ l, asc z) → asc (Str.join ", " l)
  | [], _ => fun c hc => nomatch hc
  | [x], h => h x List.mem_cons_self
  | x :: y :: r, h => by
    show asc (x ++ ", " ++ Str.join ", " (y :: r))
    exact asc_app (asc_app (h x List.mem_cons_self) (by unfold asc; decide +kernel)) (asc_join fun z hz => h z (List.mem_cons_of_mem _ hz))
theorem asc_from : ∀ {l : List Str} (k : Nat) (acc : Str), asc acc → (∀ z ∈ l, asc z) → asc (textFrom k acc l)
  | [], _, _, h, _ => h
  | t :: ts, k, acc, h, hl => by
    show asc (textFrom (k + 1) (acc ++ (if k > 0 then ", " else "" : String) ++ t) ts)
    refine asc_from (k + 1) _ (asc_app (asc_app h ?_) (hl t List.mem_cons_self)) fun z hz => hl z (List.mem_cons_of_mem _ hz)
    split
    · unfold asc; decide +kernel
    · unfold asc; decide +kernel
theorem asc_list {l : List Str} (h : ∀ z ∈ l, asc z) : asc (listText l) := asc_app (asc_from 0 _ (by unfold asc; decide +kernel) h) (by unfold asc; decide +kernel)
theorem asc_tuple {l : List Str} (h : ∀ z ∈ l, asc z) : asc (tupleText l) := by
  refine asc_app (asc_app (by unfold asc; decide +kernel) (asc_join h)) ?_
  split
  · unfold asc; decide +kernel
  · unfold asc; decide +kernel
theorem asc_nat (n : Nat) : asc (Str.ofString (toString ((n : Nat) : Int))) := fun c hc => by
  have e : cp (Str.ofString (toString ((n : Nat) : Int))) = numL n := tl_num n
  rw [e] at hc
  have := numL_digits n c hc
  omega
theorem asc_int (i : Int) : asc (Str.ofString (toString i)) := by
  by_cases h : i < 0
  · rw [toString_neg h]
    obtain ⟨n, hn⟩ := Int.eq_ofNat_of_zero_le (show 0 ≤ 0 - i by omega)
    rw [hn]
    have e2 : cp (Str.ofString ("-" ++ toString ((n : Nat) : Int))) = 45 :: cp (Str.ofString (toString ((n : Nat) : Int))) := by
      unfold cp
      rw [Str.ofString_eq_toList, Str.ofString_eq_toList, String.toList_append, List.map_append]
      rfl
    intro c hc
    rw [e2] at hc
    rcases List.mem_cons.mp hc with rfl | hc
    · decide
    · exact asc_nat n c hc
  · obtain ⟨n, rfl⟩ := Int.eq_ofNat_of_zero_le (Int.not_lt.mp h)
    exact asc_nat n
theorem asc_all : ∀ {ds : List PyData}, (∀ d ∈ ds, asc d.shown) → ∀ z ∈ PyData.shownAll ds, asc z
  | [], _, z, hz => by simp only [PyData.shownAll] at hz; exact nomatch hz
  | d :: ds, h, z, hz => by
    simp only [PyData.shownAll] at hz
    rcases List.mem_cons.mp hz with rfl | hz
    · exact h d List.mem_cons_self
    · exact asc_all (fun e he => h e (List.mem_cons_of_mem _ he)) z hz
end HG

set_option maxHeartbeats 4000000
/-! HK: rules that name the written part K, for use in comprehensions. -/
namespace HG
open PySem PySem.Spec PyProof.Rows L2
section
variable {X : Cx} {K : PySem.W.Frag}
theorem isiK (h : X.K = K) : CallR X (.builtin "isinstance") (rIsi K) := h ▸ call_isi
theorem isiTK (h : X.K = K) : CallR X (.builtin "isinstance") (rIsiT K) := h ▸ call_isiT
def rLenK (K : PySem.W.Frag) : List V → Hp → VK → Prop := fun xs H Q => ∃ x n, xs = [x] ∧ LenV K x H n ∧ Q (.int (n : Nat)) H
theorem lenK (h : X.K = K) : CallR X (.builtin "len") (rLenK K) := h ▸ call_len
theorem ix_listK (h : X.K = K) : IxR X (rIxL K) := h ▸ ix_list
theorem ix_tupK (h : X.K = K) : IxR X (rIxT K) := h ▸ ix_tup
theorem ix_seqK (h : X.K = K) : IxR X (rIx K) := h ▸ ix_seq
theorem sl_tupK (h : X.K = K) : SlR X (rSlT K) := h ▸ sl_tup
theorem sl_listK (h : X.K = K) : SlR X (rSlL K) := h ▸ sl_list
theorem op_catTK (h : X.K = K) : OpR X (binaryOp .Add) (rCatT K) := h ▸ op_catT
theorem op_in_seqK (h : X.K = K) : OpR X (compareOp .In) (rIn K false) := h ▸ op_in_seq
theorem op_ltKK (h : X.K = K) (hu : X.A.units < cLine) : OpR X (compareOp .Lt) (rLtK K) := h ▸ op_ltK hu
theorem op_eqDK (h : X.K = K) (hu : X.A.units + 64 < cLine) : OpR X (compareOp .Eq) (rEqD K) := h ▸ op_eqD hu
theorem op_neDK (h : X.K = K) (hu : X.A.units + 64 < cLine) : OpR X (compareOp .NotEq) (rNeD K) := h ▸ op_neD hu
/-- x < y: ints, texts, tuples of both -/
theorem op_lt3 (h : X.K = K) (hu : X.A.units + 64 < cLine) : OpR X (compareOp .Lt) (fun x y H Q => (rI0 (fun i j => .bl (decide (i < j)))) x y H Q ∨ (∃ i j, x = .str i ∧ y = .str j ∧ Q (.bl (decide (i.cps.toList < j.cps.toList))) H) ∨ rLtK K x y H Q) :=
  op_lt.or (op_lt_str.or (op_ltKK h (Nat.lt_of_le_of_lt (Nat.le_add_right _ 64) hu)))
end
end HG

set_option maxHeartbeats 4000000
namespace K39
open PySem PySem.Spec PyProof.Rows L2 HG
/-! ### the deck: a dict of three -/
abbrev kC : Key := Sum.inr "cells"
abbrev kM : Key := Sum.inr "total"
abbrev kN : Key := Sum.inr "draws"
def deckD (c : Addr) (m t : Int) : List (Key × V) := [(kC, .ref c), (kM, .int m), (kN, .int t)]
structure Deck (d c : Addr) (n : Nat) (H : Hp) : Prop where
  ex : ∃ (ns : List Int) (m t : Int), H d = some (.dK (deckD c m t)) ∧ H c = some (.lst (ns.map V.int)) ∧ 0 ≤ t ∧ t ≤ n ∧ ns.length ≤ 63
theorem Deck.ne {d c : Addr} {n : Nat} {H : Hp} (D : Deck d c n H) : d ≠ c := fun e => by
  obtain ⟨ns, m, t, h1, h2, _⟩ := D.ex
  rw [e, h2] at h1
  cases h1
theorem Deck.up {d c : Addr} {n m : Nat} {H : Hp} (D : Deck d c n H) (h : n ≤ m) : Deck d c m H := by
  obtain ⟨ns, x, t, h1, h2, h4, h5, h6⟩ := D.ex
  exact ⟨ns, x, t, h1, h2, h4, by omega, h6⟩
theorem Deck.upd {d c p : Addr} {n : Nat} {H : Hp} {o : HO} (D : Deck d c n H) (h1 : p ≠ d) (h2 : p ≠ c) : Deck d c n (upd H p o) := by
  obtain ⟨ns, m, t, e1, e2, r⟩ := D.ex
  exact ⟨ns, m, t, by rw [upd_ne h1.symm]; exact e1, by rw [upd_ne h2.symm]; exact e2, r⟩
theorem Deck.has {d c p : Addr} {n : Nat} {H : Hp} (D : Deck d c n H) (hp : H p = none) : p ≠ d ∧ p ≠ c := by
  obtain ⟨ns, m, t, e1, e2, r⟩ := D.ex
  exact ⟨(ne_of_none e1 hp).symm, (ne_of_none e2 hp).symm⟩
theorem Deck.new {d c p : Addr} {n : Nat} {H : Hp} {o : HO} (D : Deck d c n H) (hp : H p = none) : Deck d c n (L2.upd H p o) := D.upd (D.has hp).1 (D.has hp).2
theorem Deck.same {d c : Addr} {n : Nat} {H H' : Hp} (D : Deck d c n H) (s : Same H H') : Deck d c n H' := by
  obtain ⟨ns, m, t, e1, e2, r⟩ := D.ex
  exact ⟨ns, m, t, s _ _ e1, s _ _ e2, r⟩
section
variable {d c : Addr} {m t : Int} {H : Hp}
theorem get_c (h : H d = some (.dK (deckD c m t))) : DGet H d (.str "cells") (some (.ref c)) := DGet.k (k := kC) h
theorem get_m (h : H d = some (.dK (deckD c m t))) : DGet H d (.str "total") (some (.int m)) := DGet.k (k := kM) h
theorem get_t (h : H d = some (.dK (deckD c m t))) : DGet H d (.str "draws") (some (.int t)) := DGet.k (k := kN) h
theorem put_t {x : Int} (h : H d = some (.dK (deckD c m t))) : DPut H d (.str "draws") (.int x) (upd H d (.dK (deckD c m x))) := DPut.k (k := kN) h (by show 3 < sizeLine; decide)
end
section
variable {P : Program} {w : World} {K : PySem.W.Frag} {mg : Str → Option Value} {base : Heap}
/-! ### _law_draw -/
def spDraw : Sp := fun vs H Q _ => ∃ (d c : Addr) (n : Nat) (many : Int), vs = [.ref d, .int many] ∧ 0 < many ∧ many < 10 ^ 40 ∧ n < 2 ^ 60 ∧ Deck d c n H ∧
  ∀ (r : Int) (H' : Hp), 0 ≤ r → r < many → Deck d c (n + 1) H' → Ext d c H H' → Q (.int r) H'
theorem many_small {many : Int} (h0 : 0 < many) (h : many < 10 ^ 40) : many.natAbs < 2 ^ 200 := by
  have e : (10 : Int) ^ 40 < 2 ^ 200 := by decide
  omega
theorem mod_small (x : Int) {m : Int} (h0 : 0 < m) (hm : m < 2 ^ 63) : -(2 ^ 64) < x % m ∧ x % m < 2 ^ 64 := by
  have h1 := Int.emod_nonneg x (show m ≠ 0 by omega)
  have h2 := Int.emod_lt_of_pos x h0
  omega
set_option pp.maxSteps 600 in
theorem c_draw (T : Txt w K mg) : Cal P w K mg base "_law_draw" 1 ["_law_deck_here", "_law_many"] spDraw := by
  obtain ⟨fd, F⟩ := T.d__law_draw
  refine ⟨⟨fd, F.ok sc__law_draw (fun vs H Q E h => ?_) (fun cdv A outer s H vs Q E hr h => ?_), F.bindsN fun _ _ _ _ _ _ us hl => match us, hl with | [_, _], _ => rfl⟩, T.g _ (by decide), F.kp⟩
  · obtain ⟨d, c, n, many, rfl, _⟩ := h
    rfl
  obtain ⟨d, c, n, many, rfl, hm0, hm1, hn, D, q⟩ := h
  obtain ⟨ns, m, t, hd, hc, ht, htn, hns⟩ := D.ex
  have hu := hu_of hr
  have ndc := D.ne
  refine ⟨_, PSs.nox (pss_cons (ps_par (i := 2) (j := 3) rfl sc__law_draw.nd rfl rfl (by decide) rfl rfl (pa_cons (pe_op op_add (pe_dget hu (pv 0) pe_str (fun _ _ => rfl)) pe_int) (pa_cons (pe_dget hu (pv 0) pe_str (fun _ _ => rfl)) pa_nil)) (by rfl))
      (pss_cons (ps_dput hu (pv 0) pe_str (pv 2) rfl)
      (pss_cons (ps_if (pt_cmpR (op_neDK (K := K) rfl hr.units) (pe_dget hu (pv 0) pe_str (fun _ _ => rfl)) (pe_lst pa_nil) (nomark _)) (pss_cons (ps_set (i := 3) sc__law_draw.nd rfl (.inl rfl) (pe_bm0 PySem.F.plainAttrs_list PySem.F.slot_list_pop PySem.F.type_list_pop mt_pop (pe_dget hu (pv 0) pe_str (fun _ _ => rfl))))
      (pss_cons (ps_if (pt_cmpR op_ge (pv 3) (pe_op op_pow pe_int pe_int) (nomark _)) (pss_cons (ps_expr (pe_bm PySem.F.plainAttrs_list PySem.F.slot_list_append PySem.F.type_list_append mt_append (pe_dget hu (pv 0) pe_str (fun _ _ => rfl)) (pa_cons (pe_op op_fdivW (pv 3) (pv 1)) pa_nil)))
      (pss_one (ps_ret (pe_op op_mod (pv 3) (pv 1))))) pss_nil)
      (pss_one (ps_set (i := 3) sc__law_draw.nd rfl (.inl rfl) (pe_op op_add (pv 3) (pe_dget hu (pv 0) pe_str (fun _ _ => rfl))))))) pss_nil)
      (pss_cons (ps_set (i := 4) sc__law_draw.nd rfl (.inl rfl) (pe_op op_mod (pe_op op_mul (pe_op op_add (pe_op op_add (pe_op op_mod (pv 3) pe_int) (pe_op op_mul (pe_op op_mul pe_int (pv 2)) (pv 2))) pe_int) pe_int) pe_int))
      (pss_cons (ps_set (i := 4) sc__law_draw.nd rfl (.inl rfl) (pe_op op_mod (pe_op op_add (pe_op op_add (pe_op op_mul (pv 4) (pv 4)) (pe_op op_mul pe_int (pv 2))) pe_int) pe_int))
      (pss_one (ps_ret (pe_op op_mod (pe_op op_fdiv (pe_op op_mod (pe_op op_mul (pv 4) pe_int) pe_int) pe_int) (pv 1))))))))), ?_⟩
  refine ⟨.ref d, rfl, d, .int t, rfl, get_t hd, t, 1, rfl, rfl, .ref d, rfl, d, .int m, rfl, get_m hd, ?_⟩
  refine ⟨_, _, rfl, .int (t + 1), rfl, .ref d, rfl, d, _, rfl, put_t hd, ?_⟩
  have hd1 : (upd H d (.dK (deckD c m (t + 1)))) d = some (.dK (deckD c m (t + 1))) := upd_same
  have hc1 : (upd H d (.dK (deckD c m (t + 1)))) c = some (.lst (ns.map V.int)) := by rw [upd_ne ndc.symm]; exact hc
  have x1 : Ext d c H (upd H d (.dK (deckD c m (t + 1)))) := Ext.d
  generalize upd H d (.dK (deckD c m (t + 1))) = H1 at hd1 hc1 x1 ⊢
  -- if d['cells'] != []
  refine ⟨.ref d, rfl, d, .ref c, rfl, get_c hd1, Nat.zero_le _, fun p hp => ?_⟩
  have hd2 := upd_get (o := .lst []) hp hd1
  have hc2 := upd_get (o := .lst []) hp hc1
  have x2 : Ext d c H (upd H1 p (.lst [])) := x1.trans (Ext.new hp)
  have hp2 : (upd H1 p (.lst [])) p = some (.lst []) := upd_same
  generalize upd H1 p (.lst []) = H2 at hd2 hc2 x2 hp2 ⊢
  refine ⟨.list (ns.map PyData.int), .list [], .lst (.inl (.inl hc2)) (dpInts ns), .lst (.inl (.inl hp2)) .nil, shaped_ints ns, shaped_ints [], _, rfl, ?_⟩
  have dk : ∀ (H3 : Hp) (ns' : List Int), H3 d = some (.dK (deckD c m (t + 1))) → H3 c = some (.lst (ns'.map V.int)) → ns'.length ≤ 63 → Deck d c (n + 1) H3 :=
    fun H3 ns' a1 a2 a4 => ⟨ns', m, t + 1, a1, a2, by omega, by omega, a4⟩
  cases ns with
  | nil =>
    refine iteF ?_
    exact ⟨.int m, rfl, m, _, rfl, rfl, (by decide : (0 : Int) < 2147483629), .int (t + 1), rfl, _, _, rfl, rfl, .inl ⟨by decide, by decide⟩, .int (t + 1), rfl, _, _, rfl, rfl, .inr ⟨by omega, by omega⟩, _, _, rfl, rfl, _, _, rfl, rfl, _, _, rfl, rfl, .inr ⟨by decide, by decide⟩, _, _, rfl, rfl, (by decide : (0 : Int) < 2147483647),
      _, rfl, _, rfl, _, _, rfl, rfl, .inl (mod_small _ (by decide) (by decide)), .int (t + 1), rfl, _, _, rfl, rfl, .inl ⟨by decide, by decide⟩, _, _, rfl, rfl, _, _, rfl, rfl, _, _, rfl, rfl, (by decide : (0 : Int) < 2147483587),
      _, rfl, _, _, rfl, rfl, .inr ⟨by decide, by decide⟩, _, _, rfl, rfl, (by decide : (0 : Int) < 2147483563), _, _, rfl, rfl, ⟨by decide, by decide⟩, .int many, rfl, _, _, rfl, rfl, hm0,
      q _ _ (Int.emod_nonneg _ (by omega)) (Int.emod_lt_of_pos _ hm0) (dk H2 [] hd2 hc2 hns) x2⟩
  | cons x r =>
    refine iteT ?_
    obtain ⟨y, hy⟩ : ∃ y, (x :: r)[(x :: r).length - 1]? = some y := ⟨_, List.getElem?_eq_getElem (by simp)⟩
    refine ⟨.ref d, rfl, d, .ref c, rfl, get_c hd2, .inl ⟨rfl, _, .inl (.inl hc2)⟩, c, _, .int y, rfl, rfl, hc2, ?_, ?_⟩
    · rw [List.length_map, List.getElem?_map, hy]
      rfl
    have er : ((x :: r).map V.int).dropLast = ((x :: r).dropLast).map V.int := (List.map_dropLast ..).symm
    rw [er]
    have hr1 : ((x :: r).dropLast).length ≤ 62 := by rw [List.length_dropLast]; omega
    generalize (x :: r).dropLast = rs at hr1 ⊢
    generalize eH : upd H2 c (.lst (rs.map V.int)) = H3
    have hd3 : H3 d = some (.dK (deckD c m (t + 1))) := by rw [← eH, upd_ne ndc]; exact hd2
    have hc3 : H3 c = some (.lst (rs.map V.int)) := by rw [← eH]; exact upd_same
    have x3 : Ext d c H H3 := by rw [← eH]; exact x2.trans Ext.c
    refine ⟨.int y, rfl, _, _, rfl, rfl, ⟨by decide, by decide, by decide⟩, _, _, rfl, rfl, _, rfl, ite2 (fun e1 => ?_) (fun e1 => ?_)⟩
    · have wx : CDivW y many := wide_div hm0 (many_small hm0 hm1) (by decide) (by decide)
      refine ⟨.ref d, rfl, d, .ref c, rfl, get_c hd3, .inl ⟨rfl, _, .inl (.inl hc3)⟩, .int y, rfl, .int many, rfl, y, many, rfl, rfl, wx, c, _, _, rfl, rfl, hc3, ?_, ?_⟩
      · rw [List.length_map]
        exact Nat.lt_of_le_of_lt hr1 (by decide)
      refine ⟨.int y, rfl, .int many, rfl, y, many, rfl, rfl, hm0, ?_⟩
      refine q _ _ (Int.emod_nonneg _ (by omega)) (Int.emod_lt_of_pos _ hm0) (dk _ (rs ++ [y / many]) ?_ ?_ ?_) (x3.trans Ext.c)
      · rw [upd_ne ndc]; exact hd3
      · rw [upd_same, List.map_append]; rfl
      · rw [List.length_append]
        show rs.length + 1 ≤ 63
        omega
    refine ⟨.int y, rfl, .ref d, rfl, d, .int m, rfl, get_m hd3, y, m, rfl, rfl, ?_⟩
    exact ⟨.int (y + m), rfl, (y + m), _, rfl, rfl, (by decide : (0 : Int) < 2147483629), .int (t + 1), rfl, _, _, rfl, rfl, .inl ⟨by decide, by decide⟩, .int (t + 1), rfl, _, _, rfl, rfl, .inr ⟨by omega, by omega⟩, _, _, rfl, rfl, _, _, rfl, rfl, _, _, rfl, rfl, .inr ⟨by decide, by decide⟩, _, _, rfl, rfl, (by decide : (0 : Int) < 2147483647),
      _, rfl, _, rfl, _, _, rfl, rfl, .inl (mod_small _ (by decide) (by decide)), .int (t + 1), rfl, _, _, rfl, rfl, .inl ⟨by decide, by decide⟩, _, _, rfl, rfl, _, _, rfl, rfl, _, _, rfl, rfl, (by decide : (0 : Int) < 2147483587),
      _, rfl, _, _, rfl, rfl, .inr ⟨by decide, by decide⟩, _, _, rfl, rfl, (by decide : (0 : Int) < 2147483563), _, _, rfl, rfl, ⟨by decide, by decide⟩, .int many, rfl, _, _, rfl, rfl, hm0,
      q _ _ (Int.emod_nonneg _ (by omega)) (Int.emod_lt_of_pos _ hm0) (dk H3 rs hd3 hc3 (by omega)) x3⟩
/-! ### _law_deck -/
theorem cut_to (xs : List V) (k : Nat) : cutV xs none (some (k : Int)) = xs.take k := by
  unfold cutV
  rw [HT.sIx_none, HT.sIx_nat, Nat.sub_zero, List.drop_zero]
  by_cases h : k ≤ xs.length
  · rw [Nat.min_eq_left h]
  · rw [Nat.min_eq_right (by omega), List.take_length, List.take_of_length_le (by omega)]
theorem cut63 {ns : List Int} (h : ns.length ≤ 63) : cutV (ns.map V.int) none (some 63) = ns.map V.int := by
  have e := cut_to (ns.map V.int) 63
  rw [List.take_of_length_le (by rw [List.length_map]; exact h)] at e
  exact e
def spDeck (K : PySem.W.Frag) : Sp := fun vs H Q _ => ∃ (a : Addr) (ns : List Int), vs = [.ref a] ∧ SqL K H a (ns.map V.int) ∧ ns.length ≤ 63 ∧ ∀ (d c : Addr) (H' : Hp), Same H H' → Deck d c 0 H' → Q (.ref d) H'
set_option pp.maxSteps 600 in
theorem c_deck (T : Txt w K mg) : Cal P w K mg base "_law_deck" 1 ["_law_script"] (spDeck K) := by
  obtain ⟨fd, F⟩ := T.d__law_deck
  refine ⟨⟨fd, F.ok sc__law_deck (fun vs H Q E h => ?_) (fun cdv A outer s H vs Q E hr h => ?_), F.bindsN fun _ _ _ _ _ _ us hl => match us, hl with | [_], _ => rfl⟩, T.g _ (by decide), F.kp⟩
  · obtain ⟨a, ns, rfl, _⟩ := h
    rfl
  obtain ⟨a, ns, rfl, hS, hn, q⟩ := h
  refine ⟨_, PSs.nox (pss_cons (ps_par (i := 1) (j := 2) rfl sc__law_deck.nd rfl rfl (by decide) rfl rfl (pa_cons (pe_callTy call_list_of (by rfl) T.n_list (by decide +kernel) (pa_cons (pe_slice (sl_listK (K := K) rfl) (pv 0) po_none (po_some pe_int)) pa_nil)) (pa_cons pe_int pa_nil)) (by rfl))
      (pss_cons (ps_for PassesOwn.never rfl (pi_list (pv 1)) (pg_name (i := 3) sc__law_deck.nd rfl (.inl rfl)) (pss_one (ps_set (i := 2) sc__law_deck.nd rfl (.inl rfl) (pe_op op_mod (pe_op op_add (pe_op op_add (pe_op op_mul (pv 2) pe_int) (pe_op op_mod (pv 3) pe_int)) pe_int) pe_int))))
      (pss_one (ps_ret (pe_disp (pps_cons pe_str (pe_revL (pv 1)) (pps_cons pe_str (pv 2) (pps_cons pe_str pe_int pps_nil))) (by rfl) (by rfl) (fun z => by cases z) (by decide)))))), ?_⟩
  refine ⟨.ref a, rfl, 63, rfl, a, _, rfl, hS, fun p1 hp1 => ?_⟩
  rw [cut63 hn]
  have s1 : Same H (upd H p1 (.lst (ns.map V.int))) := fun b o h => upd_get hp1 h
  have h1 : (upd H p1 (.lst (ns.map V.int))) p1 = some (.lst (ns.map V.int)) := upd_same
  generalize upd H p1 (.lst (ns.map V.int)) = H1 at s1 h1 ⊢
  refine ⟨p1, _, rfl, .inl (.inl (.inl h1)), fun c0 hc0 => ?_⟩
  have s2 : Same H1 (upd H1 c0 (.lst (ns.map V.int))) := fun b o h => upd_get hc0 h
  have h2 : (upd H1 c0 (.lst (ns.map V.int))) c0 = some (.lst (ns.map V.int)) := upd_same
  have s02 := s1.trans s2
  generalize upd H1 c0 (.lst (ns.map V.int)) = H2 at s2 s02 h2 ⊢
  refine ⟨_, _, rfl, .ref c0, rfl, c0, rfl, ⟨_, .inl (.inl h2)⟩, ?_⟩
  refine for_list (xs := ns.map V.int) (fun i σ H3 => ∃ m x3, σ = [some (.ref a), some (.ref c0), some (.int m), x3] ∧ H3 = H2) ⟨_, _, rfl, rfl⟩ ?_ ?_ ?_
  · rintro i σ H3 _ ⟨m, x3, rfl, rfl⟩
    exact .inl (.inl h2)
  · rintro i x σ H3 hx ⟨m, x3, rfl, rfl⟩
    rw [List.getElem?_map] at hx
    obtain ⟨z, hz, rfl⟩ := Option.map_eq_some_iff.mp hx
    exact ⟨.int m, rfl, _, _, rfl, rfl, .inr ⟨by decide, by decide⟩, .int z, rfl, _, _, rfl, rfl, (by decide : (0 : Int) < 2147483563 + 66), _, _, rfl, rfl, _, _, rfl, rfl, _, _, rfl, rfl, (by decide : (0 : Int) < 2147483587), _, _, rfl, rfl⟩
  · rintro σ H3 ⟨m, x3, rfl, rfl⟩
    intro d hd
    have s3 : Same H3 (upd H3 d (.dK [])) := fun b o h => upd_get hd h
    have h3 : (upd H3 d (.dK [])) d = some (.dK []) := upd_same
    generalize upd H3 d (.dK []) = H4 at s3 h3 ⊢
    refine ⟨.ref c0, rfl, c0, _, rfl, .inl (.inl (s3 _ _ h2)), fun c hc => ?_⟩
    rw [← List.map_reverse]
    have s4 : Same H4 (upd H4 c (.lst (ns.reverse.map V.int))) := fun b o h => upd_get hc h
    have h4 : (upd H4 c (.lst (ns.reverse.map V.int))) c = some (.lst (ns.reverse.map V.int)) := upd_same
    generalize upd H4 c (.lst (ns.reverse.map V.int)) = H5 at s4 h4 ⊢
    have hd5 : H5 d = some (.dK []) := s4 _ _ h3
    refine ⟨.int m, rfl, hd5, [(kC, .ref c), (kM, .int m), (kN, .int 0)], rfl, (by show 3 ≤ 15; decide), ?_⟩
    have ndc : c ≠ d := fun e => by rw [e, hd5] at h4; cases h4
    refine q d c _ (fun b o h => ?_) ⟨ns.reverse, m, 0, upd_same, by rw [upd_ne ndc]; exact h4, by decide, by decide, by rw [List.length_reverse]; exact hn⟩
    have hb := s02 _ _ h
    rw [upd_ne (ne_of_none hb hd)]
    exact s4 _ _ (s3 _ _ hb)
/-! ### _law_pick -/
def spPick (K : PySem.W.Frag) : Sp := fun vs H Q _ => ∃ (d c : Addr) (n : Nat) (x : V), vs = [.ref d, x] ∧ Deck d c n H ∧ n < 2 ^ 60 ∧
  ((∃ z : Str, x = .str z ∧ 0 < z.length ∧ z.length ≤ 1000 ∧ ∀ (j ch : Nat) (H' : Hp), (cp z)[j]? = some ch → Deck d c (n + 1) H' → Ext d c H H' → Q (.str ⟨#[ch]⟩) H') ∨
   ∃ (a : Addr) (xs : List V), x = .ref a ∧ SqL K (off d c H) a xs ∧ 0 < xs.length ∧ xs.length ≤ 1000 ∧ ∀ (j : Nat) (y : V) (H' : Hp), xs[j]? = some y → Deck d c (n + 1) H' → Ext d c H H' → Q y H')
set_option pp.maxSteps 600 in
theorem c_pick (T : Txt w K mg) : Cal P w K mg base "_law_pick" 2 ["_law_deck_here", "_law_some"] (spPick K) := by
  obtain ⟨fd, F⟩ := T.d__law_pick
  have C__law_draw := c_draw (P := P) (w := w) (base := base) T
  refine ⟨⟨fd, F.ok sc__law_pick (fun vs H Q E h => by repeat (first | (obtain ⟨e, _⟩ := h; subst e; rfl) | (obtain ⟨_, h⟩ := h))) (fun cdv A outer s H vs Q E hr h => ?_), F.bindsN fun _ _ _ _ _ _ us hl => match us, hl with | [_, _], _ => rfl⟩, T.g _ (by decide), F.kp⟩
  obtain ⟨d, c, n, x, rfl, D, hn, h⟩ := h
  have e40 : (1000 : Int) < 10 ^ 40 := by decide
  refine ⟨_, PSs.nox (pss_one (ps_ret (pe_ix (ix_seqK (K := K) rfl) (pv 1) (pe_cal C__law_draw (hr.mono (by omega)) (by rfl) (pa_cons (pv 0) (pa_cons (pe_callB (lenK (K := K) rfl) (by rfl) T.n_len (by decide +kernel) (pa_cons (pv 1) pa_nil)) pa_nil))) (fun _ _ => rfl)))), ?_⟩
  rcases h with ⟨z, rfl, h0, h1, q⟩ | ⟨a, xs, rfl, hS, h0, h1, q⟩
  · have hz : z.length ≤ sizeLine := Nat.le_trans h1 (by decide)
    refine ⟨.str z, rfl, .ref d, rfl, .str z, rfl, .str z, z.length, rfl, ⟨hz, rfl⟩, d, c, n, z.length, rfl, by omega, by omega, hn, D, fun r H' r0 r1 D' X => ?_⟩
    obtain ⟨j, rfl⟩ := Int.eq_ofNat_of_zero_le r0
    have hj : j < (cp z).length := by rw [cp_len]; omega
    exact .inr (.inr ⟨z, j, (cp z)[j], rfl, rfl, hz, atI_nat (List.getElem?_eq_getElem hj), q j _ _ (List.getElem?_eq_getElem hj) D' X⟩)
  · refine ⟨.ref a, rfl, .ref d, rfl, .ref a, rfl, .ref a, xs.length, rfl, .inl ⟨xs, offL hS, rfl⟩, d, c, n, xs.length, rfl, by omega, by omega, hn, D, fun r H' r0 r1 D' X => ?_⟩
    obtain ⟨j, rfl⟩ := Int.eq_ofNat_of_zero_le r0
    have hj : j < xs.length := by omega
    exact .inl ⟨a, xs, j, xs[j], rfl, rfl, offL (X.sqL hS), atI_nat (List.getElem?_eq_getElem hj), q j _ _ (List.getElem?_eq_getElem hj) D' X⟩
end
end K39

set_option maxHeartbeats 4000000
/-! P54: objects as data: what is_object says. -/
namespace P54
open PySem HG
abbrev byName : List Str := ["definer", "body", "length", "live", "taken", "writes", "prints", "traps", "ends", "pure", "recursive", "constant", "unread", "result", "signature", "importable"]
abbrev byNum : List Str := ["targets", "writes_by", "pure_by"]
abbrev byPar : List Str := ["unused", "argument"]
def isN : PyData → Bool
  | .int _ => true
  | _ => false
def isNat : PyData → Bool
  | .int i => decide (0 ≤ i)
  | _ => false
def items : PyData → List PyData
  | .tuple ds => ds
  | _ => []
def at_ (d : PyData) (i : Nat) : PyData := (items d).getD i .none
/-- is_question -/
def isQ : PyData → Bool
  | .tuple [.str a, x] => if a ∈ byNum then isN x else decide (a ∈ byName) && isS x
  | .tuple [.str a, y, x] => decide (a ∈ byPar) && (isS y && isN x)
  | _ => false
/-- one key of a question's tuple -/
def key : PyData → L2.Key
  | .int i => Sum.inl i
  | .str z => Sum.inr z
  | _ => Sum.inl 0
def keys (d : PyData) : List L2.Key := (items d).map key
def ltK : L2.Key → L2.Key → Bool
  | .inl i, .inl j => decide (i < j)
  | .inr x, .inr y => decide (x.cps.toList < y.cps.toList)
  | _, _ => false
def lexB : List L2.Key → List L2.Key → Bool
  | [], [] => false
  | [], _ :: _ => true
  | _ :: _, [] => false
  | a :: r, b :: s => if a = b then lexB r s else ltK a b
/-- the three orders that are asked -/
def ltD : PyData → PyData → Bool
  | .int i, .int j => decide (i < j)
  | .str x, .str y => decide (x.cps.toList < y.cps.toList)
  | .tuple xs, .tuple ys => lexB (xs.map key) (ys.map key)
  | _, _ => false
def asc : List PyData → Bool
  | a :: b :: r => ltD a b && asc (b :: r)
  | _ => true
def isSig : PyData → Bool
  | .tuple [.tuple ds, b] => ds.all isNat && (asc ds && isB b)
  | _ => false
def isNamed (n : Nat) (d : PyData) : Bool := isT d && (decide ((items d).length = n) && (isS (at_ d 0) && isSig (at_ d 1)))
def isDer : PyData → Bool
  | .tuple [.tuple _, .tuple _] => true
  | _ => false
def areNamed (n : Nat) (d : PyData) : Bool := isT d && ((items d).all (isNamed n) && asc ((items d).map fun e => at_ e 0))
def areDefs (d : PyData) : Bool := areNamed 4 d && (items d).all fun e => isDer (at_ e 3)
def isFact (d : PyData) : Bool := isT d && (decide ((items d).length = 2) && isQ (at_ d 0))
def areFacts (d : PyData) : Bool := isT d && ((items d).all isFact && asc ((items d).map fun e => at_ e 0))
def isObj (d : PyData) : Bool := isT d && (decide ((items d).length = 5) && (isS (at_ d 0) && (isS (at_ d 1) && (areDefs (at_ d 2) && (areNamed 2 (at_ d 3) && areFacts (at_ d 4))))))
/-! ### questions and their order -/
inductive QS : PyData → Prop
  | num {a : Str} {i : Int} : a ∈ byNum → QS (.tuple [.str a, .int i])
  | name {a z : Str} : a ∈ byName → QS (.tuple [.str a, .str z])
  | par {a z : Str} {i : Int} : a ∈ byPar → QS (.tuple [.str a, .str z, .int i])
theorem qs_of {d : PyData} (h : isQ d = true) : QS d := by
  unfold isQ at h
  split at h
  · rename_i a x
    split at h
    · rename_i ha
      cases x with
      | int i => exact .num ha
      | none => simp [isN] at h
      | bool _ => simp [isN] at h
      | str _ => simp [isN] at h
      | list _ => simp [isN] at h
      | tuple _ => simp [isN] at h
      | dict _ => simp [isN] at h
    · simp only [Bool.and_eq_true, decide_eq_true_eq] at h
      cases x with
      | str z => exact .name h.1
      | none => simp [isS] at h
      | bool _ => simp [isS] at h
      | int _ => simp [isS] at h
      | list _ => simp [isS] at h
      | tuple _ => simp [isS] at h
      | dict _ => simp [isS] at h
  · rename_i a y x
    simp only [Bool.and_eq_true, decide_eq_true_eq] at h
    obtain ⟨ha, hy, hx⟩ := h
    cases y <;> simp [isS] at hy
    cases x <;> simp [isN] at hx
    exact .par ha
  · cases h
theorem isQ_of {d : PyData} (h : QS d) : isQ d = true := by
  cases h with
  | num ha => simp only [isQ, if_pos ha, isN]
  | @name a z ha =>
    have : a ∉ byNum := by
      intro h2
      revert a
      decide +kernel
    simp only [isQ, if_neg this, isS, decide_eq_true ha, Bool.and_self]
  | par ha => simp only [isQ, isS, isN, decide_eq_true ha, Bool.and_self]
theorem num_name {a : Str} (h : a ∈ byNum) : a ∉ byName := by
  revert a
  decide +kernel
theorem num_par {a : Str} (h : a ∈ byNum) : a ∉ byPar := by
  revert a
  decide +kernel
theorem name_par {a : Str} (h : a ∈ byName) : a ∉ byPar := by
  revert a
  decide +kernel
theorem lex_int (i j : Int) (r : List L2.Key) : LexR (Sum.inl i :: r) (Sum.inl j :: r) (lexB (Sum.inl i :: r) (Sum.inl j :: r)) ∨ r ≠ [] := by
  by_cases hr : r = []
  · subst hr
    left
    by_cases h : i = j
    · subst h
      have : lexB [Sum.inl i] [Sum.inl i] = false := by simp [lexB]
      rw [this]
      exact .eq .nn
    · have : lexB [Sum.inl i] [Sum.inl j] = decide (i < j) := by simp [lexB, h, ltK]
      rw [this]
      exact .ii h
  · exact .inr hr
theorem lex_head {a b : Str} (h : a ≠ b) (r s : List L2.Key) : LexR (Sum.inr a :: r) (Sum.inr b :: s) (lexB (Sum.inr a :: r) (Sum.inr b :: s)) := by
  have : lexB (Sum.inr a :: r) (Sum.inr b :: s) = decide (a.cps.toList < b.cps.toList) := by simp [lexB, h, ltK]
  rw [this]
  exact .ss h
theorem lex_eq {a : L2.Key} {r s : List L2.Key} (h : LexR r s (lexB r s)) : LexR (a :: r) (a :: s) (lexB (a :: r) (a :: s)) := by
  have : lexB (a :: r) (a :: s) = lexB r s := by simp [lexB]
  rw [this]
  exact .eq h
theorem lex_i {i j : Int} : LexR [Sum.inl i] [Sum.inl j] (lexB [Sum.inl i] [Sum.inl j]) := (lex_int i j []).resolve_right (fun h => h rfl)
theorem lex_s {x y : Str} {r s : List L2.Key} (h : x = y → LexR r s (lexB r s)) : LexR (Sum.inr x :: r) (Sum.inr y :: s) (lexB (Sum.inr x :: r) (Sum.inr y :: s)) := by
  by_cases e : x = y
  · subst e
    exact lex_eq (h rfl)
  · exact lex_head e r s
theorem lex_nil : LexR [] [] (lexB [] []) := .nn
/-- any two questions may be compared -/
theorem q_lex {d e : PyData} (hd : QS d) (he : QS e) : LexR (keys d) (keys e) (ltD d e) := by
  cases hd with
  | @num a i ha =>
    cases he with
    | @num b j hb => exact lex_s fun _ => lex_i
    | @name b z hb => exact lex_s fun e => absurd hb (num_name (e ▸ ha))
    | @par b z j hb => exact lex_s fun e => absurd hb (num_par (e ▸ ha))
  | @name a y ha =>
    cases he with
    | @num b j hb => exact lex_s fun e => absurd ha (num_name (e ▸ hb))
    | @name b z hb => exact lex_s fun _ => lex_s fun _ => lex_nil
    | @par b z j hb => exact lex_s fun e => absurd hb (name_par (e ▸ ha))
  | @par a y i ha =>
    cases he with
    | @num b j hb => exact lex_s fun e => absurd ha (num_par (e ▸ hb))
    | @name b z hb => exact lex_s fun e => absurd ha (name_par (e ▸ hb))
    | @par b z j hb => exact lex_s fun _ => lex_s fun _ => lex_i
end P54

set_option maxHeartbeats 4000000
/-! P54W: how much data show; places in data. -/
namespace P54
open PySem HG PyProof.Rows
mutual
def Sm (k : Nat) : PyData → Prop
  | .none => True
  | .bool _ => True
  | .int i => -(10 ^ 39 + (k : Int)) ≤ i ∧ i ≤ 10 ^ 39 + (k : Int)
  | .str z => OkS (2000 + k) z
  | .tuple ds => SmAll k ds
  | .list ds => SmAll k ds
  | .dict _ => False
def SmAll (k : Nat) : List PyData → Prop
  | [] => True
  | d :: ds => Sm k d ∧ SmAll k ds
end
mutual
def wt : PyData → Nat
  | .tuple ds => 5 + wtAll ds
  | .list ds => 5 + wtAll ds
  | .none => 5
  | .bool _ => 6
  | .int i => (PyData.shown (.int i)).length + 1
  | .str z => (PyData.shown (.str z)).length + 1
  | .dict _ => 0
def wtAll : List PyData → Nat
  | [] => 0
  | d :: ds => wt d + 2 + wtAll ds
end
structure Fine (k W d : Nat) (D : PyData) : Prop where
  sm : Sm k D
  wt : wt D ≤ W
  dp : D.depth ≤ d
theorem smAll_mem {k : Nat} : ∀ {ds : List PyData}, SmAll k ds ↔ ∀ d ∈ ds, Sm k d
  | [] => by simp [SmAll]
  | d :: ds => by
    simp only [SmAll, smAll_mem (ds := ds), List.mem_cons]
    constructor
    · rintro ⟨a, b⟩ x (rfl | hx)
      · exact a
      · exact b x hx
    · exact fun h => ⟨h d (.inl rfl), fun x hx => h x (.inr hx)⟩
theorem wtAll_mem : ∀ {ds : List PyData} {d : PyData}, d ∈ ds → wt d + 2 ≤ wtAll ds
  | e :: ds, d, h => by
    simp only [wtAll]
    rcases List.mem_cons.mp h with rfl | h
    · omega
    · have := wtAll_mem h
      omega
theorem wtAll_len : ∀ ds : List PyData, ds.length ≤ wtAll ds
  | [] => Nat.zero_le _
  | d :: ds => by
    have := wtAll_len ds
    simp only [wtAll, List.length_cons]
    omega
theorem wtAll_app : ∀ ds es : List PyData, wtAll (ds ++ es) = wtAll ds + wtAll es
  | [], es => by simp [wtAll]
  | d :: ds, es => by
    have := wtAll_app ds es
    simp only [List.cons_append, wtAll]
    omega
theorem depthAll_mem : ∀ {ds : List PyData} {d : PyData}, d ∈ ds → d.depth ≤ PyData.depthAll ds
  | e :: ds, d, h => by
    simp only [PyData.depthAll]
    rcases List.mem_cons.mp h with rfl | h
    · omega
    · have := depthAll_mem h
      omega
theorem depthAll_le {n : Nat} : ∀ {ds : List PyData}, (∀ d ∈ ds, d.depth ≤ n) → PyData.depthAll ds ≤ n
  | [], _ => by simp [PyData.depthAll]
  | d :: ds, h => by
    have h1 := h d List.mem_cons_self
    have h2 := depthAll_le (ds := ds) fun x hx => h x (List.mem_cons_of_mem _ hx)
    simp only [PyData.depthAll]
    omega
theorem dp_tup (ds : List PyData) : (PyData.tuple ds).depth = PyData.depthAll ds + 1 := by simp only [PyData.depth]
theorem dp_lst (ds : List PyData) : (PyData.list ds).depth = PyData.depthAll ds + 1 := by simp only [PyData.depth]
theorem wt_tup (ds : List PyData) : wt (.tuple ds) = 5 + wtAll ds := by simp only [wt]
theorem wt_lst (ds : List PyData) : wt (.list ds) = 5 + wtAll ds := by simp only [wt]
theorem sm_tup {k : Nat} {ds : List PyData} : Sm k (.tuple ds) ↔ ∀ d ∈ ds, Sm k d := by simp only [Sm]; exact smAll_mem
theorem sm_lst {k : Nat} {ds : List PyData} : Sm k (.list ds) ↔ ∀ d ∈ ds, Sm k d := by simp only [Sm]; exact smAll_mem
theorem Fine.mem {k W d : Nat} {ds : List PyData} (h : Fine k W d (.tuple ds)) : ∀ e ∈ ds, Fine k W d e := fun e he => by
  refine ⟨sm_tup.mp h.sm e he, ?_, ?_⟩
  · have := wtAll_mem he
    have := h.wt
    rw [wt_tup] at this
    omega
  · have := depthAll_mem he
    have := h.dp
    rw [dp_tup] at this
    omega
mutual
theorem Sm.up {k m : Nat} (hk : k ≤ m) : ∀ {D : PyData}, Sm k D → Sm m D
  | .none, _ => by simp only [Sm]
  | .bool _, _ => by simp only [Sm]
  | .int i, h => by
    simp only [Sm] at h ⊢
    omega
  | .str z, h => by
    simp only [Sm] at h ⊢
    exact h.up (by omega)
  | .tuple ds, h => by
    simp only [Sm] at h ⊢
    exact SmAll.up hk h
  | .list ds, h => by
    simp only [Sm] at h ⊢
    exact SmAll.up hk h
  | .dict _, h => by simp only [Sm] at h
theorem SmAll.up {k m : Nat} (hk : k ≤ m) : ∀ {ds : List PyData}, SmAll k ds → SmAll m ds
  | [], _ => by simp only [SmAll]
  | d :: ds, h => by
    simp only [SmAll] at h ⊢
    exact ⟨Sm.up hk h.1, SmAll.up hk h.2⟩
end
theorem Fine.up {k W d k' W' d' : Nat} {D : PyData} (h : Fine k W d D) (h1 : k ≤ k') (h2 : W ≤ W') (h3 : d ≤ d') : Fine k' W' d' D :=
  ⟨h.sm.up h1, Nat.le_trans h.wt h2, Nat.le_trans h.dp h3⟩
/-! ### what is shown -/
theorem log_small {i : Int} {k : Nat} (hk : k ≤ 1000) (h1 : -(10 ^ 39 + (k : Int)) ≤ i) (h2 : i ≤ 10 ^ 39 + (k : Int)) : i.natAbs.log2 < 1920 := by
  have h : i.natAbs < 2 ^ 200 := by
    have e : (10 : Int) ^ 39 + 1000 < 2 ^ 200 := by decide
    omega
  exact Nat.lt_of_lt_of_le (PySem.Flt.log2_lt_of (by decide) h) (by decide)
mutual
theorem shown_len {k : Nat} (hk : k ≤ 1000) : ∀ {D : PyData}, Sm k D → D.showable = true ∧ D.shown.length ≤ wt D
  | .none, _ => ⟨by simp only [PyData.showable], by decide⟩
  | .bool b, _ => ⟨by simp only [PyData.showable], by cases b <;> decide⟩
  | .int i, h => by
    simp only [Sm] at h
    exact ⟨by simp only [PyData.showable]; exact decide_eq_true (log_small hk h.1 h.2), by simp only [wt]; omega⟩
  | .str z, h => ⟨by simp only [PyData.showable], by simp only [wt]; omega⟩
  | .tuple ds, h => by
    simp only [Sm] at h
    obtain ⟨a, c, e⟩ := shownAll_len hk h
    have h3 := tupleText_len_le (PyData.shownAll ds)
    refine ⟨by simp only [PyData.showable, a], ?_⟩
    simp only [PyData.shown, wt]
    omega
  | .list ds, h => by
    simp only [Sm] at h
    obtain ⟨a, c, e⟩ := shownAll_len hk h
    have h3 := listText_len_le (PyData.shownAll ds)
    refine ⟨by simp only [PyData.showable, a], ?_⟩
    simp only [PyData.shown, wt]
    omega
  | .dict _, h => by simp only [Sm] at h
theorem shownAll_len {k : Nat} (hk : k ≤ 1000) : ∀ {ds : List PyData}, SmAll k ds → PyData.showableAll ds = true ∧ ((PyData.shownAll ds).map (·.length)).sum + 2 * (PyData.shownAll ds).length ≤ wtAll ds ∧ (PyData.shownAll ds).length = ds.length
  | [], _ => ⟨by simp only [PyData.showableAll], by simp only [PyData.shownAll, List.map_nil, List.sum_nil, wtAll, List.length_nil]; omega, by simp only [PyData.shownAll, List.length_nil]⟩
  | d :: ds, h => by
    simp only [SmAll] at h
    obtain ⟨a, c, e⟩ := shownAll_len hk h.2
    obtain ⟨q1, q2⟩ := shown_len hk h.1
    refine ⟨by simp only [PyData.showableAll, q1, a, Bool.and_self], ?_, by simp only [PyData.shownAll, List.length_cons, e]⟩
    simp only [PyData.shownAll, List.map_cons, List.sum_cons, List.length_cons, wtAll]
    omega
end
/-! ### atoms -/
theorem Fine.none (k d : Nat) : Fine k 100 d .none := ⟨by simp only [Sm], by decide, by simp only [PyData.depth]; omega⟩
theorem Fine.bool (k d : Nat) (b : Bool) : Fine k 100 d (.bool b) := ⟨by simp only [Sm], by simp only [P54.wt]; omega, by simp only [PyData.depth]; omega⟩
theorem Fine.int {k : Nat} (d : Nat) {i : Int} (hk : k ≤ 1000) (h1 : -(10 ^ 39 + (k : Int)) ≤ i) (h2 : i ≤ 10 ^ 39 + (k : Int)) : Fine k 2000 d (.int i) := by
  refine ⟨by simp only [Sm]; exact ⟨h1, h2⟩, ?_, by simp only [PyData.depth]; omega⟩
  have e := int_text_len_1921 (log_small hk h1 h2)
  simp only [P54.wt, PyData.shown]
  omega
theorem Fine.str {k m : Nat} (d : Nat) {z : Str} (h : OkS m z) (hm : m ≤ 2000 + k) : Fine k (10 * m + 3) d (.str z) := by
  refine ⟨by simp only [Sm]; exact h.up hm, ?_, by simp only [PyData.depth]; omega⟩
  have e := h.repr
  simp only [P54.wt, PyData.shown]
  omega
theorem wt_pos {D : PyData} {k : Nat} (h : Sm k D) : 1 ≤ wt D := by
  cases D with
  | dict _ => simp only [Sm] at h
  | _ => simp only [wt]; omega
/-! ### tuples -/
theorem wtAll_le {W n : Nat} : ∀ {ds : List PyData}, (∀ e ∈ ds, wt e ≤ W) → ds.length ≤ n → wtAll ds ≤ n * (W + 2)
  | [], _, _ => by simp only [wtAll]; omega
  | d :: ds, h, hn => by
    obtain ⟨m, rfl⟩ : ∃ m, n = m + 1 := ⟨n - 1, by rw [List.length_cons] at hn; omega⟩
    have h1 := h d List.mem_cons_self
    have h2 := wtAll_le (W := W) (n := m) (ds := ds) (fun x hx => h x (List.mem_cons_of_mem _ hx)) (by rw [List.length_cons] at hn; omega)
    simp only [wtAll]
    rw [Nat.add_mul, Nat.one_mul]
    omega
theorem Fine.tupN {k W d n : Nat} {ds : List PyData} (h : ∀ e ∈ ds, Fine k W d e) (hn : ds.length ≤ n) : Fine k (5 + n * (W + 2)) (d + 1) (.tuple ds) := by
  refine ⟨sm_tup.mpr fun e he => (h e he).sm, ?_, ?_⟩
  · rw [wt_tup]
    have := wtAll_le (W := W) (n := n) (fun e he => (h e he).wt) hn
    omega
  · rw [dp_tup]
    have := depthAll_le fun e he => (h e he).dp
    omega
theorem Fine.tup1 {k W d : Nat} {D : PyData} (h : Fine k W d D) : Fine k (W + 7) (d + 1) (.tuple [D]) := by
  refine ⟨sm_tup.mpr fun e he => by rw [List.mem_singleton.mp he]; exact h.sm, ?_, ?_⟩
  · rw [wt_tup]
    have := h.wt
    simp only [wtAll]
    omega
  · have := h.dp
    simp only [PyData.depth, PyData.depthAll]
    omega
theorem Fine.lst1 {k W d : Nat} {D : PyData} (h : Fine k W d D) : Fine k (W + 7) (d + 1) (.list [D]) := by
  refine ⟨sm_lst.mpr fun e he => by rw [List.mem_singleton.mp he]; exact h.sm, ?_, ?_⟩
  · rw [wt_lst]
    have := h.wt
    simp only [wtAll]
    omega
  · have := h.dp
    simp only [PyData.depth, PyData.depthAll]
    omega
theorem Fine.lst {k W d : Nat} {ds : List PyData} (h : Fine k W d (.tuple ds)) : Fine k W d (.list ds) :=
  ⟨sm_lst.mpr (sm_tup.mp h.sm), by have := h.wt; rw [wt_tup] at this; rw [wt_lst]; exact this, by have := h.dp; rw [dp_tup] at this; rw [dp_lst]; exact this⟩
/-- a tuple made of parts of a tuple -/
theorem Fine.sub {k W d : Nat} {ds es : List PyData} (h : Fine k W d (.tuple ds)) (hm : ∀ e ∈ es, e ∈ ds) (hw : wtAll es ≤ wtAll ds) : Fine k W d (.tuple es) := by
  refine ⟨sm_tup.mpr fun e he => sm_tup.mp h.sm e (hm e he), ?_, ?_⟩
  · have := h.wt
    rw [wt_tup] at this ⊢
    omega
  · have h1 := h.dp
    rw [dp_tup] at h1 ⊢
    have : PyData.depthAll es ≤ PyData.depthAll ds := depthAll_le fun e he => depthAll_mem (hm e he)
    omega
/-! ### places -/
mutual
def places : PyData → List (List Nat)
  | .tuple ds => [] :: placesAll 0 ds
  | _ => [[]]
def placesAll (i : Nat) : List PyData → List (List Nat)
  | [] => []
  | d :: ds => (places d).map (i :: ·) ++ placesAll (i + 1) ds
end
def getAt : PyData → List Nat → PyData
  | D, [] => D
  | D, i :: p => getAt (at_ D i) p
def putAt : PyData → List Nat → PyData → PyData
  | _, [], P => P
  | D, i :: p, P => .tuple ((items D).take i ++ [putAt (at_ D i) p P] ++ (items D).drop (i + 1))
def valid : PyData → List Nat → Prop
  | _, [] => True
  | D, i :: p => (∃ ds, D = .tuple ds ∧ i < ds.length) ∧ valid (at_ D i) p
theorem placesAll_len : ∀ (i : Nat) (ds : List PyData), (∀ d ∈ ds, (places d).length ≤ wt d) → (placesAll i ds).length ≤ wtAll ds
  | _, [], _ => by simp [placesAll]
  | i, d :: ds, h => by
    have h1 := h d List.mem_cons_self
    have h2 := placesAll_len (i + 1) ds fun x hx => h x (List.mem_cons_of_mem _ hx)
    simp only [placesAll, List.length_append, List.length_map, wtAll]
    omega
mutual
theorem places_len {k : Nat} : ∀ {D : PyData}, Sm k D → (places D).length ≤ wt D
  | .none, _ => by decide
  | .bool _, _ => by simp only [places, wt, List.length_singleton]; omega
  | .int _, _ => by simp only [places, wt, List.length_singleton]; omega
  | .str _, _ => by simp only [places, wt, List.length_singleton]; omega
  | .list ds, _ => by simp only [places, wt, List.length_singleton]; omega
  | .dict _, h => by simp only [Sm] at h
  | .tuple ds, h => by
    simp only [Sm] at h
    have := placesAll_lenS (i := 0) h
    simp only [places, wt, List.length_cons]
    omega
theorem placesAll_lenS {k i : Nat} : ∀ {ds : List PyData}, SmAll k ds → (placesAll i ds).length ≤ wtAll ds
  | [], _ => by simp [placesAll]
  | d :: ds, h => by
    simp only [SmAll] at h
    have h1 := places_len h.1
    have h2 := placesAll_lenS (i := i + 1) h.2
    simp only [placesAll, List.length_append, List.length_map, wtAll]
    omega
end
theorem placesAll_mem {i : Nat} {p : List Nat} : ∀ {ds : List PyData}, p ∈ placesAll i ds → ∃ j q d, p = (i + j) :: q ∧ ds[j]? = some d ∧ q ∈ places d
  | [], h => by simp [placesAll] at h
  | d :: ds, h => by
    simp only [placesAll, List.mem_append, List.mem_map] at h
    rcases h with ⟨q, hq, rfl⟩ | h
    · exact ⟨0, q, d, rfl, rfl, hq⟩
    · obtain ⟨j, q, e, rfl, he, hq⟩ := placesAll_mem (i := i + 1) h
      exact ⟨j + 1, q, e, by rw [Nat.add_assoc, Nat.add_comm 1], by simpa using he, hq⟩
theorem at_get {ds : List PyData} {j : Nat} {d : PyData} (h : ds[j]? = some d) : at_ (.tuple ds) j = d := by
  show ds.getD j .none = d
  rw [List.getD_eq_getElem?_getD, h]
  rfl
theorem places_valid : ∀ {p : List Nat} {D : PyData}, p ∈ places D → valid D p
  | [], _, _ => by simp only [valid]
  | i :: p, D, h => by
    cases D with
    | tuple ds =>
      simp only [places, List.mem_cons] at h
      rcases h with h | h
      · cases h
      · obtain ⟨j, q, d, e, hd, hq⟩ := placesAll_mem h
        injection e with e1 e2
        subst e2
        have : i = j := by omega
        subst this
        simp only [valid]
        refine ⟨⟨ds, rfl, (List.getElem?_eq_some_iff.mp hd).1⟩, ?_⟩
        rw [at_get hd]
        exact places_valid hq
    | none => simp [places] at h
    | bool _ => simp [places] at h
    | int _ => simp [places] at h
    | str _ => simp [places] at h
    | list _ => simp [places] at h
    | dict _ => simp [places] at h
theorem valid_len : ∀ {p : List Nat} {D : PyData}, valid D p → p.length ≤ D.depth
  | [], _, _ => Nat.zero_le _
  | i :: p, D, h => by
    simp only [valid] at h
    obtain ⟨⟨ds, rfl, hi⟩, hv⟩ := h
    have h1 := valid_len hv
    have hm : at_ (.tuple ds) i ∈ ds := by
      rw [at_get (List.getElem?_eq_getElem hi)]
      exact List.getElem_mem hi
    have := depthAll_mem hm
    rw [dp_tup, List.length_cons]
    omega
theorem getAt_fine {k W d : Nat} : ∀ {p : List Nat} {D : PyData}, valid D p → Fine k W d D → Fine k W d (getAt D p)
  | [], _, _, h => h
  | i :: p, D, hv, h => by
    simp only [valid] at hv
    obtain ⟨⟨ds, rfl, hi⟩, hv⟩ := hv
    simp only [getAt]
    refine getAt_fine hv ?_
    rw [at_get (List.getElem?_eq_getElem hi)]
    exact h.mem _ (List.getElem_mem hi)
theorem take_drop {ds : List PyData} {i : Nat} (hi : i < ds.length) : ds = ds.take i ++ [at_ (.tuple ds) i] ++ ds.drop (i + 1) := by
  rw [at_get (List.getElem?_eq_getElem hi)]
  simp
theorem putAt_fine {k W d U e : Nat} {P : PyData} (hP : Fine k U e P) : ∀ {p : List Nat} {D : PyData}, valid D p → Fine k W d D → Fine k (W + U) (d + e) (putAt D p P)
  | [], _, _, _ => hP.up (Nat.le_refl _) (by omega) (by omega)
  | i :: p, D, hv, h => by
    simp only [valid] at hv
    obtain ⟨⟨ds, rfl, hi⟩, hv⟩ := hv
    have hm : at_ (.tuple ds) i ∈ ds := by
      rw [at_get (List.getElem?_eq_getElem hi)]
      exact List.getElem_mem hi
    have hw := h.wt
    have hd := h.dp
    rw [wt_tup] at hw
    rw [dp_tup] at hd
    have ew : wtAll ds = wtAll (ds.take i) + (wt (at_ (.tuple ds) i) + 2) + wtAll (ds.drop (i + 1)) := by
      conv => lhs; rw [take_drop hi]
      rw [wtAll_app, wtAll_app]
      simp only [wtAll]
    have ih := putAt_fine (W := wt (at_ (.tuple ds) i)) (d := d - 1) hP hv ⟨sm_tup.mp h.sm _ hm, Nat.le_refl _, by have := depthAll_mem hm; omega⟩
    simp only [putAt, items]
    refine ⟨sm_tup.mpr fun x hx => ?_, ?_, ?_⟩
    · simp only [List.mem_append, List.mem_singleton] at hx
      rcases hx with (hx | rfl) | hx
      · exact sm_tup.mp h.sm x (List.mem_of_mem_take hx)
      · exact ih.sm
      · exact sm_tup.mp h.sm x (List.mem_of_mem_drop hx)
    · rw [wt_tup, wtAll_app, wtAll_app]
      have := ih.wt
      simp only [wtAll]
      omega
    · rw [dp_tup]
      have : PyData.depthAll (ds.take i ++ [putAt (at_ (.tuple ds) i) p P] ++ ds.drop (i + 1)) ≤ d - 1 + e := depthAll_le fun x hx => by
        simp only [List.mem_append, List.mem_singleton] at hx
        rcases hx with (hx | rfl) | hx
        · have := depthAll_mem (List.mem_of_mem_take hx)
          omega
        · exact ih.dp
        · have := depthAll_mem (List.mem_of_mem_drop hx)
          omega
      omega
end P54

set_option maxHeartbeats 4000000
/-! P52: graphs as data, and what the code of one is. -/
namespace P52
open PySem HG
inductive Opd where
  | w (i : Int)
  | v (n : Nat)
  deriving DecidableEq
abbrev vD (n : Nat) : PyData := .tuple [.str "var", .int (n : Int)]
def oD : Opd → PyData
  | .w i => .int i
  | .v n => vD n
def ovD : Option Nat → PyData
  | none => .none
  | some n => .int (n : Int)
inductive Rw where
  | cw (v : Nat) (i : Int)
  | cf (v : Nat) (x : Str)
  | cp (v u : Nat)
  | op (v : Nat) (x : Str) (a b : Opd)
  | ld (v : Nat) (x : Str)
  | rd (v : Nat) (x : Str) (a : Opd)
  | ca (v : Option Nat) (x : Str) (as : List Opd)
  | ap (v : Option Nat) (f : Nat) (as : List Opd)
  | st (x : Str) (a : Opd)
  | pr (a : Opd)
  | wr (x : Str) (a b : Opd)
def Rw.word : Rw → Str
  | .cw .. => "const"
  | .cf .. => "const"
  | .cp .. => "copy"
  | .op .. => "op"
  | .ld .. => "load"
  | .rd .. => "read"
  | .ca .. => "call"
  | .ap .. => "apply"
  | .st .. => "store"
  | .pr .. => "print"
  | .wr .. => "write"
def Rw.rest : Rw → List PyData
  | .cw v i => [.int v, .int i]
  | .cf v x => [.int v, .tuple [.str "func", .str x]]
  | .cp v u => [.int v, .int u]
  | .op v x a b => [.int v, .str x, oD a, oD b]
  | .ld v x => [.int v, .str x]
  | .rd v x a => [.int v, .str x, oD a]
  | .ca v x as => [ovD v, .str x, .tuple (as.map oD)]
  | .ap v f as => [ovD v, .int f, .tuple (as.map oD)]
  | .st x a => [.str x, oD a]
  | .pr a => [oD a]
  | .wr x a b => [.str x, oD a, oD b]
abbrev Rw.L (R : Rw) : List PyData := .str R.word :: R.rest
abbrev Rw.D (R : Rw) : PyData := .tuple R.L
def Rw.ops : Rw → List Opd
  | .cw .. => []
  | .cf .. => []
  | .cp _ u => [.v u]
  | .op _ _ a b => [a, b]
  | .ld .. => []
  | .rd _ _ a => [a]
  | .ca _ _ as => as
  | .ap _ f as => .v f :: as
  | .st _ a => [a]
  | .pr a => [a]
  | .wr _ a b => [a, b]
def Rw.set : Rw → Option Nat
  | .cw v _ => some v
  | .cf v _ => some v
  | .cp v _ => some v
  | .op v _ _ _ => some v
  | .ld v _ => some v
  | .rd v _ _ => some v
  | .ca v _ _ => v
  | .ap v _ _ => v
  | .st .. => none
  | .pr .. => none
  | .wr .. => none
/-! ### in slots -/
abbrev sv (S : List PyData) (n : Nat) : PyData := S.getD n .none
def oS (S : List PyData) : Opd → PyData
  | .w i => .int i
  | .v n => .tuple [.str "var", sv S n]
def ovS (S : List PyData) : Option Nat → PyData
  | none => .none
  | some n => sv S n
/-- with the operands in slots -/
def Rw.wo (S : List PyData) : Rw → List PyData
  | .cw v i => [.str "const", .int v, .int i]
  | .cf v x => [.str "const", .int v, .tuple [.str "func", .str x]]
  | .cp v u => [.str "copy", .int v, sv S u]
  | .op v x a b => [.str "op", .int v, .str x, oS S a, oS S b]
  | .ld v x => [.str "load", .int v, .str x]
  | .rd v x a => [.str "read", .int v, .str x, oS S a]
  | .ca v x as => [.str "call", ovD v, .str x, .tuple (as.map (oS S))]
  | .ap v f as => [.str "apply", ovD v, sv S f, .tuple (as.map (oS S))]
  | .st x a => [.str "store", .str x, oS S a]
  | .pr a => [.str "print", oS S a]
  | .wr x a b => [.str "write", .str x, oS S a, oS S b]
def Rw.S (S : List PyData) : Rw → List PyData
  | .cw v i => [.str "const", sv S v, .int i]
  | .cf v x => [.str "const", sv S v, .tuple [.str "func", .str x]]
  | .cp v u => [.str "copy", sv S v, sv S u]
  | .op v x a b => [.str "op", sv S v, .str x, oS S a, oS S b]
  | .ld v x => [.str "load", sv S v, .str x]
  | .rd v x a => [.str "read", sv S v, .str x, oS S a]
  | .ca v x as => [.str "call", ovS S v, .str x, .tuple (as.map (oS S))]
  | .ap v f as => [.str "apply", ovS S v, sv S f, .tuple (as.map (oS S))]
  | .st x a => [.str "store", .str x, oS S a]
  | .pr a => [.str "print", oS S a]
  | .wr x a b => [.str "write", .str x, oS S a, oS S b]
/-! ### ends -/
inductive Stp where
  | jp (n : Nat)
  | br (a : Opd) (n m : Nat)
  | rt (a : Option Opd)
  | ht (i : Int)
def ooD : Option Opd → PyData
  | none => .none
  | some a => oD a
def ooS (S : List PyData) : Option Opd → PyData
  | none => .none
  | some a => oS S a
def Stp.word : Stp → Str
  | .jp _ => "jump"
  | .br .. => "branch"
  | .rt _ => "return"
  | .ht _ => "halt"
def Stp.rest : Stp → List PyData
  | .jp n => [.int n]
  | .br a n m => [oD a, .int n, .int m]
  | .rt a => [ooD a]
  | .ht i => [.int i]
abbrev Stp.L (E : Stp) : List PyData := .str E.word :: E.rest
abbrev Stp.D (E : Stp) : PyData := .tuple E.L
def Stp.ops : Stp → List Opd
  | .jp _ => []
  | .br a _ _ => [a]
  | .rt none => []
  | .rt (some a) => [a]
  | .ht _ => []
def Stp.S (S : List PyData) : Stp → List PyData
  | .jp n => [.str "jump", .int n]
  | .br a n m => [.str "branch", oS S a, .int n, .int m]
  | .rt a => [.str "return", ooS S a]
  | .ht i => [.str "halt", .int i]
/-- the instructions of an end; the next block is k -/
def Stp.code (S : List PyData) (k : Nat) : Stp → List (List PyData)
  | .jp n => if n = k then [] else [[.str "jump", .int n]]
  | .br a n m => if m = k then [[.str "branch", oS S a, .int n]] else if n = k then [[.str "unless", oS S a, .int m]] else [[.str "branch", oS S a, .int n], [.str "jump", .int m]]
  | .rt a => [[.str "return", ooS S a]]
  | .ht i => [[.str "halt", .int i]]
def Stp.to : Stp → List Nat
  | .jp n => [n]
  | .br _ n m => [n, m]
  | .rt _ => []
  | .ht _ => []
/-! ### blocks, graphs -/
structure Blk where
  rows : List Rw
  stop : Stp
abbrev Blk.D (b : Blk) : PyData := .tuple [.tuple (b.rows.map Rw.D), b.stop.D]
structure Gr where
  count : Nat
  blocks : List Blk
abbrev Gr.D (g : Gr) : PyData := .tuple [.int (g.count : Int), .tuple (g.blocks.map Blk.D)]
def Blk.code (S : List PyData) (k : Nat) (b : Blk) : List (List PyData) := b.rows.map (Rw.S S) ++ b.stop.code S (k + 1)
def partsFrom (S : List PyData) : Nat → List Blk → List (List (List PyData))
  | _, [] => []
  | k, b :: r => b.code S k :: partsFrom S (k + 1) r
abbrev Gr.parts (S : List PyData) (g : Gr) : List (List (List PyData)) := partsFrom S 0 g.blocks
/-- where each part begins -/
def startsFrom : Nat → List (List (List PyData)) → List Nat
  | _, [] => []
  | n, p :: r => n :: startsFrom (n + p.length) r
def isJ (x : Str) : Bool := L2.inV (.str x) [.str "jump", .str "branch", .str "unless"]
def place (ps : List Nat) : List PyData → List PyData
  | .str x :: ds => if isJ x = true then (.str x :: ds).dropLast ++ [match ((PyData.str x :: ds).getLast?) with
      | some (.int i) => .int ((ps.getD i.toNat 0 : Nat) : Int)
      | _ => .none] else .str x :: ds
  | ds => ds
def Gr.code (S : List PyData) (g : Gr) : List (List PyData) := (g.parts S).flatten.map (place (startsFrom 0 (g.parts S)))
/-! ### variables -/
def Opd.vars : Opd → List Nat
  | .w _ => []
  | .v n => [n]
def opsVars (l : List Opd) : List Nat := l.flatMap Opd.vars
def Rw.vars (R : Rw) : List Nat := opsVars R.ops ++ R.set.toList
def Blk.vars (b : Blk) : List Nat := opsVars b.stop.ops ++ b.rows.flatMap Rw.vars
def Gr.vars (g : Gr) : List Nat := g.blocks.flatMap Blk.vars
/-- its variables and its places are there -/
structure Gr.Ok (g : Gr) (S : List PyData) : Prop where
  vars : ∀ n ∈ g.vars, n < S.length
  to : ∀ b ∈ g.blocks, ∀ n ∈ b.stop.to, n < g.blocks.length
end P52

set_option maxHeartbeats 4000000
/-! P52C: parts and their starts, block by block. -/
namespace P52
open PySem HG
theorem partsFrom_snoc (S : List PyData) (b : Blk) : ∀ (k : Nat) (l : List Blk), partsFrom S k (l ++ [b]) = partsFrom S k l ++ [b.code S (k + l.length)]
  | k, [] => rfl
  | k, x :: l => by
    rw [List.cons_append]
    simp only [partsFrom]
    rw [partsFrom_snoc S b (k + 1) l, List.length_cons, List.cons_append, Nat.add_assoc, Nat.add_comm 1]
theorem startsFrom_snoc (q : List (List PyData)) : ∀ (n : Nat) (l : List (List (List PyData))), startsFrom n (l ++ [q]) = startsFrom n l ++ [n + l.flatten.length]
  | n, [] => rfl
  | n, x :: l => by
    rw [List.cons_append]
    simp only [startsFrom]
    rw [startsFrom_snoc q (n + x.length) l, List.flatten_cons, List.length_append, List.cons_append, Nat.add_assoc]
theorem parts_take {S : List PyData} {bs : List Blk} {i : Nat} {b : Blk} (h : bs[i]? = some b) : partsFrom S 0 (bs.take (i + 1)) = partsFrom S 0 (bs.take i) ++ [b.code S i] := by
  have hi := (List.getElem?_eq_some_iff.mp h).1
  rw [List.take_add_one, h]
  show partsFrom S 0 (bs.take i ++ [b]) = _
  rw [partsFrom_snoc, List.length_take, Nat.zero_add, Nat.min_eq_left (by omega)]
theorem partsFrom_len (S : List PyData) : ∀ (k : Nat) (l : List Blk), (partsFrom S k l).length = l.length
  | _, [] => rfl
  | k, b :: l => by simp only [partsFrom, List.length_cons, partsFrom_len S (k + 1) l]
theorem startsFrom_len : ∀ (n : Nat) (l : List (List (List PyData))), (startsFrom n l).length = l.length
  | _, [] => rfl
  | n, p :: l => by simp only [startsFrom, List.length_cons, startsFrom_len (n + p.length) l]
theorem partsFrom_mem {S : List PyData} {p : List (List PyData)} : ∀ {k : Nat} {l : List Blk}, p ∈ partsFrom S k l → ∃ b ∈ l, ∃ j, p = b.code S j
  | k, [], h => by cases h
  | k, b :: l, h => by
    simp only [partsFrom] at h
    rcases List.mem_cons.mp h with z | z
    · exact ⟨b, List.mem_cons_self, k, z⟩
    · obtain ⟨b', h1, h2⟩ := partsFrom_mem z
      exact ⟨b', List.mem_cons_of_mem _ h1, h2⟩
theorem code_len (S : List PyData) (k : Nat) (E : Stp) : (E.code S k).length ≤ 2 := by
  cases E with
  | jp n =>
    simp only [Stp.code]
    split <;> simp
  | br a n m =>
    simp only [Stp.code]
    split
    · simp
    · split <;> simp
  | rt a => simp [Stp.code]
  | ht i => simp [Stp.code]
theorem flat_len {S : List PyData} {m : Nat} : ∀ {k : Nat} {l : List Blk}, (∀ b ∈ l, b.rows.length ≤ m) → (partsFrom S k l).flatten.length ≤ l.length * (m + 2)
  | _, [], _ => by simp [partsFrom]
  | k, b :: l, h => by
    have h1 := flat_len (S := S) (k := k + 1) (l := l) fun b hb => h b (List.mem_cons_of_mem _ hb)
    have h2 := h b List.mem_cons_self
    have h3 := code_len S (k + 1) b.stop
    simp only [partsFrom, List.flatten_cons, List.length_append, List.length_cons, Blk.code, List.length_map]
    rw [Nat.add_mul, Nat.one_mul]
    omega
/-- its variables are there, its places too; it is not too great -/
structure Gr.In (g : Gr) (S : List PyData) : Prop where
  ops : ∀ b ∈ g.blocks, ∀ R ∈ b.rows, ∀ a ∈ R.ops, ∀ n ∈ a.vars, n < S.length
  set : ∀ b ∈ g.blocks, ∀ R ∈ b.rows, ∀ n, R.set = some n → n < S.length
  end_ : ∀ b ∈ g.blocks, ∀ a ∈ b.stop.ops, ∀ n ∈ a.vars, n < S.length
  to : ∀ b ∈ g.blocks, ∀ n ∈ b.stop.to, n < g.blocks.length
  len : ∀ b ∈ g.blocks, ∀ R ∈ b.rows, R.ops.length ≤ 1000
  rows : ∀ b ∈ g.blocks, b.rows.length ≤ 100
  many : g.blocks.length ≤ 100
end P52

set_option maxHeartbeats 4000000
/-! HU: a lambda that captures one name, handed to a def and called there. The cell of the name is known to the def that is called (CellO), and hidden again while the lambda runs. -/
namespace HG
open PySem PySem.Spec PyProof.Rows L2 LamX NdefX
def CellO (c : Addr) (o : Obj) : HO := .ext fun h => h.get? c = some o
def CellV (o : Obj) (v : V) : Prop := ∃ u, o.data = .cell (some u) ∧ RelV v u
structure LF where
  qual : Str
  params : Arguments
  body : Expr
  scope : Scope
def LamO (f : Addr) (F : LF) (y : Str) (c' cs : Addr) : HO :=
  .ext fun h => ∃ (cl : List (Str × Addr)) (pm ctv : Value), h.get? f = some (PySem.W.kla_obj "<lambda>" F.qual F.params F.body F.scope cl pm c' ctv) ∧ cl.lookup y = some cs ∧ ∀ z c, cl.lookup z = some c → z = y
def hide (H : Hp) (c : Addr) : Hp := fun b => if b = c then none else H b
theorem hide_same {H : Hp} {c : Addr} : hide H c c = none := if_pos rfl
theorem hide_ne {H : Hp} {c b : Addr} (h : b ≠ c) : hide H c b = H b := if_neg h
theorem hide_none {H : Hp} {c b : Addr} (h : H b = none) : hide H c b = none := by
  unfold hide
  split
  · rfl
  · exact h
section
variable {P : Program} {w : World} {K : PySem.W.Frag} {mg : Str → Option Value} {base : Heap} {A : Around} {outer : List Env} {s s' : Shared} {H : Hp} {h : Heap} {c : Addr} {o : Obj} {Q : VK} {E : XK} {r : Result}
theorem cellO_get (hok : HOk P w H h) (e : H c = some (CellO c o)) : h.get? c = some o := by
  obtain ⟨z, _, _⟩ := hok c _ e
  exact z
theorem cell_ne {u : HO} (hu : ∀ φ, u ≠ .ext φ) {b : Addr} (e : H c = some (CellO c o)) (q : H b = some u) : b ≠ c := fun z => by
  rw [z, e] at q
  exact hu _ (Option.some.inj q).symm
theorem hok_hide (hok : HOk P w H h) (e : H c = some (CellO c o)) : HOk P w (hide H c) h := by
  intro a u q
  have na : a ≠ c := fun z => by
    rw [z, hide_same] at q
    cases q
  rw [hide_ne na] at q
  refine (hok a u q).stay (fun _ _ _ z => z) (fun b z => ?_) (fun b xs z => ?_)
  · rw [hide_ne (cell_ne (fun _ y => by cases y) e z)]; exact z
  · rw [hide_ne (cell_ne (fun _ y => by cases y) e z)]; exact z
theorem hok_adopt (hok : HOk P w H h) (n : H c = none) (g : h.get? c = some o) : HOk P w (upd H c (CellO c o)) h := by
  intro a u q
  by_cases z : a = c
  · subst z
    rw [upd_same] at q
    cases q
    exact ⟨g, ⟨o, g⟩, fun h1 h2 p st => st _ p⟩
  · rw [upd_ne z] at q
    refine (hok a u q).stay (fun _ _ _ z => z) (fun b y => ?_) (fun b xs y => ?_)
    · rw [upd_ne (ne_of_none y n)]; exact y
    · rw [upd_ne (ne_of_none y n)]; exact y
theorem env0_hide (e0 : Env0 P w K mg base A outer s H) (e : H c = some (CellO c o)) : Env0 P w K mg base A outer s (hide H c) where
  frames := e0.frames
  mod := e0.mod
  bs := fun b u q => ⟨(e0.bs b u q).1, hide_none (e0.bs b u q).2⟩
  bsz := e0.bsz
  funs := e0.funs
  frf := fun b hb => hide_none (e0.frf b hb)
  hok := hok_hide e0.hok e
  bare := e0.bare
theorem env0_adopt (e0 : Env0 P w K mg base A outer s H) (n : H c = none) (g : s.heap.get? c = some o) (nb : base.get? c = none) (nf : c ∉ frs outer) : Env0 P w K mg base A outer s (upd H c (CellO c o)) where
  frames := e0.frames
  mod := e0.mod
  bs := fun b u q => ⟨(e0.bs b u q).1, by
    rw [upd_ne (fun z => by rw [z, nb] at q; cases q)]
    exact (e0.bs b u q).2⟩
  bsz := e0.bsz
  funs := e0.funs
  frf := fun b hb => by
    have z : b ≠ c := fun z => nf (by rw [← z]; exact hb)
    rw [upd_ne z]
    exact e0.frf b hb
  hok := hok_adopt e0.hok n g
  bare := e0.bare
theorem cr_hide (e : H c = some (CellO c o)) (e0 : Env0 P w K mg base A outer s H) (h : CR CX0 outer P w (hide H c) s (fun v H2 => H2 c = none → Q v (upd H2 c (CellO c o))) E r s') : CR CX0 outer P w H s Q E r s' := by
  cases r with
  | error _ => exact h.elim
  | ok fl =>
    cases fl with
    | next => exact h.elim
    | brk => exact h.elim
    | cont => exact h.elim
    | ret u =>
      obtain ⟨v, H2, os, bare, un, hok2, rv, q⟩ := h
      have nf : c ∉ frs outer := fun z => by
        have := e0.frf c z
        rw [e] at this
        cases this
      have g := cellO_get e0.hok e
      have g' : s'.heap.get? c = some o := un.keep c o g hide_same nf (by simp)
      have n2 : H2 c = none := un.free c o g hide_same (by simp)
      have nn : ∀ {b : Addr}, H b = none → b ≠ c := fun {b} n z => by rw [z, e] at n; cases n
      refine ⟨v, upd H2 c (CellO c o), os, bare, ⟨fun b u q n hb hx => un.keep b u q (hide_none n) hb hx, fun b u q n hb hx => un.slot b u q (hide_none n) hb hx, fun b u q n hx => ?_, un.there, fun b xs q => ?_, fun b o' u q => ?_, fun b ps q => ?_⟩, hok_adopt hok2 n2 g', rv, q n2⟩
      · rw [upd_ne (nn n)]
        exact un.free b u q (hide_none n) hx
      · have nb := cell_ne (u := .tup xs) (fun _ y => by cases y) e q
        rw [upd_ne nb]
        exact un.tups b xs ((hide_ne nb).trans q)
      · have nb := cell_ne (u := .frz o' u) (fun _ y => by cases y) e q
        rw [upd_ne nb]
        exact un.frzs b o' u ((hide_ne nb).trans q)
      · have nb := cell_ne (u := .tbl ps) (fun _ y => by cases y) e q
        rw [upd_ne nb]
        exact un.tbls b ps ((hide_ne nb).trans q)
theorem cr_adopt (n : H c = none) (g : s.heap.get? c = some o) (nf : c ∉ frs outer) (h : CR CX0 outer P w (upd H c (CellO c o)) s (fun v H2 => H2 c = some (CellO c o) ∧ Q v (hide H2 c)) E r s') : CR CX0 outer P w H s Q E r s' := by
  cases r with
  | error _ => exact h.elim
  | ok fl =>
    cases fl with
    | next => exact h.elim
    | brk => exact h.elim
    | cont => exact h.elim
    | ret u =>
      obtain ⟨v, H2, os, bare, un, hok2, rv, e2, q⟩ := h
      have g' := cellO_get hok2 e2
      have up : ∀ {b : Addr} {u : HO}, H b = some u → upd H c (CellO c o) b = some u := fun {b u} q => by rw [upd_ne (ne_of_none q n)]; exact q
      refine ⟨v, hide H2 c, os, bare, ⟨fun b u qb n1 hb hx => ?_, fun b u q n1 hb hx => ?_, fun b u q n1 hx => ?_, fun b u q hx => un.there b u q hx, fun b xs q => ?_, fun b o' u q => ?_, fun b ps q => ?_⟩, hok_hide hok2 e2, rv, q⟩
      · by_cases z : b = c
        · subst z
          rw [g] at qb
          cases qb
          exact g'
        · exact un.keep b u qb (by rw [upd_ne z]; exact n1) hb hx
      · have z : b ≠ c := fun z => nf (by rw [← z]; exact hb)
        exact un.slot b u q (by rw [upd_ne z]; exact n1) hb hx
      · by_cases z : b = c
        · rw [z]; exact hide_same
        · exact hide_none (un.free b u q (by rw [upd_ne z]; exact n1) hx)
      · rw [hide_ne (ne_of_none q n)]; exact un.tups b xs (up q)
      · rw [hide_ne (ne_of_none q n)]; exact un.frzs b o' u (up q)
      · rw [hide_ne (ne_of_none q n)]; exact un.tbls b ps (up q)
end
/-! ### the lambda's run -/
structure LOk (P : Program) (w : World) (K : PySem.W.Frag) (mg : Str → Option Value) (base : Heap) (k : Nat) (F : LF) (y : Str) (sp : V → Sp) : Prop where
  run : ∀ (A : Around) (outer : List Env) (s : Shared) (H : Hp) (us : List Value) (vs : List V) (v : V) (cs c' f : Addr) (o : Obj) (Q : VK), Room k A → Env0 P w K mg base A outer s H → H f = some (LamO f F y c' cs) → H c' = some (CodeO c' F.qual) →
    H cs = some (CellO cs o) → CellV o v → Vals vs us → sp v vs (hide H cs) (fun r H2 => H2 cs = none → Q r (upd H2 cs (CellO cs o))) E0 → codeAny (model P w) A (.call (.ref f) ⟨us, []⟩) (CR CX0 outer P w H s Q E0) s
abbrev LF.nf (F : LF) (cl : List (Str × Addr)) (c' : Addr) : NF := ⟨"<lambda>", F.qual, F.params, [], F.scope, cl, c'⟩
theorem lok_of {P : Program} {w : World} {K : PySem.W.Frag} {mg : Str → Option Value} {base : Heap} {k : Nat} {F : LF} {y : Str} {sp : V → Sp} {N ps : List Str} (S : NScope N ps [y] F.scope)
    (hb : ∀ (cl : List (Str × Addr)) (pm cv ctv : Value) (us : List Value), us.length = ps.length → bindArgs (PySem.W.kla_fn "<lambda>" F.qual F.params F.body F.scope cl pm cv ctv) ⟨us, []⟩ = pure (ps.zip us))
    (len : ∀ v vs H Q, sp v vs H Q E0 → vs.length = ps.length)
    (hbody : ∀ (A : Around) (outer : List Env) (s : Shared) (H : Hp) (vs : List V) (v : V) (cl : List (Str × Addr)) (c' f : Addr) (Q : VK), Room k (A.deeper (envF (F.nf cl c') f s.heap.objs.size)) → sp v vs H Q E0 →
      ∃ t, PE (ncx CX0 P w K mg base N (F.nf cl c') f A outer s H E0) F.body t ∧ t (startF N vs [some v]) H Q) : LOk P w K mg base (k + 1) F y sp := by
  refine ⟨fun A outer s H us vs v cs c' f o Q hr e0 hf hc hcs hv r hsp => ?_⟩
  obtain ⟨⟨cl, pm, ctv, ho, hy, hz⟩, _, _⟩ := e0.hok f _ hf
  have hl := len _ _ _ _ hsp
  have g := cellO_get e0.hok hcs
  refine codeAny_mono (R := CR CX0 outer P w (hide H cs) s (fun v H2 => H2 cs = none → Q v (upd H2 cs (CellO cs o))) E0) ?_ (fun r s' h => cr_hide hcs e0 h)
  have e1 := env0_hide e0 hcs
  have lim : s.heap.NoLimit := e0.mod.nolimit.keeps fun b o e => (e0.bs b o e).1
  refine PySem.W.kla_callFunE hr.depth ho rfl S.co S.gen rfl (codeO_at e0.hok hc) ?_
  rw [hb cl pm (.ref c') ctv us (by rw [← r.length]; exact hl)]
  refine wpAny_pure (wpAny_newFunctionEnv S.nocell (fun ⟨n, _⟩ hy => S.par n (List.of_mem_zip hy).1) (fun h₁ hns hsb => ⟨lim.fresh _ hsb, ?_⟩) S.kind)
  show codeAny _ _ (.expr F.body (envF (F.nf cl c') f s.heap.objs.size)) _ _
  have kp : ∀ b u, s.heap.get? b = some u → h₁.get? b = some u := fun b u e => hsb.extBut b u (Nat.ne_of_lt (Heap.lt_size e)) (Heap.get?_push_of_some _ e)
  obtain ⟨u0, hd0, ru0⟩ := hv
  have C : CellsAt cl [y] [some v] s.heap (hide H cs) := by
    refine ⟨rfl, fun z c e => ?_, fun a b c e1 e2 => (hz a c e1).trans (hz b c e2).symm, fun i z e => ?_⟩
    · have ez := hz z c e
      subst ez
      rw [hy] at e
      cases e
      exact ⟨hide_same, some u0, o, g, hd0⟩
    · match i, e with
      | 0, e =>
        cases e
        refine ⟨cs, hy, fun v' e' => ?_⟩
        cases e'
        exact ⟨u0, ru0, o, g, hd0⟩
      | i + 1, e => cases e
  obtain ⟨t, ht, hq⟩ := hbody A outer s (hide H cs) vs v cl c' f _ (hr.deeper _) hsp
  have J : Inv (ncx CX0 P w K mg base N (F.nf cl c') f A outer s (hide H cs) E0) [] (startF N vs [some v]) (hide H cs) { s with heap := h₁, toks := s.toks + (ps.zip us).length } := inv_startN S hr.hd e1 hl r C hns kp
  refine PySem.W.kla_codeExpr (wpAny_mono (ht.run [] _ _ _ _ J hq) (fun v s' hq => ?_) fun e s' hq => hq)
  obtain ⟨w', H', J', rv, q⟩ := hq
  exact ⟨w', H', J'.os, J'.bare, J'.base, J'.hok, rv, q⟩
/-! ### its call -/
def tCallLam (i : Nat) (F : LF) (y : Str) (sp : V → Sp) (t : TA) : TE := fun σ H Q => ∃ (f c' cs : Addr) (o : Obj) (v : V), σ[i]? = some (some (.ref f)) ∧ H f = some (LamO f F y c' cs) ∧
  t σ H fun vs H1 => H1 f = some (LamO f F y c' cs) ∧ H1 c' = some (CodeO c' F.qual) ∧ H1 cs = some (CellO cs o) ∧ CellV o v ∧ sp v vs (hide H1 cs) (fun r H2 => H2 cs = none → Q r (upd H2 cs (CellO cs o))) E0
section
variable {X : Cx} {k i j : Nat} {F : LF} {x y : Str} {sp : V → Sp} {p pos : Pos} {e : Expr} {es : List Expr} {t : TA}
theorem lam_at {pins : List (Addr × Obj)} {σ : L2.St} {H : Hp} {s : Shared} {f c' cs : Addr} (I : Inv X pins σ H s) (e : H f = some (LamO f F y c' cs)) : PySem.W.FnAt f s.heap := by
  obtain ⟨⟨cl, pm, ctv, ho, _⟩, _, _⟩ := I.hok f _ e
  exact ⟨_, _, _, _, ho⟩
theorem pe_callLam (L : LOk X.prog X.w X.K X.mg X.base k F y sp) (hr : Room k X.A) (hN : X.N[i]? = some x) (hv : Vis X.env.scope x) (ha : PA X (e :: es) t)
    (hd : (x == ("__debug__" : Str)) = false := by decide) (hcd : (x == ("__classdict__" : Str)) = false := by decide)
    (he : starEach (e :: es) X.env = (false, eval e X.env) :: starEach es X.env := by rfl) (hpl : (backTo pos (starEach es X.env)).any (·.1) = false := by rfl) :
    PE X (.Call (.Name x p) (e :: es) [] pos) (tCallLam i F y sp t) := by
  constructor
  rintro pins s σ H Q I ⟨f, c', cs, o, v, hs, hf, ht⟩
  refine wpAny_Call_Name_kw (thn ((pe_var (pos := p) hN hv hd hcd).run pins s σ H (fun v H1 => v = .ref f ∧ H1 = H) I ⟨.ref f, hs, rfl, rfl⟩) ?_)
  rintro u s1 ⟨v1, H1, I1, r1, rfl, rfl⟩
  obtain rfl : u = Value.ref f := r1
  refine PySem.W.callWith_F (first := []) (lam_at I1 hf) (thn (ha.run pos pins s1 σ H1 _ I1 ht) ?_) he hpl
  rintro us s2 ⟨vs, H2, I2, r, h1, h2, h3, h4, q⟩
  refine ⟨lam_at I2 h1, ?_⟩
  show wpAny _ _ (call (.ref f) us) _ _ _
  refine wpAny_call (codeAny_mono (L.run X.A X.stack s2 H2 us vs v cs c' f o Q hr I2.env0 h1 h2 h3 h4 r q) fun r s' hq => ?_)
  exact fin_call pass0 I2 hq
/-! ### a lambda as a value -/
def tLm (T : List (Addr × Str)) (F : LF) (y : Str) (cs : Addr) : TE := fun σ H Q => Tabs T H ∧ ∀ (f c' : Addr) (H1 : Hp), ExtN H H1 → (∀ b, H1 b = none → H b = none) → Tabs T H1 → H f = none → H1 f = some (LamO f F y c' cs) → H1 c' = some (CodeO c' F.qual) → Q (.ref f) H1
theorem lamO_ne {f c' cs : Addr} (ps : Array Value) : LamO f F y c' cs ≠ .tbl ps := fun z => by
  unfold LamO at z
  cases z
theorem tabs_ext {T : List (Addr × Str)} {H H' : Hp} (t : Tabs T H) (s : Same H H') : Tabs T H' := t.ext s
theorem pe_lam {T : List (Addr × Str)} {c P : Addr} {params : Arguments} {body : Expr} {scope : Scope} (TB : TabB X.base X.mg c P) (hcode : X.env.code = .ref c)
    (hm : (P, X.env.qual ++ "<lambda>") ∈ T) (hu : ∀ p ∈ T, p.1 = P → p.2 = X.env.qual ++ "<lambda>") (hdef : defaultsOf params X.env = ([], []))
    (hy : (y, NameKind.free) ∈ scope.names) (hk : X.env.scope.names.lookup y = some .cell) (only : ∀ z ∈ scope.names, z.2 = .free → z.1 = y) :
    PE X (.Lambda params body scope pos) (tLm T ⟨X.env.qual ++ "<lambda>", params, body, scope⟩ y ((X.env.cells.lookup y).getD 0)) := by
  constructor
  rintro pins s σ H Q I ⟨hT, hq⟩
  obtain ⟨ps, hP, ht, ha⟩ := hT _ hm
  have hfree : ∀ z ∈ scope.names, z.2 = .free → ∃ c, X.env.cells.lookup z.1 = some c := fun z hz e => by
    rw [only z hz e]
    exact I.ok.has y (.inl hk)
  have hl1 : (cloFrom X.env.cells scope.names []).lookup y = some ((X.env.cells.lookup y).getD 0) := by
    obtain ⟨cy, ey⟩ := I.ok.has y (.inl hk)
    rw [ey]
    exact clo_has hfree hy ey
  have hl2 : ∀ z c, (cloFrom X.env.cells scope.names []).lookup z = some c → z = y := fun z c e => by
    rcases cloFrom_mem (PySem.mem_of_lookup e) with q | ⟨q, _⟩
    · cases q
    · exact only _ q rfl
  have bP : s.heap.BuiltinsAt X.mg P := TB.bm.keeps I.bk
  have hP' : s.heap.get? P = some { cls := .none, data := .fields ps } := I.hok P _ hP
  have lamOk : ∀ (H1 : Hp) (h1 : Heap) (f c' : Addr) (pm ctv : Value), h1.get? f = some (PySem.W.kla_obj "<lambda>" (X.env.qual ++ "<lambda>") params body scope (cloFrom X.env.cells scope.names []) pm c' ctv) →
      ObjOk X.prog X.w H1 h1 f (LamO f ⟨X.env.qual ++ "<lambda>", params, body, scope⟩ y c' ((X.env.cells.lookup y).getD 0)) := fun H1 h1 f c' pm ctv e =>
    ⟨⟨_, pm, ctv, e, hl1, hl2⟩, ⟨_, e⟩, fun h2 h3 ⟨cl, pm, ctv, e, r⟩ st => ⟨cl, pm, ctv, st _ e, r⟩⟩
  refine PySem.W.kla_eval hdef ?_
  cases hc : codeAmong pos ps.toList with
  | some cv =>
    obtain ⟨c', e, hco⟩ := ha pos cv hc
    subst e
    refine PySem.W.kla_makeFunctionHit (mg := X.mg) (c := c) (P := P) (ps := ps) (closure_ok hfree) I.ok.glob (I.mod.glob.keeps I.bk) hcode (TB.code.keeps I.bk) hP' ht hc bP ?_
    intro ctv h' tk hx hsz
    have I1 : Inv X pins σ H { s with heap := h', toks := tk } := I.kept hx
    have nF : H h'.objs.size = none := I1.hok.fresh (Nat.le_refl _)
    have sm : Same H (upd H h'.objs.size (LamO h'.objs.size ⟨X.env.qual ++ "<lambda>", params, body, scope⟩ y c' ((X.env.cells.lookup y).getD 0))) := fun b o e => upd_get nF e
    have I2 := I1.laid (h' := h'.push (PySem.W.kla_obj "<lambda>" (X.env.qual ++ "<lambda>") params body scope (cloFrom X.env.cells scope.names []) ((X.mg "__name__").getD .none) c' ctv)) (t' := tk) (a := h'.objs.size)
      (fun b u e => Heap.get?_push_of_some _ e) (Nat.le_refl _) (lamOk _ _ _ _ _ _ (Heap.get?_push_size _ rfl))
    exact ⟨.ref _, _, I2, rfl, hq h'.objs.size c' _ (ExtN.of sm) (fun b e => upd_none e) (hT.ext sm) nF upd_same (sm _ _ hco)⟩
  | none =>
    refine PySem.W.kla_makeFunction (mg := X.mg) (c := c) (P := P) (ps := ps) (closure_ok hfree) I.ok.glob (I.mod.glob.keeps I.bk) hcode (TB.code.keeps I.bk) hP' ht hc TB.gP bP ?_
    intro c' ctv h' tk hx hge hlt hrec htb
    obtain ⟨c2, oc, vs, t, e2, hoc, hd, hv⟩ := hrec
    cases e2
    have nC : H c' = none := I.hok.fresh hge
    have nP : P ≠ c' := ne_of_none hP nC
    have I1 := inv_table (t' := tk) (more := #[rawInt pos.line, rawInt pos.col, .ref c']) (h' := h') I hP (fun b o hb e => hx b o hb e) htb hge ⟨oc, vs, t, hoc, hd, hv⟩
    generalize eH1 : upd (upd H P (.tbl (ps ++ #[rawInt pos.line, rawInt pos.col, .ref c']))) c' (CodeO c' (X.env.qual ++ "<lambda>")) = H1 at I1
    have atP : H1 P = some (.tbl (ps ++ #[rawInt pos.line, rawInt pos.col, .ref c'])) := by rw [← eH1, upd_ne nP, upd_same]
    have atC : H1 c' = some (CodeO c' (X.env.qual ++ "<lambda>")) := by rw [← eH1]; exact upd_same
    have rest : ∀ b o, H b = some o → b ≠ P → H1 b = some o := fun b o e hb => by
      rw [← eH1, upd_ne (ne_of_none e nC), upd_ne hb]
      exact e
    have hE : ExtN H H1 := fun b o e n => rest b o e fun z => n ps (Option.some.inj (e.symm.trans (z ▸ hP)))
    have gr : ∀ b, H1 b = none → H b = none := fun b e => by
      rw [← eH1] at e
      exact upd_none (upd_none e)
    have T1 : Tabs T H1 := by
      intro p hp
      by_cases hb : p.1 = P
      · have eL : (ps ++ #[rawInt pos.line, rawInt pos.col, .ref c']).toList = ps.toList ++ [rawInt pos.line, rawInt pos.col, .ref c'] := by simp
        rw [hu p hp hb, hb]
        refine ⟨_, atP, by rw [eL]; exact PySem.TriplesOk_snoc _ _ _ _ ht, fun p' cv hcv => ?_⟩
        rw [eL] at hcv
        rcases among_app _ ht hcv with z | z
        · obtain ⟨c0, e1, e2⟩ := ha p' cv z
          exact ⟨c0, e1, hE _ _ e2 codeO_ne⟩
        · exact ⟨c', z, atC⟩
      · obtain ⟨ps', a1, a2, a3⟩ := hT p hp
        refine ⟨ps', rest _ _ a1 hb, a2, fun p' cv hcv => ?_⟩
        obtain ⟨c0, e1, e2⟩ := a3 p' cv hcv
        exact ⟨c0, e1, hE _ _ e2 codeO_ne⟩
    have nF : H1 h'.objs.size = none := I1.hok.fresh (Nat.le_refl _)
    have sm : Same H1 (upd H1 h'.objs.size (LamO h'.objs.size ⟨X.env.qual ++ "<lambda>", params, body, scope⟩ y c' ((X.env.cells.lookup y).getD 0))) := fun b o e => upd_get nF e
    have I2 := I1.laid (h' := h'.push (PySem.W.kla_obj "<lambda>" (X.env.qual ++ "<lambda>") params body scope (cloFrom X.env.cells scope.names []) ((X.mg "__name__").getD .none) c' ctv)) (t' := tk) (a := h'.objs.size)
      (fun b u e => Heap.get?_push_of_some _ e) (Nat.le_refl _) (lamOk _ _ _ _ _ _ (Heap.get?_push_size _ rfl))
    exact ⟨.ref _, _, I2, rfl, hq h'.objs.size c' _ (hE.trans (ExtN.of sm)) (fun b e => gr b (upd_none e)) (T1.ext sm) (gr _ nF) upd_same (sm _ _ atC)⟩
/-! ### a def called while a cell is known -/
def tCalA (j : Nat) (cs : Addr) (sp : Sp) (t : TA) : TE := fun σ H Q => t σ H fun vs H1 => ∃ v, σ[j]? = some (some v) ∧ (H1 cs = none → ∀ o, CellV o v → sp vs (upd H1 cs (CellO cs o)) (fun r H' => H' cs = some (CellO cs o) ∧ Q r (hide H' cs)) E0)
theorem pe_calA {ps : List Str} {sp : Sp} (C : Cal X.prog X.w X.K X.mg X.base x k ps sp) (hr : Room k X.A) (hg : Gl X x) (ha : PA X (e :: es) t) (hN : X.N[j]? = some y) (hk : X.env.scope.names.lookup y = some .cell) (hfn : X.fn y = true)
    (hdb : (x == ("__debug__" : Str)) = false := by decide)
    (he : starEach (e :: es) X.env = (false, eval e X.env) :: starEach es X.env := by rfl)
    (hpl : (backTo pos (starEach es X.env)).any (·.1) = false := by rfl) : PE X (.Call (.Name x p) (e :: es) [] pos) (tCalA j ((X.env.cells.lookup y).getD 0) sp t) := by
  obtain ⟨fd, F, b⟩ := C.ex
  constructor
  intro pins s σ H Q I h
  refine wpAny_Call_Name_kw (ld_glob I hg C.gl ?_ hdb)
  refine PySem.W.callWith_K (h₀ := X.base) I.ok.mod.kin C.kp (thn (ha.run pos pins s σ H _ I h) ?_) he hpl
  rintro us s1 ⟨vs, H1, I1, r, v, hv, q⟩
  obtain ⟨cs, ecs⟩ := I1.ok.has y (.inl hk)
  rw [ecs] at q
  have nC : H1 cs = none := I1.freeC y cs ecs
  obtain ⟨m, hn, hl⟩ := I1.loc
  obtain ⟨u, ru, lk⟩ := hl j y v hN hv (.inr (.inl hk))
  have cell : s1.heap.IsCell cs (some u) := by
    rcases lk with ⟨z, _⟩ | ⟨_, c2, e2, z⟩
    · have z : X.env.scope.names.lookup y = some .local := z
      rw [hk] at z
      cases z
    · rw [ecs] at e2
      cases e2
      exact z
  obtain ⟨o, go, hd⟩ := cell
  have hge : X.s_0.heap.objs.size ≤ cs := I1.ok.cab y cs hfn ecs
  have nb : X.base.get? cs = none := by
    cases z : X.base.get? cs with
    | none => rfl
    | some ob =>
      have h1 := Heap.lt_size z
      have h2 := I1.ok.bsz
      exact absurd (Nat.lt_of_lt_of_le h1 (Nat.le_trans h2 hge)) (Nat.lt_irrefl _)
  have nO : cs ∉ X.fs := fun z => by
    obtain ⟨ob, e1, _⟩ := (I1.ok.funs.mem z).2
    exact absurd (Nat.lt_of_lt_of_le (Heap.lt_size e1) hge) (Nat.lt_irrefl _)
  have nf : cs ∉ frs X.stack := fun z => by
    rcases I1.ok.stk with e | ⟨e, ef⟩
    · rw [e] at z
      exact nO z
    · rw [e] at z
      have z : cs ∈ (X.env :: X.outer).filterMap (·.frame) := z
      rw [List.filterMap_cons, ef] at z
      rcases List.mem_cons.mp z with z | z
      · obtain ⟨ob, es1, ep, e1, d1, _⟩ := hn
        rw [← z, go] at e1
        cases e1
        rw [hd] at d1
        cases d1
      · exact nO z
  have q := q nC o ⟨u, hd, ru⟩
  have hl1 : us.length = ps.length := r.length.symm.trans (F.len _ _ _ _ q)
  refine ⟨I1.kIn, wpAny_call (codeAny_mono (F.run X.A X.stack s1 (upd H1 cs (CellO cs o)) ⟨us, []⟩ us vs _ _ hr (env0_adopt I1.env0 nC go nb nf) ?_ r q) fun r s' hq => ?_)⟩
  · have := b s1 us I1.kIn (by rw [List.append_nil]; exact hl1)
    rw [List.append_nil] at this
    exact this
  · exact fin_call pass0 I1 (cr_adopt nC go nf hq)
end
/-- the lambda and what it needs, as data S -/
structure LamAt (K : PySem.W.Frag) (F : LF) (y : Str) (H : Hp) (f c' cs : Addr) (o : Obj) (v : V) (S : List PyData) : Prop where
  lam : H f = some (LamO f F y c' cs)
  code : H c' = some (CodeO c' F.qual)
  cell : H cs = some (CellO cs o)
  val : CellV o v
  dat : Dp K H v (.tuple S)
theorem LamAt.mono {K : PySem.W.Frag} {F : LF} {y : Str} {H H' : Hp} {f c' cs : Addr} {o : Obj} {v : V} {S : List PyData} (h : LamAt K F y H f c' cs o v S) (s : Same H H') : LamAt K F y H' f c' cs o v S :=
  ⟨s _ _ h.lam, s _ _ h.code, s _ _ h.cell, h.val, dp_mono s _ _ h.dat⟩
mutual
theorem dp_hide {K : PySem.W.Frag} {H : Hp} {c : Addr} {o : Obj} (e : H c = some (CellO c o)) : ∀ (d : PyData) (v : V), Dp K H v d → Dp K (hide H c) v d
  | .none, _, h => by cases h; exact .non
  | .bool b, _, h => by cases h; exact .bl b
  | .int i, _, h => by cases h; exact .int i
  | .str x, _, h => by cases h; exact .str x
  | .list ds, _, h => by
    cases h with
    | lst s a =>
      refine .lst ?_ (dpAll_hide e ds _ a)
      rcases s with (s | ⟨o, s⟩) | s
      · exact .inl (.inl ((hide_ne (cell_ne (fun _ y => by cases y) e s)).trans s))
      · exact .inl (.inr ⟨o, (hide_ne (cell_ne (fun _ y => by cases y) e s)).trans s⟩)
      · exact .inr s
  | .tuple ds, _, h => by
    cases h with
    | tup s a =>
      refine .tup ?_ (dpAll_hide e ds _ a)
      rcases s with (s | ⟨o, s⟩) | s
      · exact .inl (.inl ((hide_ne (cell_ne (fun _ y => by cases y) e s)).trans s))
      · exact .inl (.inr ⟨o, (hide_ne (cell_ne (fun _ y => by cases y) e s)).trans s⟩)
      · exact .inr s
  | .dict _, _, h => by cases h
theorem dpAll_hide {K : PySem.W.Frag} {H : Hp} {c : Addr} {o : Obj} (e : H c = some (CellO c o)) : ∀ (ds : List PyData) (vs : List V), DpAll K H vs ds → DpAll K (hide H c) vs ds
  | [], _, h => by cases h; exact .nil
  | d :: ds, _, h => by
    cases h with
    | cons a b => exact .cons (dp_hide e d _ a) (dpAll_hide e ds _ b)
end
/-- back from the lambda -/
theorem same_back {H H2 : Hp} {c : Addr} {o : Obj} (e : H c = some (CellO c o)) (s : Same (hide H c) H2) : Same H (upd H2 c (CellO c o)) := fun b u q => by
  by_cases z : b = c
  · subst z
    rw [e] at q
    cases q
    exact upd_same
  · rw [upd_ne z]
    exact s _ _ ((hide_ne z).trans q)
end HG

set_option maxHeartbeats 4000000
/-! HJ: tuples as data: t + u, t[a:b], t[::-1], t[i]. -/
namespace HG
open PySem PySem.Spec PyProof.Rows L2
section
variable {prog : Program} {w : World} {A : Around} {E : Value → Shared → Prop} {s : Shared}
theorem places_rev (n : Nat) : Builtin.Slice.slicePlaces ((n : Int) - 1) (-1) (-1) = n := by
  unfold Builtin.Slice.slicePlaces
  have h1 : ¬ ((-1 : Int) > 0) := by omega
  simp only [h1, if_false]
  split
  · rename_i h
    rw [show (- (-1 : Int)) = 1 from rfl, Int.ediv_one]
    omega
  · omega
theorem adjust_rev (n : Nat) : Builtin.Slice.sliceAdjust none none (-1) (n : Int) = ((n : Int) - 1, -1) := by
  unfold Builtin.Slice.sliceAdjust
  have h1 : ((-1 : Int) < 0) := by omega
  simp only [h1, if_true]
theorem sliceApplied_rev {sl : Addr} {vl vu vs : Value} {n : Nat} {Q : Int × Int × Nat → Shared → Prop} (hs : s.heap.IsSliceOf sl vl vu vs) (pl : IsPart vl none) (pu : IsPart vu none) (ps : IsPart vs (some (-1)))
    (h : Q ((n : Int) - 1, -1, n) s) : wpAny (model prog w) A (Builtin.Slice.sliceApplied (.ref sl) (pure (n : Int))) Q E s := by
  obtain ⟨os, hos, hcs, hds⟩ := id hs
  unfold Builtin.Slice.sliceApplied Builtin.Slice.sliceFields
  refine wpAny_bind (wpAny_bind (wpAny_field hos hds (x := vl) rfl (wpAny_bind (wpAny_field hos hds (x := vu) rfl (wpAny_bind (wpAny_field hos hds (x := vs) rfl (wpAny_pure ?_)))))))
  refine wpAny_bind (HT.slicePart_ ps ?_)
  show wpAny _ _ (if ((-1 : Int) == 0) = true then _ else _) _ _ s
  rw [if_neg (by decide)]
  refine wpAny_bind (HT.slicePart_ pl (wpAny_bind (HT.slicePart_ pu (wpAny_bind (wpAny_pure ?_)))))
  show wpAny _ _ (match Builtin.Slice.sliceAdjust none none (-1) (n : Int) with | (lo, hi) => pure (lo, (-1 : Int), Builtin.Slice.slicePlaces lo hi (-1))) _ _ s
  rw [adjust_rev n]
  show wpAny _ _ (pure ((n : Int) - 1, (-1 : Int), Builtin.Slice.slicePlaces ((n : Int) - 1) (-1) (-1))) _ _ s
  rw [places_rev]
  exact wpAny_pure h
theorem pick_rev (xs : Array Value) : ((List.range xs.size).filterMap fun (m : Nat) => xs[(((xs.size : Int) - 1) + (m : Int) * (-1)).toNat]?).toArray = xs.toList.reverse.toArray := by
  congr 1
  apply List.ext_getElem?
  intro i
  have e : (List.range xs.size).filterMap (fun (m : Nat) => xs[(((xs.size : Int) - 1) + (m : Int) * (-1)).toNat]?) = (List.range xs.size).map (fun m => xs.getD (xs.size - 1 - m) .none) := by
    have : ∀ l : List Nat, (∀ m ∈ l, m < xs.size) → l.filterMap (fun (m : Nat) => xs[(((xs.size : Int) - 1) + (m : Int) * (-1)).toNat]?) = l.map (fun m => xs.getD (xs.size - 1 - m) .none) := by
      intro l
      induction l with
      | nil => intro _; rfl
      | cons m l ih =>
        intro hm
        have h1 := hm m List.mem_cons_self
        have e1 : (((xs.size : Int) - 1) + (m : Int) * (-1)).toNat = xs.size - 1 - m := by omega
        have h2 : xs.size - 1 - m < xs.size := by omega
        rw [List.filterMap_cons, e1, Array.getElem?_eq_getElem h2, List.map_cons, ih fun k hk => hm k (List.mem_cons_of_mem _ hk)]
        simp [Array.getD, h2]
    exact this _ fun m hm => List.mem_range.mp hm
  rw [e, List.getElem?_map]
  by_cases hi : i < xs.size
  · rw [List.getElem?_range hi]
    rw [List.getElem?_reverse (by simpa using hi)]
    have h2 : xs.size - 1 - i < xs.size := by omega
    simp [Array.getD, h2]
  · rw [List.getElem?_eq_none (by simp; omega), List.getElem?_eq_none (by simp; omega)]
    rfl
theorem getItem_tuple_rev {t sl : Addr} {items : Array Value} {vl vu vs : Value} {Q : Value → Shared → Prop} (ht : IsTup s.heap t items) (hs : s.heap.IsSliceOf sl vl vu vs) (pl : IsPart vl none) (pu : IsPart vu none) (ps : IsPart vs (some (-1)))
    (h : Q (.ref s.heap.objs.size) { s with heap := s.heap.push { cls := .type "tuple", data := .seq items.toList.reverse.toArray } })
    (hsz : items.size ≤ sizeLine) : wpAny (model prog w) A (getItem (.ref t) (.ref sl)) Q E s := by
  have htake : sizeOk (.seq items.toList.reverse.toArray) := by
    show items.toList.reverse.toArray.size ≤ sizeLine
    simpa using hsz
  obtain ⟨os, hos, hcs, hds⟩ := id hs
  have hTs : s.TypeIs (.ref sl) "slice" := ⟨os, hos, hcs⟩
  unfold getItem
  try with_reducible refine wpAny_holding ?_
  first | refine wpAny_bind (wpAny_pure ?_) | skip
  refine wpAny_bind (wpAny_sequenceKey ht.typeIs (by decide) ?_)
  refine wpAny_bind (wpAny_callSpecial?_slot (name := Str.ofString "__getitem__") ht.typeIs PyProof.Rows.slot_tuple_getitem
    (wpAny_call_entry PyProof.Rows.slot_tuple_getitem ht.typeIs PyProof.Rows.entry_tuple_getitem ?_ (PyProof.Rows.args_tuple_getitem _ _)))
  show wpAny _ _ (Builtin.Tuple.tupleItemsOf (.ref t) >>= _) _ _ s
  refine wpAny_bind (PyProof.Rows.tupleItemsOf_ ht ?_)
  refine wpAny_bind (wpAny_typeOf hTs ?_)
  rw [if_pos (by decide)]
  refine wpAny_bind (sliceApplied_rev hs pl pu ps ?_)
  have hno : ¬ ((((items.size : Int) - 1) == 0 && (-1 : Int) == 1 && items.size == items.size) = true) := by
    intro q
    rw [Bool.and_eq_true, Bool.and_eq_true] at q
    exact absurd q.1.2 (by decide)
  show wpAny _ _ (if (((items.size : Int) - 1) == 0 && (-1 : Int) == 1 && items.size == items.size) = true then _ else _) _ _ s
  rw [if_neg hno, pick_rev]
  first
    | exact wpAny_bind (m := Builtin.Tuple.tupleExact _) (wpAny_newObj_type (wpAny_pure ⟨_, rfl, wpAny_pure h⟩) htake)
    | exact wpAny_bind (m := Builtin.Tuple.tupleExact _) (wpAny_newObj_type (wpAny_bind (wpAny_pure (wpAny_pure ⟨_, rfl, wpAny_pure h⟩))) htake)
    | exact wpAny_bind (wpAny_bind (m := Builtin.Tuple.tupleExact _) (wpAny_newObj_type (wpAny_pure (wpAny_pure ⟨_, rfl, wpAny_pure h⟩)) htake))
    | exact wpAny_bind (wpAny_bind (m := Builtin.Tuple.tupleExact _) (wpAny_newObj_type (wpAny_pure ⟨_, rfl, wpAny_pure h⟩) htake))
end
section
variable {X : Cx} {K : PySem.W.Frag}
/-! ### data -/
theorem dpAll_drop {H : Hp} : ∀ {vs : List V} {ds : List PyData} (n : Nat), DpAll K H vs ds → DpAll K H (vs.drop n) (ds.drop n)
  | _, _, 0, h => h
  | _, _, n + 1, .nil => by rw [List.drop_nil, List.drop_nil]; exact .nil
  | _, _, n + 1, .cons _ h => dpAll_drop n h
theorem dpAll_take {H : Hp} : ∀ {vs : List V} {ds : List PyData} (n : Nat), DpAll K H vs ds → DpAll K H (vs.take n) (ds.take n)
  | _, _, 0, h => .nil
  | _, _, n + 1, .nil => by rw [List.take_nil, List.take_nil]; exact .nil
  | _, _, n + 1, .cons a h => .cons a (dpAll_take n h)
theorem dpAll_rev {H : Hp} : ∀ {vs : List V} {ds : List PyData}, DpAll K H vs ds → DpAll K H vs.reverse ds.reverse
  | _, _, .nil => .nil
  | _, _, .cons a h => by
    rw [List.reverse_cons, List.reverse_cons]
    exact dpAll_app (dpAll_rev h) (.cons a .nil)
def cutP (ds : List PyData) (lo hi : Option Int) : List PyData := (ds.drop (HT.sIx ds.length 0 lo)).take (HT.sIx ds.length ds.length hi - HT.sIx ds.length 0 lo)
theorem dpAll_cut {H : Hp} {vs : List V} {ds : List PyData} (lo hi : Option Int) (h : DpAll K H vs ds) : DpAll K H (cutV vs lo hi) (cutP ds lo hi) := by
  have e := dpAll_len h
  unfold cutV cutP
  rw [e]
  exact dpAll_take _ (dpAll_drop _ h)
theorem dp_tupN {H : Hp} {p : Addr} {vs : List V} {ds : List PyData} (hp : H p = none) (h : DpAll K H vs ds) : Dp K (upd H p (.tup vs)) (.ref p) (.tuple ds) :=
  .tup (.inl (.inl upd_same)) (dpAll_mono (fun b o e => upd_get hp e) _ _ h)
theorem dp_lstN {H : Hp} {p : Addr} {vs : List V} {ds : List PyData} (hp : H p = none) (h : DpAll K H vs ds) : Dp K (upd H p (.lst vs)) (.ref p) (.list ds) :=
  .lst (.inl (.inl upd_same)) (dpAll_mono (fun b o e => upd_get hp e) _ _ h)
theorem same_new {H : Hp} {p : Addr} {o : HO} (hp : H p = none) : Same H (upd H p o) := fun b u e => upd_get hp e
theorem pg_tupK {es : List Expr} {k : Nat} {t : TGs} {n : Nat} {pos : Pos} (hK : X.K = K) (hc : X.calm = true) (h : PGs X es t)
    (hn : (assignEach es X.env).length = n := by rfl) (hst : (assignEach es X.env).findIdx? (·.1) = none := by rfl) : PG X (.Tuple es k pos) (gTup K n t) := hK ▸ pg_tup hc h hn hst
/-- t + u -/
def rCatP (K : PySem.W.Frag) : R2 := fun x y H Q => ∃ ds es, Dp K H x (.tuple ds) ∧ Dp K H y (.tuple es) ∧ ds.length + es.length ≤ sizeLine ∧ ∀ z H', Same H H' → Dp K H' z (.tuple (ds ++ es)) → Q z H'
theorem op_catP (hK : X.K = K) : OpR X (binaryOp .Add) (rCatP K) := by
  subst hK
  intro pins s σ H x y v u Q I rx ry h
  obtain ⟨ds, es, hx, hy, hz, q⟩ := h
  cases hx with
  | @tup a xs _ sa ha =>
    cases hy with
    | @tup b ys _ sb hb =>
      have l1 := dpAll_len ha
      have l2 := dpAll_len hb
      refine op_catA pins s σ H _ _ v u Q I rx ry ⟨a, b, xs, ys, rfl, rfl, sa, sb, by omega, fun e => ?_, fun _ e => ?_, fun _ _ p hp => ?_⟩
      · subst e
        cases ha
        exact q _ _ (Same.refl _) (.tup sb hb)
      · subst e
        cases hb
        rw [List.append_nil] at q
        exact q _ _ (Same.refl _) (.tup sa ha)
      · exact q _ _ (same_new hp) (dp_tupN hp (dpAll_app ha hb))
/-- t[lo:hi] -/
def rSlP (K : PySem.W.Frag) : V → Option Int → Option Int → Hp → VK → Prop := fun x lo hi H Q => ∃ ds, Dp K H x (.tuple ds) ∧ ∀ z H', Same H H' → Dp K H' z (.tuple (cutP ds lo hi)) → Q z H'
theorem cutD_all (ds : List PyData) (lo hi : Option Int) (h : HT.sIx ds.length 0 lo = 0 ∧ HT.sIx ds.length ds.length hi = ds.length) : cutP ds lo hi = ds := by
  unfold cutP
  rw [h.1, h.2, List.drop_zero, Nat.sub_zero, List.take_length]
theorem sl_P (hK : X.K = K) : SlR X (rSlP K) := by
  subst hK
  intro pins s σ H x v vl vu lo hi sl Q I rx hs pl pu h
  obtain ⟨ds, hx, q⟩ := h
  cases hx with
  | @tup a xs _ sa ha =>
    have l1 := dpAll_len ha
    refine sl_tupA pins s σ H _ v vl vu lo hi sl Q I rx hs pl pu ⟨a, xs, rfl, sa, fun e => ?_, fun _ p hp => ?_⟩
    · rw [l1] at e
      rw [cutD_all ds lo hi e] at q
      exact q _ _ (Same.refl _) (.tup sa ha)
    · exact q _ _ (same_new hp) (dp_tupN hp (dpAll_cut lo hi ha))
/-- t[i] -/
def rIxP (K : PySem.W.Frag) : R2 := fun x y H Q => ∃ ds i d, Dp K H x (.tuple ds) ∧ y = .int (i : Nat) ∧ ds[i]? = some d ∧ ∀ z, Dp K H z d → Q z H
theorem dpAll_getD {H : Hp} : ∀ {vs : List V} {ds : List PyData}, DpAll K H vs ds → ∀ {i : Nat} {d : PyData}, ds[i]? = some d → ∃ v, vs[i]? = some v ∧ Dp K H v d
  | _, _, .nil, i, d, e => by simp at e
  | _, _, .cons a h, 0, d, e => by simp at e; subst e; exact ⟨_, rfl, a⟩
  | _, _, .cons a h, i + 1, d, e => by
    obtain ⟨v, h1, h2⟩ := dpAll_getD h (i := i) (d := d) (by simpa using e)
    exact ⟨v, by simpa using h1, h2⟩
theorem ix_P (hK : X.K = K) : IxR X (rIxP K) := by
  subst hK
  intro value slice pins s σ H x y v u Q I rx ry h hs
  obtain ⟨ds, i, d, hx, rfl, hd, q⟩ := h
  cases hx with
  | @tup a xs _ sa ha =>
    obtain ⟨z, hz, hzd⟩ := dpAll_getD ha hd
    exact ix_tup value slice pins s σ H _ _ v u Q I rx ry ⟨a, xs, i, z, rfl, rfl, sa, atI_nat hz, q z hzd⟩ hs
/-- t[::-1] -/
def tRevP (K : PySem.W.Frag) (te : TE) : TE := fun σ H Q => te σ H fun x H1 => ∃ ds, Dp K H1 x (.tuple ds) ∧ ∀ z H', Same H1 H' → Dp K H' z (.tuple ds.reverse) → Q z H'
theorem pe_revP {e : Expr} {te : TE} {k : Nat} {p1 p2 p3 pos : Pos} (he : PE X e te) : PE X (.Subscript e (.Slice none none (some (.UnaryOp .USub (.Constant (.int 1) k p1) p2)) p3) pos) (tRevP X.K te) := by
  refine ⟨fun pins s σ H Q I h => ?_⟩
  refine Subscript_ (thn (he.run pins s σ H _ I h) fun v s1 ⟨x, H1, I1, r1, q1⟩ => ?_)
  obtain ⟨ds, hx, q⟩ := q1
  cases hx with
  | @tup a xs _ sa ha =>
    cases r1
    have hst : PO X (some (.UnaryOp .USub (.Constant (.int 1) k p1) p2)) (tPart (tUn (rU fun i => .int (-i)) (tC (.int 1)))) := po_some (pe_un un_neg pe_int)
    refine wpAny_Slice (thn (po_none.run pins s1 σ H1 (fun o H2 => o = none ∧ H2 = H1) I1 ⟨rfl, rfl⟩) fun vl s2 ⟨l, H2, I2, pl, el, e2⟩ => ?_)
    subst el e2
    refine thn (po_none.run pins s2 σ H2 (fun o H3 => o = none ∧ H3 = H2) I2 ⟨rfl, rfl⟩) fun vu s3 ⟨u, H3, I3, pu, eu, e3⟩ => ?_
    subst eu e3
    refine thn (hst.run pins s3 σ H3 (fun o H4 => o = some (-1) ∧ H4 = H3) I3 ⟨1, rfl, -1, rfl, rfl, rfl⟩) fun vs s4 ⟨o, H4, I4, ps, eo, e4⟩ => ?_
    subst eo e4
    have I5 : Inv X pins σ H4 { s4 with heap := s4.heap.push { cls := .type "slice", data := .fields #[vl, vu, vs] } } := I4.kept (t' := s4.toks) fun b ob q => Heap.get?_push_of_some _ q
    obtain ⟨its, r, ht, hz⟩ := I5.tuple sa
    have hlen := r.length
    show wpAny (model X.prog X.w) X.A (subscriptTail e (.Slice none none (some (.UnaryOp .USub (.Constant (.int 1) k p1) p2)) p3) (.ref a) (.ref s4.heap.objs.size)) (EP X pins σ Q) X.xe { s4 with heap := s4.heap.push { cls := .type "slice", data := .fields #[vl, vu, vs] } }
    refine tail_any (ops := [.ref a, .ref s4.heap.objs.size]) ht.typeIs (PyProof.Rows.slot_tuple_getitem.lookup) ?_ (by with_unfolding_all rfl)
    refine getItem_tuple_rev ht (Heap.IsSliceOf.new _ vl vu vs) pl pu ps ?_ (by rw [List.size_toArray]; omega)
    refine ⟨.ref _, _, I5.laid (t' := s4.toks) (o := .tup xs.reverse) (fun b ob q => Heap.get?_push_of_some _ q) (Nat.le_refl _) ?_, rfl, q _ _ (same_new (I5.hok.fresh (Nat.le_refl _))) (dp_tupN (I5.hok.fresh (Nat.le_refl _)) (dpAll_rev ha))⟩
    exact ⟨by rw [List.length_reverse]; exact hz, _, r.reverse, IsTup.new _ _⟩
end
end HG

set_option maxHeartbeats 4000000
/-! HD: data without lists stays, whatever lists and dicts do. -/
namespace HG
open PySem PySem.Spec PyProof.Rows L2 LamX
mutual
def noL : PyData → Bool
  | .list _ => false
  | .dict _ => false
  | .tuple ds => noLAll ds
  | _ => true
def noLAll : List PyData → Bool
  | [] => true
  | d :: ds => noL d && noLAll ds
end
theorem noLAll_mem : ∀ {ds : List PyData}, noLAll ds = true ↔ ∀ d ∈ ds, noL d = true
  | [] => by simp [noLAll]
  | d :: ds => by
    simp only [noLAll, Bool.and_eq_true, List.mem_cons, forall_eq_or_imp, noLAll_mem (ds := ds)]
theorem noL_tup {ds : List PyData} : noL (.tuple ds) = true ↔ ∀ d ∈ ds, noL d = true := by
  simp only [noL]
  exact noLAll_mem
/-- what never changes stays -/
structure KT (H H' : Hp) : Prop where
  t : ∀ b xs, H b = some (.tup xs) → H' b = some (.tup xs)
  f : ∀ b o u, H b = some (.frz o u) → H' b = some (.frz o u)
section
variable {K : PySem.W.Frag} {H H1 H2 : Hp} {a : Addr}
theorem KT.refl (H : Hp) : KT H H := ⟨fun _ _ h => h, fun _ _ _ h => h⟩
theorem KT.trans (x : KT H H1) (y : KT H1 H2) : KT H H2 := ⟨fun b xs h => y.t b xs (x.t b xs h), fun b o u h => y.f b o u (x.f b o u h)⟩
theorem KT.of (s : Same H H1) : KT H H1 := ⟨fun b xs h => s _ _ h, fun b o u h => s _ _ h⟩
theorem KT.ext (s : ExtN H H1) : KT H H1 := ⟨fun b xs h => s _ _ h (fun _ z => by cases z), fun b o u h => s _ _ h (fun _ z => by cases z)⟩
theorem KT.lst {l : List V} {o : HO} (h : H a = some (.lst l)) : KT H (upd H a o) :=
  ⟨fun b xs e => by rw [upd_ne (fun z => by rw [z, h] at e; cases e)]; exact e, fun b o u e => by rw [upd_ne (fun z => by rw [z, h] at e; cases e)]; exact e⟩
theorem KT.dK {l : List (Key × V)} {o : HO} (h : H a = some (.dK l)) : KT H (upd H a o) :=
  ⟨fun b xs e => by rw [upd_ne (fun z => by rw [z, h] at e; cases e)]; exact e, fun b o u e => by rw [upd_ne (fun z => by rw [z, h] at e; cases e)]; exact e⟩
theorem KT.new {o : HO} (h : H a = none) : KT H (upd H a o) := KT.of fun b u e => upd_get h e
mutual
theorem dp_kt (k : KT H H1) : ∀ (D : PyData) (v : V), noL D = true → Dp K H v D → Dp K H1 v D
  | .none, _, _, h => by cases h; exact .non
  | .bool b, _, _, h => by cases h; exact .bl b
  | .int i, _, _, h => by cases h; exact .int i
  | .str x, _, _, h => by cases h; exact .str x
  | .list _, _, n, _ => by simp [noL] at n
  | .dict _, _, n, _ => by simp [noL] at n
  | .tuple ds, _, n, h => by
    cases h with
    | tup s a =>
      refine .tup ?_ (dpAll_kt k ds _ (by simpa only [noL] using n) a)
      rcases s with (s | ⟨o, s⟩) | s
      · exact .inl (.inl (k.t _ _ s))
      · exact .inl (.inr ⟨o, k.f _ _ _ s⟩)
      · exact .inr s
theorem dpAll_kt (k : KT H H1) : ∀ (ds : List PyData) (vs : List V), noLAll ds = true → DpAll K H vs ds → DpAll K H1 vs ds
  | [], _, _, h => by cases h; exact .nil
  | d :: ds, _, n, h => by
    simp only [noLAll, Bool.and_eq_true] at n
    cases h with
    | cons x y => exact .cons (dp_kt k d _ n.1 x) (dpAll_kt k ds _ n.2 y)
end
theorem sqT_kt {xs : List V} (k : KT H H1) (h : SqT K H a xs) : SqT K H1 a xs := by
  rcases h with (s | ⟨o, s⟩) | s
  · exact .inl (.inl (k.t _ _ s))
  · exact .inl (.inr ⟨o, k.f _ _ _ s⟩)
  · exact .inr s
/-- the frames of a function that reads and makes: all that was there stays, but for tables -/
theorem extN_same {H H1 H2 : Hp} (x : ExtN H H1) (y : Same H1 H2) : ExtN H H2 := x.trans (ExtN.of y)
end
theorem cutP_to (ds : List PyData) (i : Nat) : cutP ds none (some (i : Int)) = ds.take i := by
  unfold cutP
  have e1 : HT.sIx ds.length 0 none = 0 := rfl
  rw [e1, HT.sIx_nat, List.drop_zero, Nat.sub_zero]
  by_cases h : i ≤ ds.length
  · rw [Nat.min_eq_left h]
  · rw [Nat.min_eq_right (by omega), List.take_length, List.take_of_length_le (by omega)]
theorem cutP_from (ds : List PyData) (i : Nat) : cutP ds (some (i : Int)) none = ds.drop i := by
  unfold cutP
  have e1 : HT.sIx ds.length ds.length none = ds.length := rfl
  rw [e1, HT.sIx_nat]
  by_cases h : i ≤ ds.length
  · rw [Nat.min_eq_left h, List.take_of_length_le (by rw [List.length_drop]; omega)]
  · rw [Nat.min_eq_right (by omega), List.drop_length, List.drop_of_length_le (by omega), List.take_nil]
section
variable {X : Cx} {K : PySem.W.Frag}
/-- t[-1] -/
def rLastP (K : PySem.W.Frag) : R2 := fun x y H Q => ∃ ds d, Dp K H x (.tuple ds) ∧ y = .int (-1) ∧ ds.getLast? = some d ∧ ∀ z, Dp K H z d → Q z H
theorem ix_lastP (hK : X.K = K) : IxR X (rLastP K) := by
  subst hK
  intro value slice pins s σ H x y v u Q I rx ry h hs
  obtain ⟨ds, d, hx, rfl, hd, q⟩ := h
  cases hx with
  | @tup a xs _ sa ha =>
    have hl := dpAll_len ha
    have hne : 0 < ds.length := by
      cases ds with
      | nil => cases hd
      | cons => simp
    rw [List.getLast?_eq_getElem?] at hd
    obtain ⟨z, hz, hzd⟩ := dpAll_getD ha hd
    refine ix_tup value slice pins s σ H _ _ v u Q I rx ry ⟨a, xs, -1, z, rfl, rfl, sa, ?_, q z hzd⟩ hs
    unfold atI
    have e : ixN xs.length (-1) = some (ds.length - 1) := by
      unfold ixN
      rw [hl]
      have h1 : ¬ (0 ≤ (-1 : Int)) := by omega
      simp
      omega
    rw [e]
    exact hz
end
end HG

set_option maxHeartbeats 4000000
/-! P52G: graphs as they are drawn: their variables are below N; they are small. -/
namespace P52
open PySem HG P54
abbrev Nm (x : Str) : Prop := OkS 12 x
def OpdOk (N : Nat) : Opd → Prop
  | .w i => 0 ≤ i ∧ i < 65536
  | .v n => n < N
def optOk (N : Nat) (v : Option Nat) : Prop := ∀ n, v = some n → n < N
def RwOk (N : Nat) : Rw → Prop
  | .cw v i => v < N ∧ 0 ≤ i ∧ i < 65536
  | .cf v x => v < N ∧ Nm x
  | .cp v u => v < N ∧ u < N
  | .op v x a b => v < N ∧ Nm x ∧ OpdOk N a ∧ OpdOk N b
  | .ld v x => v < N ∧ Nm x
  | .rd v x a => v < N ∧ Nm x ∧ OpdOk N a
  | .ca v x as => optOk N v ∧ Nm x ∧ as.length ≤ 2 ∧ ∀ a ∈ as, OpdOk N a
  | .ap v f as => optOk N v ∧ f < N ∧ as.length ≤ 2 ∧ ∀ a ∈ as, OpdOk N a
  | .st x a => Nm x ∧ OpdOk N a
  | .pr a => OpdOk N a
  | .wr x a b => Nm x ∧ OpdOk N a ∧ OpdOk N b
def StpOk (N B : Nat) : Stp → Prop
  | .jp n => n < B
  | .br a n m => OpdOk N a ∧ n < B ∧ m < B
  | .rt a => ∀ o, a = some o → OpdOk N o
  | .ht i => 0 ≤ i ∧ i < 65536
structure BkOk (N B : Nat) (b : Blk) : Prop where
  rows : ∀ R ∈ b.rows, RwOk N R
  stop : StpOk N B b.stop
  len : b.rows.length ≤ 15
structure GrOk (N : Nat) (g : Gr) : Prop where
  count : g.count ≤ 3
  cN : g.count ≤ N
  small : N ≤ 10
  pos : 0 < g.blocks.length
  many : g.blocks.length ≤ 9
  blk : ∀ b ∈ g.blocks, BkOk N g.blocks.length b
theorem OpdOk.vars {N : Nat} {a : Opd} (h : OpdOk N a) : ∀ n ∈ a.vars, n < N := by
  cases a with
  | w i => intro n hn; cases hn
  | v m =>
    intro n hn
    rw [List.mem_singleton.mp hn]
    exact h
theorem RwOk.ops {N : Nat} {R : Rw} (h : RwOk N R) : ∀ a ∈ R.ops, OpdOk N a := by
  cases R <;> simp only [RwOk] at h <;> intro a ha <;> simp only [Rw.ops, List.mem_cons, List.not_mem_nil, or_false] at ha
  case cp v u => subst ha; exact h.2
  case op v x p q =>
    rcases ha with rfl | rfl
    · exact h.2.2.1
    · exact h.2.2.2
  case rd v x p => subst ha; exact h.2.2
  case ca v x as => exact h.2.2.2 a ha
  case ap v f as =>
    rcases ha with rfl | ha
    · exact h.2.1
    · exact h.2.2.2 a ha
  case st x p => subst ha; exact h.2
  case pr p => subst ha; exact h
  case wr x p q =>
    rcases ha with rfl | rfl
    · exact h.2.1
    · exact h.2.2
theorem RwOk.set {N : Nat} {R : Rw} (h : RwOk N R) : ∀ n, R.set = some n → n < N := by
  intro n hn
  cases R <;> simp only [RwOk] at h <;> simp only [Rw.set] at hn
  case cw v i => cases hn; exact h.1
  case cf v i => cases hn; exact h.1
  case cp v i => cases hn; exact h.1
  case op v x a b => cases hn; exact h.1
  case ld v x => cases hn; exact h.1
  case rd v x a => cases hn; exact h.1
  case ca v x as => exact h.1 n hn
  case ap v x as => exact h.1 n hn
  case st => cases hn
  case pr => cases hn
  case wr => cases hn
theorem RwOk.len {N : Nat} {R : Rw} (h : RwOk N R) : R.ops.length ≤ 3 := by
  cases R <;> simp only [RwOk] at h <;> simp only [Rw.ops, List.length_cons, List.length_nil] <;> omega
theorem StpOk.ops {N B : Nat} {E : Stp} (h : StpOk N B E) : ∀ a ∈ E.ops, OpdOk N a := by
  cases E with
  | jp n => intro a ha; cases ha
  | br o n m =>
    intro a ha
    rw [List.mem_singleton.mp ha]
    exact h.1
  | rt o =>
    cases o with
    | none => intro a ha; cases ha
    | some o =>
      intro a ha
      rw [List.mem_singleton.mp ha]
      exact h o rfl
  | ht i => intro a ha; cases ha
theorem StpOk.to {N B : Nat} {E : Stp} (h : StpOk N B E) : ∀ n ∈ E.to, n < B := by
  cases E with
  | jp m =>
    intro n hn
    rw [List.mem_singleton.mp hn]
    exact h
  | br o m k =>
    intro n hn
    simp only [Stp.to, List.mem_cons, List.not_mem_nil, or_false] at hn
    rcases hn with rfl | rfl
    · exact h.2.1
    · exact h.2.2
  | rt o => intro n hn; cases hn
  | ht i => intro n hn; cases hn
/-! ### small -/
theorem fnI {i : Int} (d : Nat) (h0 : 0 ≤ i) (h : i < 10 ^ 9) : Fine 0 2000 d (.int i) := by
  have e : (10 : Int) ^ 9 < 10 ^ 39 := by decide
  exact Fine.int d (by decide) (by omega) (by omega)
theorem fnN {n : Nat} (d : Nat) (h : n < 1000000) : Fine 0 2000 d (.int (n : Int)) := by
  have e : (1000000 : Int) < 10 ^ 9 := by decide
  exact fnI d (by omega) (by omega)
theorem fnS {x : Str} (d : Nat) (h : Nm x) : Fine 0 2000 d (.str x) := (Fine.str d h (by decide)).up (Nat.le_refl _) (by decide) (Nat.le_refl _)
theorem fnO {N : Nat} {a : Opd} (hN : N ≤ 10) (h : OpdOk N a) : Fine 0 4100 1 (oD a) := by
  cases a with
  | w i =>
    have : (65536 : Int) < 10 ^ 9 := by decide
    exact (fnI 1 h.1 (by have := h.2; omega)).up (Nat.le_refl _) (by decide) (Nat.le_refl _)
  | v n =>
    have hv : Nm ("var" : Str) := ⟨by decide +kernel, by decide +kernel⟩
    have h' : n < N := h
    refine (Fine.tupN (n := 2) (d := 0) (W := 2000) (ds := [.str "var", .int (n : Int)]) (fun e he => ?_) (Nat.le_refl 2)).up (Nat.le_refl _) (by decide) (Nat.le_refl _)
    simp only [List.mem_cons, List.not_mem_nil, or_false] at he
    rcases he with rfl | rfl
    · exact fnS 0 hv
    · exact fnN 0 (by omega)
theorem fnV {N : Nat} {v : Option Nat} (d : Nat) (hN : N ≤ 10) (h : optOk N v) : Fine 0 2000 d (ovD v) := by
  cases v with
  | none => exact (Fine.none 0 d).up (Nat.le_refl _) (by decide) (Nat.le_refl _)
  | some n => exact fnN d (by have := h n rfl; omega)
theorem word_nm (R : Rw) : Nm R.word := by cases R <;> exact ⟨by dsimp only [Rw.word]; decide +kernel, by dsimp only [Rw.word]; decide +kernel⟩
theorem fnAs {N : Nat} {as : List Opd} (hN : N ≤ 10) (hl : as.length ≤ 2) (h : ∀ a ∈ as, OpdOk N a) : Fine 0 8300 2 (.tuple (as.map oD)) := by
  refine (Fine.tupN (n := 2) (d := 1) (W := 4100) (fun e he => ?_) (by rw [List.length_map]; exact hl)).up (Nat.le_refl _) (by decide) (Nat.le_refl _)
  obtain ⟨a, ha, rfl⟩ := List.mem_map.mp he
  exact fnO hN (h a ha)
theorem fnR {N : Nat} {R : Rw} (hN : N ≤ 10) (h : RwOk N R) : Fine 0 42000 3 R.D := by
  have key : R.L.length ≤ 5 ∧ ∀ e ∈ R.L, Fine 0 8300 2 e := by
    have hw : Fine 0 8300 2 (.str R.word) := (fnS 2 (word_nm R)).up (Nat.le_refl _) (by decide) (Nat.le_refl _)
    have o : ∀ {a : Opd}, OpdOk N a → Fine 0 8300 2 (oD a) := fun h => (fnO hN h).up (Nat.le_refl _) (by decide) (by decide)
    have s : ∀ {x : Str}, Nm x → Fine 0 8300 2 (.str x) := fun h => (fnS 2 h).up (Nat.le_refl _) (by decide) (Nat.le_refl _)
    have n : ∀ {m : Nat}, m < N → Fine 0 8300 2 (.int (m : Int)) := fun {m} h => (fnN 2 (by omega)).up (Nat.le_refl _) (by decide) (Nat.le_refl _)
    refine ⟨by cases R <;> exact Nat.le_of_ble_eq_true rfl, fun e he => ?_⟩
    have he2 := List.mem_cons.mp he
    clear he
    rcases he2 with rfl | he
    · exact hw
    cases R <;> simp only [RwOk] at h <;> simp only [Rw.rest, List.mem_cons, List.not_mem_nil, or_false] at he
    case cw v i =>
      rcases he with rfl | rfl
      · exact n h.1
      · have : (65536 : Int) < 10 ^ 9 := by decide
        exact (fnI 2 h.2.1 (by omega)).up (Nat.le_refl _) (by decide) (Nat.le_refl _)
    case cf v x =>
      rcases he with rfl | rfl
      · exact n h.1
      · have hf : Nm ("func" : Str) := ⟨by decide +kernel, by decide +kernel⟩
        refine (Fine.tupN (n := 2) (d := 1) (W := 2000) (ds := [.str "func", .str x]) (fun e he => ?_) (Nat.le_refl 2)).up (Nat.le_refl _) (by decide) (Nat.le_refl _)
        simp only [List.mem_cons, List.not_mem_nil, or_false] at he
        rcases he with rfl | rfl
        · exact fnS 1 hf
        · exact fnS 1 h.2
    case cp v u =>
      rcases he with rfl | rfl
      · exact n h.1
      · exact n h.2
    case op v x a b =>
      rcases he with rfl | rfl | rfl | rfl
      · exact n h.1
      · exact s h.2.1
      · exact o h.2.2.1
      · exact o h.2.2.2
    case ld v x =>
      rcases he with rfl | rfl
      · exact n h.1
      · exact s h.2
    case rd v x a =>
      rcases he with rfl | rfl | rfl
      · exact n h.1
      · exact s h.2.1
      · exact o h.2.2
    case ca v x as =>
      rcases he with rfl | rfl | rfl
      · exact (fnV 2 hN h.1).up (Nat.le_refl _) (by decide) (Nat.le_refl _)
      · exact s h.2.1
      · exact fnAs hN h.2.2.1 h.2.2.2
    case ap v f as =>
      rcases he with rfl | rfl | rfl
      · exact (fnV 2 hN h.1).up (Nat.le_refl _) (by decide) (Nat.le_refl _)
      · exact n h.2.1
      · exact fnAs hN h.2.2.1 h.2.2.2
    case st x a =>
      rcases he with rfl | rfl
      · exact s h.1
      · exact o h.2
    case pr a => subst he; exact o h
    case wr x a b =>
      rcases he with rfl | rfl | rfl
      · exact s h.1
      · exact o h.2.1
      · exact o h.2.2
  exact (Fine.tupN (n := 5) (d := 2) (W := 8300) key.2 key.1).up (Nat.le_refl _) (by decide) (Nat.le_refl _)
theorem fnE {N B : Nat} {E : Stp} (hN : N ≤ 10) (hB : B ≤ 9) (h : StpOk N B E) : Fine 0 42000 3 E.D := by
  have hw : Nm E.word := by cases E <;> exact ⟨by dsimp only [Stp.word]; decide +kernel, by dsimp only [Stp.word]; decide +kernel⟩
  have o : ∀ {a : Opd}, OpdOk N a → Fine 0 8300 2 (oD a) := fun h => (fnO hN h).up (Nat.le_refl _) (by decide) (by decide)
  have n : ∀ {m : Nat}, m < B → Fine 0 8300 2 (.int (m : Int)) := fun {m} h => (fnN 2 (by omega)).up (Nat.le_refl _) (by decide) (Nat.le_refl _)
  refine (Fine.tupN (n := 5) (d := 2) (W := 8300) (fun e he => ?_) (by cases E <;> exact Nat.le_of_ble_eq_true rfl)).up (Nat.le_refl _) (by decide) (Nat.le_refl _)
  rcases List.mem_cons.mp he with rfl | he
  · exact (fnS 2 hw).up (Nat.le_refl _) (by decide) (Nat.le_refl _)
  cases E with
  | jp m =>
    simp only [Stp.rest, List.mem_cons, List.not_mem_nil, or_false] at he
    subst he
    exact n h
  | br a m k =>
    simp only [Stp.rest, List.mem_cons, List.not_mem_nil, or_false] at he
    rcases he with rfl | rfl | rfl
    · exact o h.1
    · exact n h.2.1
    · exact n h.2.2
  | rt a =>
    simp only [Stp.rest, List.mem_cons, List.not_mem_nil, or_false] at he
    subst he
    cases a with
    | none => exact (Fine.none 0 2).up (Nat.le_refl _) (by decide) (Nat.le_refl _)
    | some a => exact o (h a rfl)
  | ht i =>
    simp only [Stp.rest, List.mem_cons, List.not_mem_nil, or_false] at he
    subst he
    have : (65536 : Int) < 10 ^ 9 := by decide
    exact (fnI 2 h.1 (by have := h.2; omega)).up (Nat.le_refl _) (by decide) (Nat.le_refl _)
theorem fnB {N B : Nat} {b : Blk} (hN : N ≤ 10) (hB : B ≤ 9) (h : BkOk N B b) : Fine 0 700000 5 b.D := by
  have f1 : Fine 0 631000 4 (.tuple (b.rows.map Rw.D)) := by
    refine (Fine.tupN (n := 15) (d := 3) (W := 42000) (fun e he => ?_) (by rw [List.length_map]; exact h.len)).up (Nat.le_refl _) (by decide) (Nat.le_refl _)
    obtain ⟨R, hR, rfl⟩ := List.mem_map.mp he
    exact fnR hN (h.rows R hR)
  have f2 := fnE hN hB h.stop
  refine ⟨?_, ?_, ?_⟩
  · rw [sm_tup]
    intro d hd
    simp only [List.mem_cons, List.not_mem_nil, or_false] at hd
    rcases hd with rfl | rfl
    · exact f1.sm
    · exact f2.sm
  · have h1 := f1.wt
    have h2 := f2.wt
    simp only [Blk.D]
    rw [wt_tup]
    simp only [wtAll] at *
    omega
  · have h1 := f1.dp
    have h2 := f2.dp
    simp only [Blk.D]
    rw [dp_tup]
    simp only [PyData.depthAll] at *
    omega
theorem fnG {N : Nat} {g : Gr} (h : GrOk N g) : Fine 0 6400000 7 g.D := by
  have f1 : Fine 0 6310000 6 (.tuple (g.blocks.map Blk.D)) := by
    refine (Fine.tupN (n := 9) (d := 5) (W := 700000) (fun e he => ?_) (by rw [List.length_map]; exact h.many)).up (Nat.le_refl _) (by decide) (Nat.le_refl _)
    obtain ⟨b, hb, rfl⟩ := List.mem_map.mp he
    exact fnB h.small h.many (h.blk b hb)
  have f2 : Fine 0 2000 0 (.int (g.count : Int)) := fnN 0 (by have := h.count; omega)
  refine ⟨?_, ?_, ?_⟩
  · rw [sm_tup]
    intro d hd
    simp only [List.mem_cons, List.not_mem_nil, or_false] at hd
    rcases hd with rfl | rfl
    · exact f2.sm
    · exact f1.sm
  · have h1 := f1.wt
    have h2 := f2.wt
    simp only [Gr.D]
    rw [wt_tup]
    simp only [wtAll] at *
    omega
  · have h1 := f1.dp
    have h2 := f2.dp
    simp only [Gr.D]
    rw [dp_tup]
    simp only [PyData.depthAll] at *
    omega
end P52

set_option maxHeartbeats 4000000
/-! HI: lists made of data by comprehensions. -/
namespace HG
open PySem PySem.Spec PyProof.Rows L2
abbrev LcC (J : It) (g : TG) (tt : TT) (te : TE) (vs : List Nat) (σ : L2.St) (H1 : Hp) (D : Addr) (Qd : Hp → Prop) : Prop :=
  ∃ W : Nat → Nat → Hp → Prop, (∃ m, W 0 m (upd H1 D (.lst []))) ∧ ∀ i m H, W i m H → (J.stop i H ∧ Qd H) ∨ (J.go i H ∧ ∃ Nx : Hp → Prop, (∀ H', Nx H' → ∃ m', m' < m ∧ W (i + 1) m' H') ∧ ∀ x H', J.yld i H x H' →
    g x (wipe σ vs) H' fun σ2 H2 => wipe σ2 vs = wipe σ vs ∧ tt σ2 H2 fun b H3 => if b = true then te σ2 H3 fun y H4 => ∃ acc, H4 D = some (.lst acc) ∧ acc.length < sizeLine ∧ Nx (upd H4 D (.lst (acc ++ [y]))) else Nx H3)
theorem small_line {n : Nat} (h : n ≤ 1000000) : n < sizeLine := by rw [sizeLine_eq]; omega
theorem sqT_same {K : PySem.W.Frag} {H H' : Hp} {a : Addr} {xs : List V} (s : Same H H') (h : SqT K H a xs) : SqT K H' a xs := sqT_kt (KT.of s) h
theorem dpAll_map_get {K : PySem.W.Frag} {H : Hp} {α : Type} {f : α → PyData} {xs : List V} {as : List α} {i : Nat} {x : V} (h : DpAll K H xs (as.map f)) (hx : xs[i]? = some x) : ∃ a, as[i]? = some a ∧ Dp K H x (f a) := by
  obtain ⟨d, hd, hxd⟩ := dpAll_get h hx
  rw [List.getElem?_map] at hd
  obtain ⟨a, ha, rfl⟩ := Option.map_eq_some_iff.mp hd
  exact ⟨a, ha, hxd⟩
theorem noLAll_map {α : Type} {f : α → PyData} {as : List α} (h : ∀ a ∈ as, noL (f a) = true) : noLAll (as.map f) = true := noLAll_mem.mpr fun d hd => by
  obtain ⟨a, ha, rfl⟩ := List.mem_map.mp hd
  exact h a ha
section
variable {K : PySem.W.Frag} {H : Hp} {a D : Addr} {xs : List V} {α : Type} {as : List α} {g0 f : α → PyData} {g : TG} {tt : TT} {te : TE} {vs : List Nat} {σ : L2.St} {Qd : Hp → Prop}
/-- one more of new data -/
theorem mk_step {H3 H4 : Hp} {ys : List V} {ds : List PyData} {y : V} {d : PyData} (hD : H D = none) (hD3 : H3 D = some (.lst ys)) (hY : DpAll K H3 ys ds) (hn : noLAll ds = true) (s3 : Same H H3) (s4 : Same H3 H4) (hy : Dp K H4 y d) (hnd : noL d = true) :
    H4 D = some (.lst ys) ∧ DpAll K (upd H4 D (.lst (ys ++ [y]))) (ys ++ [y]) (ds ++ [d]) ∧ Same H (upd H4 D (.lst (ys ++ [y]))) := by
  have hD4 := s4 _ _ hD3
  refine ⟨hD4, dpAll_app (dpAll_kt ((KT.of s4).trans (KT.lst hD4)) _ _ hn hY) (.cons (dp_kt (KT.lst hD4) _ _ hnd hy) .nil), fun b o h => ?_⟩
  rw [upd_ne (ne_of_none h hD)]
  exact s4 _ _ (s3 _ _ h)
/-- [f(x) for x in tuple] -/
theorem lc_mk (sq : SqT K H a xs) (hA : DpAll K H xs (as.map g0)) (hl : as.length ≤ 1000000) (hD : H D = none) (hn : ∀ e ∈ as, noL (f e) = true)
    (hs : ∀ (x : V) (e : α) (H3 : Hp) (QQ : VK) (R : Hp → Prop), e ∈ as → Dp K H x (g0 e) → Same H H3 → (∀ y H4, Dp K H4 y (f e) → Same H3 H4 → QQ y H4) →
      g x (wipe σ vs) H3 fun σ2 H2 => wipe σ2 vs = wipe σ vs ∧ tt σ2 H2 fun b H3 => if b = true then te σ2 H3 QQ else R H3)
    (hd : ∀ H3 ys, H3 D = some (.lst ys) → DpAll K H3 ys (as.map f) → Same H H3 → Qd H3) : LcC (Itt K a) g tt te vs σ H D Qd := by
  have hlen := dpAll_len hA
  rw [List.length_map] at hlen
  refine lc_tup (xs := xs) (fun i H3 => ∃ ys, H3 D = some (.lst ys) ∧ DpAll K H3 ys ((as.take i).map f) ∧ Same H H3) ⟨[], upd_same, .nil, fun b o h => upd_get hD h⟩ ?_ ?_ ?_
  · rintro i H3 _ ⟨_, _, _, s3⟩
    exact sqT_same s3 sq
  · rintro i x H3 hx ⟨ys, hD3, hY, s3⟩
    obtain ⟨e, he, hxe⟩ := dpAll_map_get hA hx
    have hi : i < as.length := (List.getElem?_eq_some_iff.mp he).1
    refine hs x e H3 _ _ (List.mem_of_getElem? he) hxe s3 fun y H4 hy s4 => ?_
    have hyl := dpAll_len hY
    rw [List.length_map, List.length_take] at hyl
    obtain ⟨m1, m2, m3⟩ := mk_step hD hD3 hY (noLAll_map fun e he => hn e (List.mem_of_mem_take he)) s3 s4 hy (hn e (List.mem_of_getElem? he))
    refine ⟨_, m1, small_line (by omega), _, upd_same, ?_, m3⟩
    have e2 : (as.take (i + 1)).map f = (as.take i).map f ++ [f e] := by
      rw [List.take_add_one, he, List.map_append]
      rfl
    rw [e2]
    exact m2
  · rintro H3 ⟨ys, hD3, hY, s3⟩
    rw [hlen, List.take_length] at hY
    exact hd H3 ys hD3 hY s3
/-- [f(x) for x in list] -/
theorem lc_mkL (sq : SqL K H a xs) (hA : DpAll K H xs (as.map g0)) (hl : as.length ≤ 1000000) (hD : H D = none) (hn : ∀ e ∈ as, noL (f e) = true)
    (hs : ∀ (x : V) (e : α) (H3 : Hp) (QQ : VK) (R : Hp → Prop), e ∈ as → Dp K H x (g0 e) → Same H H3 → (∀ y H4, Dp K H4 y (f e) → Same H3 H4 → QQ y H4) →
      g x (wipe σ vs) H3 fun σ2 H2 => wipe σ2 vs = wipe σ vs ∧ tt σ2 H2 fun b H3 => if b = true then te σ2 H3 QQ else R H3)
    (hd : ∀ H3 ys, H3 D = some (.lst ys) → DpAll K H3 ys (as.map f) → Same H H3 → Qd H3) : LcC (Itl K a) g tt te vs σ H D Qd := by
  have hlen := dpAll_len hA
  rw [List.length_map] at hlen
  refine lc_list (xs := xs) (fun i H3 => ∃ ys, H3 D = some (.lst ys) ∧ DpAll K H3 ys ((as.take i).map f) ∧ Same H H3) ⟨[], upd_same, .nil, fun b o h => upd_get hD h⟩ ?_ ?_ ?_
  · rintro i H3 _ ⟨_, _, _, s3⟩
    exact Same.seq s3 sq
  · rintro i x H3 hx ⟨ys, hD3, hY, s3⟩
    obtain ⟨e, he, hxe⟩ := dpAll_map_get hA hx
    have hi : i < as.length := (List.getElem?_eq_some_iff.mp he).1
    refine hs x e H3 _ _ (List.mem_of_getElem? he) hxe s3 fun y H4 hy s4 => ?_
    have hyl := dpAll_len hY
    rw [List.length_map, List.length_take] at hyl
    obtain ⟨m1, m2, m3⟩ := mk_step hD hD3 hY (noLAll_map fun e he => hn e (List.mem_of_mem_take he)) s3 s4 hy (hn e (List.mem_of_getElem? he))
    refine ⟨_, m1, small_line (by omega), _, upd_same, ?_, m3⟩
    have e2 : (as.take (i + 1)).map f = (as.take i).map f ++ [f e] := by
      rw [List.take_add_one, he, List.map_append]
      rfl
    rw [e2]
    exact m2
  · rintro H3 ⟨ys, hD3, hY, s3⟩
    rw [hlen, List.take_length] at hY
    exact hd H3 ys hD3 hY s3
end
end HG

set_option maxHeartbeats 4000000
namespace K39
open PySem PySem.Spec PyProof.Rows L2 HG P52
/-! ### frames -/
theorem ext_kt {d c : Addr} {n : Nat} {H H' : Hp} (dk : Deck d c n H) (X : Ext d c H H') : KT H H' := by
  obtain ⟨ns, m, t, e1, e2, _⟩ := dk.ex
  refine ⟨fun b xs e => X.at (fun z => by rw [z, e1] at e; cases e) (fun z => by rw [z, e2] at e; cases e) e, fun b o u e => X.at (fun z => by rw [z, e1] at e; cases e) (fun z => by rw [z, e2] at e; cases e) e⟩
theorem grow {d c : Addr} {n : Nat} {H H' : Hp} (X : Ext d c H H') (D : Deck d c n H') {b : Addr} (h : H' b = none) : H b = none := by
  have nn := D.has h
  cases q : H b with
  | none => rfl
  | some o =>
    rw [X.at nn.1 nn.2 q] at h
    cases h
theorem off_same_mono {d c : Addr} {H H1 : Hp} (s : Same H H1) : Same (off d c H) (off d c H1) := fun b o h => by
  unfold off at h ⊢
  split at h
  · cases h
  · rename_i n
    rw [if_neg n]
    exact s b o h
theorem off_at {d c b : Addr} {H : Hp} {o : HO} (h : off d c H b = some o) : H b = some o ∧ b ≠ d ∧ b ≠ c := by
  unfold off at h
  split at h
  · cases h
  · rename_i n
    exact ⟨h, fun z => n (.inl z), fun z => n (.inr z)⟩
theorem seqIx {j n : Nat} (h : j < n) : seqIndex? (j : Int) n = some j := by
  unfold seqIndex?
  simp
  omega
theorem many40 {n : Nat} (h : n ≤ 1000000) : ((n : Nat) : Int) < 10 ^ 40 := by
  have : (1000000 : Int) < 10 ^ 40 := by decide
  omega
theorem erase_str : ∀ (l : List Str) (j : Nat), (l.map V.str).eraseIdx j = (l.eraseIdx j).map V.str
  | [], _ => rfl
  | _ :: _, 0 => rfl
  | x :: l, j + 1 => by
    simp only [List.map_cons, List.eraseIdx_cons_succ, erase_str l j]
theorem off_kt {d c : Addr} {n : Nat} {H : Hp} (dk : Deck d c n H) : KT H (off d c H) := by
  obtain ⟨ns, m, t, e1, e2, _⟩ := dk.ex
  refine ⟨fun b xs e => ?_, fun b o u e => ?_⟩
  · rw [off_get (fun z => by rw [z, e1] at e; cases e) (fun z => by rw [z, e2] at e; cases e)]
    exact e
  · rw [off_get (fun z => by rw [z, e1] at e; cases e) (fun z => by rw [z, e2] at e; cases e)]
    exact e
section
variable {K : PySem.W.Frag} {d c : Addr} {H H' : Hp}
theorem ext_all (X : Ext d c H H') : Same (off d c H) H' := fun b o e => off_same b o (X b o e)
theorem cutV_sub {xs : List V} {lo hi : Option Int} {y : V} (h : y ∈ cutV xs lo hi) : y ∈ xs := by
  unfold cutV at h
  exact List.mem_of_mem_drop (List.mem_of_mem_take h)
end
theorem range_get {M j : Nat} {y : V} (h : ((List.range M).map fun i => V.int ((i : Nat) : Int))[j]? = some y) : j < M ∧ y = .int ((j : Nat) : Int) := by
  rw [List.getElem?_map] at h
  obtain ⟨i, hi, rfl⟩ := Option.map_eq_some_iff.mp h
  have hj : j < M := by
    have := (List.getElem?_eq_some_iff.mp hi).1
    simpa using this
  rw [List.getElem?_range hj] at hi
  cases hi
  exact ⟨hj, rfl⟩
theorem rangeF_get {M f j : Nat} {y : V} (h : ((List.range f).map fun i => V.int ((M + i : Nat) : Int))[j]? = some y) : j < f ∧ y = .int ((M + j : Nat) : Int) := by
  rw [List.getElem?_map] at h
  obtain ⟨i, hi, rfl⟩ := Option.map_eq_some_iff.mp h
  have hj : j < f := by
    have := (List.getElem?_eq_some_iff.mp hi).1
    simpa using this
  rw [List.getElem?_range hj] at hi
  cases hi
  exact ⟨hj, rfl⟩
def ovV : Option Nat → V
  | none => .non
  | some n => .int (n : Int)
theorem dp_ov {K : PySem.W.Frag} {H : Hp} {z : V} {o : Option Nat} (h : Dp K H z (ovD o)) : z = ovV o := by
  cases o <;> (cases h; rfl)
theorem ov_dp {K : PySem.W.Frag} {H : Hp} (o : Option Nat) : Dp K H (ovV o) (ovD o) := by
  cases o
  · exact .non
  · exact .int _
theorem nlO : ∀ a : Opd, noL (oD a) = true
  | .w _ => rfl
  | .v _ => rfl
theorem nlOs (as : List Opd) : noLAll (as.map oD) = true := noLAll_map fun a _ => nlO a
theorem nlOv : ∀ o : Option Nat, noL (ovD o) = true
  | none => rfl
  | some _ => rfl
theorem nlR (R : Rw) : noL R.D = true := by
  cases R <;> simp only [Rw.D, Rw.L, Rw.word, Rw.rest, noL, noLAll, nlO, nlOs, nlOv, Bool.and_self]
theorem nlE (E : Stp) : noL E.D = true := by
  cases E with
  | rt a => cases a <;> simp only [Stp.D, Stp.L, Stp.word, Stp.rest, ooD, noL, noLAll, nlO, Bool.and_self]
  | _ => simp only [Stp.D, Stp.L, Stp.word, Stp.rest, noL, noLAll, nlO, Bool.and_self]
theorem nlRs (l : List Rw) : noLAll (l.map Rw.D) = true := noLAll_map fun a _ => nlR a
theorem nlB (b : Blk) : noL b.D = true := by
  simp only [Blk.D, noL, noLAll, nlRs, Bool.true_and, Bool.and_true]
  have := nlE b.stop
  simpa only [Stp.D, noL, Stp.L, noLAll, Bool.true_and] using this
theorem nlG (g : Gr) : noL g.D = true := by
  have : noLAll (g.blocks.map Blk.D) = true := noLAll_map fun b _ => nlB b
  simp only [Gr.D, noL, noLAll, this, Bool.and_self]
abbrev nD (n : Nat) : PyData := .int (n : Int)
abbrev nV (n : Nat) : V := .int (n : Int)
theorem len_eq {n m : Nat} : decide (V.int (n : Int) = V.int (m : Int)) = decide (n = m) := by
  by_cases h : n = m
  · subst h
    rw [decide_eq_true rfl, decide_eq_true rfl]
  · rw [decide_eq_false h]
    exact decide_eq_false fun e => by injection e with e; omega
theorem addI (k : Nat) : ((k : Nat) : Int) + 1 = ((k + 1 : Nat) : Int) := by omega
theorem none_same {H H' : Hp} (s : Same H H') {b : Addr} (h : H' b = none) : H b = none := by
  cases q : H b with
  | none => rfl
  | some o =>
    rw [s b o q] at h
    cases h

section
variable {P : Program} {w : World} {K : PySem.W.Frag} {mg : Str → Option Value} {base : Heap}
/-! ### words and operands -/
def spWord (K : PySem.W.Frag) : Sp := fun vs H Q _ => ∃ (d c : Addr) (n : Nat), vs = [.ref d] ∧ n < 2 ^ 50 ∧ Deck d c n H ∧ ∀ (i : Int) (H' : Hp), 0 ≤ i → i < 65536 → Deck d c (n + 1) H' → Ext d c H H' → Q (.int i) H'
abbrev wordsI : List Int := [0, 1, 2, 3, 5, 65535, 256, 0]
theorem wordsI_ok : ∀ i ∈ wordsI, 0 ≤ i ∧ i < 65536 := by decide
set_option pp.maxSteps 600 in
theorem c_word (T : Txt w K mg) : Cal P w K mg base "_law_word" 2 ["_law_deck_here"] (spWord K) := by
  obtain ⟨fd, F⟩ := T.d__law_word
  have C__law_draw := c_draw (P := P) (w := w) (base := base) T
  refine ⟨⟨fd, F.ok sc__law_word (fun vs H Q E h => by repeat (first | (obtain ⟨e, _⟩ := h; subst e; rfl) | (obtain ⟨_, h⟩ := h))) (fun cdv A outer s H vs Q E hr h => ?_), F.bindsN fun _ _ _ _ _ _ us hl => match us, hl with | [_], _ => rfl⟩, T.g _ (by decide), F.kp⟩
  obtain ⟨d, c, n, rfl, hn, dk, q⟩ := h
  refine ⟨_, PSs.nox (pss_one (ps_ret (pe_ix (ix_listK (K := K) rfl) (pe_lst (pa_cons pe_int (pa_cons pe_int (pa_cons pe_int (pa_cons pe_int (pa_cons pe_int (pa_cons pe_int (pa_cons pe_int (pa_cons pe_int pa_nil))))))))) (pe_cal C__law_draw (hr.mono (by omega)) (by rfl) (pa_cons (pv 0) (pa_cons pe_int pa_nil))) (fun _ _ => rfl)))), ?_⟩
  refine ⟨(by show 8 ≤ sizeLine; decide), fun p hp => ?_⟩
  have np := dk.has hp
  have ep : (upd H p (.lst (wordsI.map V.int))) p = some (.lst (wordsI.map V.int)) := upd_same
  refine ⟨.ref d, rfl, d, c, n, 8, rfl, by decide, by decide, by omega, dk.new hp, fun r H1 r0 r1 dk1 X1 => ?_⟩
  obtain ⟨j, rfl⟩ := Int.eq_ofNat_of_zero_le r0
  have hj : j < wordsI.length := by
    show j < 8
    omega
  have hg : (wordsI.map V.int)[j]? = some (.int wordsI[j]) := by rw [List.getElem?_map, List.getElem?_eq_getElem hj]; rfl
  have ok := wordsI_ok _ (List.getElem_mem hj)
  exact ⟨p, _, j, _, rfl, rfl, .inl (.inl (X1.at np.1 np.2 ep)), atI_nat hg, q _ _ ok.1 ok.2 dk1 ((Ext.new hp).trans X1)⟩
/-- the words' list -/
abbrev rgV (M : Nat) : List V := (List.range M).map fun i => V.int ((i : Nat) : Int)
def spOperand (K : PySem.W.Frag) : Sp := fun vs H Q _ => ∃ (d c wa : Addr) (n M : Nat), vs = [.ref d, .ref wa] ∧ n < 2 ^ 49 ∧ Deck d c n H ∧ off d c H wa = some (.lst (rgV M)) ∧ 0 < M ∧ M ≤ 100 ∧
  ∀ (v : V) (a : Opd) (H' : Hp), Deck d c (n + 3) H' → Ext d c H H' → Dp K H' v (oD a) → OpdOk M a → Q v H'
set_option pp.maxSteps 600 in
theorem c_operand (T : Txt w K mg) : Cal P w K mg base "_law_operand" 3 ["_law_deck_here", "_law_words"] (spOperand K) := by
  obtain ⟨fd, F⟩ := T.d__law_operand
  have C__law_word := c_word (P := P) (w := w) (base := base) T
  have C__law_draw := c_draw (P := P) (w := w) (base := base) T
  have C__law_pick := c_pick (P := P) (w := w) (base := base) T
  refine ⟨⟨fd, F.ok sc__law_operand (fun vs H Q E h => by repeat (first | (obtain ⟨e, _⟩ := h; subst e; rfl) | (obtain ⟨_, h⟩ := h))) (fun cdv A outer s H vs Q E hr h => ?_), F.bindsN fun _ _ _ _ _ _ us hl => match us, hl with | [_, _], _ => rfl⟩, T.g _ (by decide), F.kp⟩
  obtain ⟨d, c, wa, n, M, rfl, hn, dk, hw, hM, hM8, q⟩ := h
  refine ⟨_, PSs.nox (pss_one (ps_ret (pe_ifExp (pt_cmpR op_eq (pe_cal C__law_draw (hr.mono (by omega)) (by rfl) (pa_cons (pv 0) (pa_cons pe_int pa_nil))) pe_int (nomark _)) (pe_cal C__law_word (hr.mono (by omega)) (by rfl) (pa_cons (pv 0) pa_nil)) (pe_tup (pa_cons pe_str (pa_cons (pe_cal C__law_pick (hr.mono (by omega)) (by rfl) (pa_cons (pv 0) (pa_cons (pv 1) pa_nil))) pa_nil)))))), ?_⟩
  refine ⟨.ref d, rfl, d, c, n, 3, rfl, by decide, by decide, by omega, dk, fun r H1 r0 r1 dk1 X1 => ⟨rfl, _, rfl, ?_⟩⟩
  cases hb : decide (V.int r = V.int 0) with
  | true => exact iteT ⟨.ref d, rfl, d, c, n + 1, rfl, by omega, dk1, fun i H2 i0 i1 dk2 X2 => q _ (.w i) _ (dk2.up (by omega)) (X1.trans X2) (.int i) ⟨i0, i1⟩⟩
  | false =>
    refine iteF ⟨.ref d, rfl, .ref wa, rfl, d, c, n + 1, _, rfl, dk1, by omega, .inr ⟨wa, _, rfl, .inl (.inl (X1 _ _ hw)), ?_, ?_, fun j y H2 hy dk2 X2 => ⟨(by show 2 ≤ sizeLine; decide), fun p hp => ?_⟩⟩⟩
    · rw [List.length_map, List.length_range]; omega
    · rw [List.length_map, List.length_range]; omega
    obtain ⟨hj, rfl⟩ := range_get hy
    exact q _ (.v j) _ ((dk2.new hp).up (by omega)) ((X1.trans X2).trans (Ext.new hp)) (dp_tupN hp (.cons (.str _) (.cons (.int _) .nil))) hj
end
end K39

set_option maxHeartbeats 4000000
/-! HL: ints and bools alike: x + i, x - i, int(x), str(x). -/
namespace HG
open PySem PySem.Spec PyProof.Rows L2
def b2I (b : Bool) : Int := if b = true then 1 else 0
section
variable {X : Cx}
def rB (g : Int → Int → V) : R2 := fun x y H Q => ∃ b j, x = .bl b ∧ y = .int j ∧ Q (g (b2I b) j) H
theorem op_addBI : OpR X (binaryOp .Add) (rB fun i j => .int (i + j)) := by
  intro pins s σ H x y v u Q I rx ry h
  obtain ⟨b, j, rfl, rfl, q⟩ := h
  obtain rfl : v = .bool b := rx
  obtain ⟨t, rfl⟩ := ry
  exact PySem.IntBool.add_bool_int ⟨.int _, H, I.tok _, ⟨_, rfl⟩, q⟩
theorem op_subBI : OpR X (binaryOp .Sub) (rB fun i j => .int (i - j)) := by
  intro pins s σ H x y v u Q I rx ry h
  obtain ⟨b, j, rfl, rfl, q⟩ := h
  obtain rfl : v = .bool b := rx
  obtain ⟨t, rfl⟩ := ry
  exact PySem.IntBool.sub_bool_int ⟨.int _, H, I.tok _, ⟨_, rfl⟩, q⟩
theorem op_addIB : OpR X (binaryOp .Add) (fun x y H Q => (rI0 fun i j => .int (i + j)) x y H Q ∨ (rB fun i j => .int (i + j)) x y H Q) := op_add.or op_addBI
theorem op_subIB : OpR X (binaryOp .Sub) (fun x y H Q => (rI0 fun i j => .int (i - j)) x y H Q ∨ (rB fun i j => .int (i - j)) x y H Q) := op_sub.or op_subBI
def rIntIB : List V → Hp → VK → Prop := fun xs H Q => (∃ i, xs = [.int i] ∧ Q (.int i) H) ∨ ∃ b, xs = [.bl b] ∧ Q (.int (b2I b)) H
theorem call_intIB : CallR X (.type "int") rIntIB := by
  intro pins s σ H xs us Q I r h
  rcases h with ⟨i, rfl, q⟩ | ⟨b, rfl, q⟩
  · obtain ⟨u, rfl, t, rfl⟩ := vals1 r
    exact PySem.call_int_int ⟨.int _, H, I, ⟨_, rfl⟩, q⟩
  · obtain ⟨u, rfl, r1⟩ := vals1 r
    obtain rfl : u = .bool b := r1
    exact PySem.call_int_bool ⟨.int _, H, I.tok _, ⟨_, rfl⟩, q⟩
def bText (b : Bool) : Str := if b then "True" else "False"
def rStrIB : List V → Hp → VK → Prop := fun xs H Q => (∃ i, xs = [.int i] ∧ i.natAbs.log2 < 1920 ∧ Q (.str (toString i)) H) ∨ ∃ b, xs = [.bl b] ∧ Q (.str (bText b)) H
theorem call_strIB : CallR X (.type "str") rStrIB := by
  intro pins s σ H xs us Q I r h
  rcases h with h | ⟨b, rfl, q⟩
  · exact call_str_int pins s σ H xs us Q I r h
  · obtain ⟨u, rfl, r1⟩ := vals1 r
    obtain rfl : u = .bool b := r1
    exact PySem.P.str_of_bool ⟨.str _, H, I.tok _, ⟨_, rfl⟩, q⟩
end
end HG

set_option maxHeartbeats 4000000
namespace K39
open PySem PySem.Spec PyProof.Rows L2 HG P52
/-! ### names -/
def letB (c : Nat) : Bool := decide (c ∈ cp ("abcdefghijklmnopqrstuvwxyz" : Str))
def nameB : PyData → Bool
  | .str z => decide (1 ≤ z.length) && decide (z.length ≤ 8) && !decide (z = "start") && (cp z).all letB
  | _ => false
def fullB : PyData → Bool
  | .str z => match Txt.split z "." with
    | [_] => nameB (.str z)
    | [a, b] => nameB (.str a) && (nameB (.str b) || decide (b = "start"))
    | _ => false
  | _ => false
def strOf : PyData → Option Str
  | .str z => some z
  | _ => none
def strAt (zs : List Str) (i : Nat) : Str := zs.getD i ""
def adj (zs : List Str) (i : Nat) : Bool := decide ((strAt zs i).cps.toList < (strAt zs (i + 1)).cps.toList)
def ascB (zs : List Str) : Bool := (List.range (zs.length - 1)).all (adj zs)
def ntB : PyData → Bool
  | .tuple ds => ds.all fullB && ascB (ds.filterMap strOf)
  | _ => false
/-- small texts in it -/
def smB : PyData → Bool
  | .str z => decide (z.length ≤ 1000)
  | .tuple ds => decide (ds.length ≤ 1000) && ds.all fun d => match d with
    | .str z => decide (z.length ≤ 1000)
    | _ => true
  | _ => true
section
variable {P : Program} {w : World} {K : PySem.W.Frag} {mg : Str → Option Value} {base : Heap}
def spIsInt (K : PySem.W.Frag) : Sp := fun vs H Q _ => ∃ (v : V) (D : PyData), vs = [v] ∧ Dp K H v D ∧ Q (.bl (isI D && !isB D)) H
set_option pp.maxSteps 600 in
theorem c_is_integer (T : Txt w K mg) : Cal P w K mg base "is_integer" 1 ["thing"] (spIsInt K) := by
  obtain ⟨fd, F⟩ := T.d_is_integer
  refine ⟨⟨fd, F.ok sc_is_integer (fun vs H Q E h => by repeat (first | (obtain ⟨e, _⟩ := h; subst e; rfl) | (obtain ⟨_, h⟩ := h))) (fun cdv A outer s H vs Q E hr h => ?_), F.bindsN fun _ _ _ _ _ _ us hl => match us, hl with | [_], _ => rfl⟩, T.g _ (by decide), F.kp⟩
  obtain ⟨v, D, rfl, hv, q⟩ := h
  refine ⟨_, PSs.nox (pss_one (ps_ret (pe_and (pe_callB (isiK (K := K) rfl) (by rfl) T.n_isinstance (by decide +kernel) (pa_cons (pv 0) (pa_cons (pe_bltn (v := .ty "int") (u := .type "int") (by rfl) T.n_int (by decide +kernel) rfl) pa_nil))) (pe_one (pe_not (pe_callB (isiK (K := K) rfl) (by rfl) T.n_isinstance (by decide +kernel) (pa_cons (pv 0) (pa_cons (pe_bltn (v := .ty "bool") (u := .type "bool") (by rfl) T.n_bool (by decide +kernel) rfl) pa_nil)))))))), ?_⟩
  refine ⟨v, rfl, v, .ty "int", _, _, _, rfl, .ty _, dp_ty hv, kit_ty (kit_int D), _, rfl, ?_⟩
  cases e : isI D with
  | false =>
    rw [e] at q
    exact iteF q
  | true =>
    rw [e] at q
    exact iteT ⟨v, rfl, v, .ty "bool", _, _, _, rfl, .ty _, dp_ty hv, kit_ty (kit_bool D), _, rfl, q⟩
def spIsName (K : PySem.W.Frag) : Sp := fun vs H Q _ => ∃ (v : V) (D : PyData), vs = [v] ∧ Dp K H v D ∧ (∀ z, D = .str z → z.length ≤ 1000) ∧ ∀ H', Same H H' → Q (.bl (nameB D)) H'
set_option pp.maxSteps 600 in
theorem c_is_name (T : Txt w K mg) : Cal P w K mg base "is_name" 1 ["thing"] (spIsName K) := by
  obtain ⟨fd, F⟩ := T.d_is_name
  refine ⟨⟨fd, F.ok sc_is_name (fun vs H Q E h => by repeat (first | (obtain ⟨e, _⟩ := h; subst e; rfl) | (obtain ⟨_, h⟩ := h))) (fun cdv A outer s H vs Q E hr h => ?_), F.bindsN fun _ _ _ _ _ _ us hl => match us, hl with | [_], _ => rfl⟩, T.g _ (by decide), F.kp⟩
  obtain ⟨v, D, rfl, hv, hz, q⟩ := h
  refine ⟨_, PSs.nox (pss_cons (ps_if (PW.pt (pw_or (pt_not (pt_val (pe_callB (isiK (K := K) rfl) (by rfl) T.n_isinstance (by decide +kernel) (pa_cons (pv 0) (pa_cons (pe_bltn (v := .ty "str") (u := .type "str") (by rfl) T.n_str (by decide +kernel) rfl) pa_nil))))) (pw_or (pt_not (pt_chain op_le op_le pe_int (pe_callB (lenK (K := K) rfl) (by rfl) T.n_len (by decide +kernel) (pa_cons (pv 0) pa_nil)) (pe_globI T.c_LONGEST_NAME rfl))) (pw_or1 (pt_cmpR op_eq (pv 0) pe_str (nomark _)))))) (pss_one (ps_ret pe_bl)) pss_nil)
      (pss_one (ps_ret (pe_callB (cr_all rfl) (by rfl) T.n_all (by decide +kernel) (pa_cons (pe_lc (own := [("letter", 1)]) (by rfl) sc_is_name.nd (pi_str (pv 0)) (blkOk_by (own := [("letter", 1)]) (N := N_is_name) (sc := defScope s_is_name) (by decide +kernel)) (fun _ _ _ _ _ => (pg_name (i := 1) sc_is_name.nd rfl (.inl rfl))) (fun _ _ _ _ _ => pts_nil) (fun _ _ _ _ _ => (pe_cmpR op_in_sign (pv 1) (pe_globS T.c_LETTERS rfl) (by rfl)))) pa_nil))))), ?_⟩
  refine ⟨v, rfl, v, .ty "str", _, _, _, rfl, .ty _, dp_ty hv, kit_ty (kit_str D), _, rfl, ?_⟩
  have no : isS D = false → Q (.bl false) H := fun e => by
    have q1 := q H (Same.refl H)
    cases D with
    | str z => cases e
    | _ => exact q1
  cases hS : isS D with
  | false => exact iteT (no hS)
  | true =>
    obtain ⟨z, rfl⟩ : ∃ z, D = .str z := by
      cases D with
      | str z => exact ⟨z, rfl⟩
      | _ => cases hS
    cases hv
    have hl := hz z rfl
    have hs : z.length ≤ sizeLine := Nat.le_trans hl (by decide)
    refine iteF ⟨.str z, rfl, .str z, z.length, rfl, ⟨hs, rfl⟩, _, _, rfl, rfl, _, rfl, ?_⟩
    have nf : nameB (.str z) = false → Q (.bl false) H := fun e => by
      have q1 := q H (Same.refl H)
      rw [e] at q1
      exact q1
    refine ite2 (fun e1 => ⟨_, _, rfl, rfl, _, rfl, ite2 (fun e2 => nf ?_) (fun e2 => ⟨.str z, rfl, rfl, _, rfl, ite2 (fun e3 => nf ?_) (fun e3 => ?_)⟩)⟩) (fun e1 => ⟨_, rfl, iteT (nf ?_)⟩)
    · have h8 : ¬ z.length ≤ 8 := fun h => by
        rw [decide_eq_true (show (z.length : Int) ≤ 8 by omega)] at e2
        cases e2
      simp [nameB, h8]
    · have h3 : z = "start" := V.str.inj (of_decide_eq_true e3)
      simp [nameB, h3]
    · have h1 : 1 ≤ z.length := by
        have := of_decide_eq_true e1
        omega
      have h8 : z.length ≤ 8 := by
        by_cases h : z.length ≤ 8
        · exact h
        · exfalso
          apply e2
          rw [decide_eq_false (show ¬ (z.length : Int) ≤ 8 by omega)]
          rfl
      have h3 : z ≠ "start" := fun h => e3 (decide_eq_true (congrArg V.str h))
      have en : nameB (.str z) = (cp z).all letB := by simp [nameB, h1, h8, h3]
      refine ⟨.str z, rfl, z, rfl, fun D hD => ?_⟩
      refine lc_it walk_str (fun i H2 => H2 D = some (.lst ((((cp z).take i).map letB).map V.bl)) ∧ Same H H2) ⟨upd_same, fun b o h => upd_get hD h⟩ (fun _ _ _ _ => trivial) ?_ ?_
      · rintro i x H2 H3 hi ⟨hD2, s2⟩ ⟨rfl, ch, hch, rfl⟩
        refine ⟨rfl, tyes ⟨.str ⟨#[ch]⟩, rfl, ch, _, rfl, rfl, _, hD2, ?_, ?_, ?_⟩⟩
        · rw [List.length_map, List.length_map]
          exact small1000 (Nat.le_trans (List.length_take_le' _ _) (by rw [cp_len]; exact hl))
        · rw [upd_same]
          have e : (cp z)[i]? = some ch := by
            show z.cps.toList[i]? = some ch
            rw [Array.getElem?_toList]
            exact hch
          rw [List.take_add_one, e, List.map_append, List.map_append]
          rfl
        · intro b o h
          rw [upd_ne (ne_of_none h hD)]
          exact s2 _ _ h
      · rintro H2 ⟨hD2, s2⟩
        refine ⟨D, _, rfl, .inl (.inl hD2), ?_⟩
        have e : (cp z).take z.cps.size = cp z := List.take_of_length_le (by rw [cp_len]; exact Nat.le_refl _)
        rw [e]
        have q1 := q H2 s2
        rw [en] at q1
        rw [List.all_map]
        exact q1
    · have h1 : ¬ 1 ≤ z.length := fun h => e1 (decide_eq_true (by omega))
      simp [nameB, h1]
def OkF (z : Str) : Prop := z.length ≤ 1000 ∧ ∀ y ∈ Txt.split z ".", y.length ≤ 1000
theorem full_eq (z : Str) : fullB (.str z) = match Txt.split z "." with
    | [_] => nameB (.str z)
    | [a, b] => nameB (.str a) && (nameB (.str b) || decide (b = "start"))
    | _ => false := rfl
theorem itNF {b : Bool} {A B : Prop} (h : b = false) (x : B) : if b = true then A else B := by rw [h]; exact iteF x
def spFullN (K : PySem.W.Frag) : Sp := fun vs H Q _ => ∃ (v : V) (D : PyData), vs = [v] ∧ Dp K H v D ∧ (∀ z, D = .str z → OkF z) ∧ ∀ H', Same H H' → Q (.bl (fullB D)) H'
theorem str_dec (a b : Str) : decide (V.str a = V.str b) = decide (a = b) := by
  by_cases h : a = b
  · rw [decide_eq_true h, decide_eq_true (congrArg V.str h)]
  · rw [decide_eq_false h, decide_eq_false (fun e => h (V.str.inj e))]
set_option pp.maxSteps 200 in
set_option pp.maxSteps 600 in
theorem c_is_full_name (T : Txt w K mg) : Cal P w K mg base "is_full_name" 2 ["thing"] (spFullN K) := by
  obtain ⟨fd, F⟩ := T.d_is_full_name
  have C_is_name := c_is_name (P := P) (w := w) (base := base) T
  refine ⟨⟨fd, F.ok sc_is_full_name (fun vs H Q E h => by repeat (first | (obtain ⟨e, _⟩ := h; subst e; rfl) | (obtain ⟨_, h⟩ := h))) (fun cdv A outer s H vs Q E hr h => ?_), F.bindsN fun _ _ _ _ _ _ us hl => match us, hl with | [_], _ => rfl⟩, T.g _ (by decide), F.kp⟩
  obtain ⟨v, D, rfl, hv, hz, q⟩ := h
  refine ⟨_, PSs.nox (pss_cons (ps_if (pt_not (pt_val (pe_callB (isiK (K := K) rfl) (by rfl) T.n_isinstance (by decide +kernel) (pa_cons (pv 0) (pa_cons (pe_bltn (v := .ty "str") (u := .type "str") (by rfl) T.n_str (by decide +kernel) rfl) pa_nil))))) (pss_one (ps_ret pe_bl)) pss_nil)
      (pss_cons (ps_set (i := 1) sc_is_full_name.nd rfl (.inl rfl) (pe_bm PySem.F.plainAttrs_str PySem.F.slot_str_split PySem.F.type_str_split mt_split (pv 0) (pa_cons pe_str pa_nil)))
      (pss_cons (ps_if (pt_cmpR op_eq (pe_callB (lenK (K := K) rfl) (by rfl) T.n_len (by decide +kernel) (pa_cons (pv 1) pa_nil)) pe_int (nomark _)) (pss_one (ps_ret (pe_cal C_is_name (hr.mono (by omega)) (by rfl) (pa_cons (pv 0) pa_nil)))) pss_nil)
      (pss_one (ps_ret (pe_and (pe_cmpR op_eq (pe_callB (lenK (K := K) rfl) (by rfl) T.n_len (by decide +kernel) (pa_cons (pv 1) pa_nil)) pe_int (nomark _)) (pe_and (pe_cal C_is_name (hr.mono (by omega)) (by rfl) (pa_cons (pe_ix (ix_listK (K := K) rfl) (pv 1) pe_int (fun _ _ => rfl)) pa_nil)) (pe_one (pe_or (pe_cal C_is_name (hr.mono (by omega)) (by rfl) (pa_cons (pe_ix (ix_listK (K := K) rfl) (pv 1) pe_int (fun _ _ => rfl)) pa_nil)) (pe_one (pe_cmpR op_eq (pe_ix (ix_listK (K := K) rfl) (pv 1) pe_int (fun _ _ => rfl)) pe_str (nomark _)))))))))))), ?_⟩
  refine ⟨v, rfl, v, .ty "str", _, _, _, rfl, .ty _, dp_ty hv, kit_ty (kit_str D), _, rfl, ?_⟩
  have no : isS D = false → Q (.bl false) H := fun e => by
    have q1 := q H (Same.refl H)
    cases D with
    | str z => cases e
    | _ => exact q1
  cases hS : isS D with
  | false => exact iteT (no hS)
  | true =>
    obtain ⟨z, rfl⟩ : ∃ z, D = .str z := by
      cases D with
      | str z => exact ⟨z, rfl⟩
      | _ => cases hS
    cases hv
    obtain ⟨hl, hp⟩ := hz z rfl
    have hs : z.length + 2 ≤ sizeLine := Nat.le_trans (Nat.add_le_add_right hl 2) (by decide)
    have q0 := q
    have ef := full_eq z
    refine iteF ⟨.str z, rfl, rfl, z, ".", rfl, rfl, by decide +kernel, hs, fun p hp0 => ?_⟩
    generalize Txt.split z "." = ps at hp ef ⊢
    have s1 := same_new (o := .lst (ps.map V.str)) hp0
    have e1 : (upd H p (.lst (ps.map V.str))) p = some (.lst (ps.map V.str)) := upd_same
    generalize upd H p (.lst (ps.map V.str)) = H1 at s1 e1 ⊢
    have hL : LenV K (.ref p) H1 (ps.map V.str).length := .inl ⟨_, .inl (.inl e1), rfl⟩
    refine ⟨.ref p, rfl, .ref p, _, rfl, hL, rfl, _, rfl, ?_⟩
    match ps, hp, ef, e1, hL with
    | [], hp, ef, e1, hL =>
      rw [ef] at q0
      exact iteF ⟨.ref p, rfl, .ref p, _, rfl, hL, rfl, _, rfl, iteF (q0 _ s1)⟩
    | [a], hp, ef, e1, hL =>
      rw [ef] at q0
      exact iteT ⟨.str z, rfl, .str z, _, rfl, .str z, (fun y hy => by cases hy; exact hl), fun H2 s2 => q0 _ (s1.trans s2)⟩
    | [a, b], hp, ef, e1, hL =>
      rw [ef] at q0
      have q0 : ∀ H', Same H H' → Q (.bl (nameB (.str a) && (nameB (.str b) || decide (b = "start")))) H' := q0
      refine iteF ⟨.ref p, rfl, .ref p, _, rfl, hL, rfl, _, rfl, iteT ⟨.ref p, rfl, p, _, 0, .str a, rfl, rfl, .inl (.inl e1), rfl, .str a, _, rfl, .str a, (fun y hy => by cases hy; exact hp a List.mem_cons_self), fun H2 s2 => ⟨_, rfl, ?_⟩⟩⟩
      cases ha : nameB (.str a) with
      | false =>
        rw [ha] at q0
        exact iteF (q0 _ (s1.trans s2))
      | true =>
        rw [ha] at q0
        have e2 := s2 _ _ e1
        refine iteT ⟨.ref p, rfl, p, _, 1, .str b, rfl, rfl, .inl (.inl e2), rfl, .str b, _, rfl, .str b, (fun y hy => by cases hy; exact hp b (List.mem_cons_of_mem _ List.mem_cons_self)), fun H3 s3 => ⟨_, rfl, ?_⟩⟩
        cases hb : nameB (.str b) with
        | true =>
          rw [hb] at q0
          exact iteT (q0 _ (s1.trans (s2.trans s3)))
        | false =>
          rw [hb] at q0
          refine iteF ⟨.ref p, rfl, p, _, 1, .str b, rfl, rfl, .inl (.inl (s3 _ _ e2)), rfl, rfl, ?_⟩
          rw [str_dec]
          exact q0 _ (s1.trans (s2.trans s3))
    | a :: b :: c :: r, hp, ef, e1, hL =>
      rw [ef] at q0
      have h3 : ((a :: b :: c :: r).map V.str).length = r.length + 3 := by simp
      have n1 : decide (V.int (((a :: b :: c :: r).map V.str).length : Nat) = V.int 1) = false := decide_eq_false fun e => by injection e with e; omega
      have n2 : decide (V.int (((a :: b :: c :: r).map V.str).length : Nat) = V.int 2) = false := decide_eq_false fun e => by injection e with e; omega
      refine itNF n1 ⟨.ref p, rfl, .ref p, _, rfl, hL, rfl, _, rfl, itNF n2 (q0 _ s1)⟩
/-! ### tuples of names -/
def spAscQ (K : PySem.W.Frag) : Sp := fun vs H Q _ => ∃ (a : Addr) (zs : List Str), vs = [.ref a] ∧ SqT K H a (zs.map V.str) ∧ zs.length ≤ 1000 ∧ ∀ H', Same H H' → Q (.bl (ascB zs)) H'
theorem sqT_same {H H' : Hp} {a : Addr} {xs : List V} (s : Same H H') (h : SqT K H a xs) : SqT K H' a xs := by
  rcases h with (z | ⟨o, z⟩) | z
  · exact .inl (.inl (s _ _ z))
  · exact .inl (.inr ⟨o, s _ _ z⟩)
  · exact .inr z
theorem strAt_get {zs : List Str} {i : Nat} (h : i < zs.length) : (zs.map V.str)[i]? = some (.str (strAt zs i)) := by
  rw [List.getElem?_map, List.getElem?_eq_getElem h]
  unfold strAt
  rw [List.getD_eq_getElem?_getD, List.getElem?_eq_getElem h]
  rfl
set_option pp.maxSteps 200 in
set_option pp.maxSteps 600 in
theorem c_is_ascending_questions (T : Txt w K mg) : Cal P w K mg base "is_ascending_questions" 1 ["items"] (spAscQ K) := by
  obtain ⟨fd, F⟩ := T.d_is_ascending_questions
  refine ⟨⟨fd, F.ok sc_is_ascending_questions (fun vs H Q E h => by repeat (first | (obtain ⟨e, _⟩ := h; subst e; rfl) | (obtain ⟨_, h⟩ := h))) (fun cdv A outer s H vs Q E hr h => ?_), F.bindsN fun _ _ _ _ _ _ us hl => match us, hl with | [_], _ => rfl⟩, T.g _ (by decide), F.kp⟩
  obtain ⟨a, zs, rfl, sq, hlen, q⟩ := h
  refine ⟨_, PSs.nox (pss_one (ps_ret (pe_callB (cr_all rfl) (by rfl) T.n_all (by decide +kernel) (pa_cons (pe_lc (own := [("k", 1)]) (by rfl) sc_is_ascending_questions.nd (pi_range1 (by rfl) T.n_range (pa_cons (pe_op op_sub (pe_callB (lenK (K := K) rfl) (by rfl) T.n_len (by decide +kernel) (pa_cons (pv 0) pa_nil)) pe_int) pa_nil)) (blkOk_by (own := [("k", 1)]) (N := N_is_ascending_questions) (sc := defScope s_is_ascending_questions) (by decide +kernel)) (fun _ _ _ _ _ => (pg_name (i := 1) sc_is_ascending_questions.nd rfl (.inl rfl))) (fun _ _ _ _ _ => pts_nil) (fun _ _ _ _ _ => (pe_cmpR op_lt_str (pe_ix (ix_tupK (K := K) rfl) (pv 0) (pv 1) (fun _ _ => rfl)) (pe_ix (ix_tupK (K := K) rfl) (pv 0) (pe_op op_add (pv 1) pe_int) (fun _ _ => rfl)) (nomark _)))) pa_nil)))), ?_⟩
  refine ⟨.ref a, rfl, .ref a, _, rfl, .inr ⟨_, sq, rfl⟩, _, _, rfl, rfl, ?_⟩
  have hl : (zs.map V.str).length = zs.length := List.length_map _
  refine ⟨_, rfl, by omega, by omega, fun D hD => ?_⟩
  have en : (((zs.map V.str).length : Int) - 1).toNat = zs.length - 1 := by omega
  refine lc_range (lo := 0) (n := (((zs.map V.str).length : Int) - 1).toNat) (fun i H3 => H3 D = some (.lst (((List.range i).map (adj zs)).map V.bl)) ∧ Same H H3) ⟨upd_same, fun b o h => upd_get hD h⟩ ?_ ?_
  · rintro i H3 hi ⟨hD3, s3⟩
    have hi1 : i < zs.length := by omega
    have hi2 : i + 1 < zs.length := by omega
    have sq3 := sqT_same s3 sq
    have e0 : (0 : Int) + (i : Int) = ((i : Nat) : Int) := by omega
    refine ⟨rfl, tyes ⟨.ref a, rfl, .int (0 + (i : Int)), rfl, a, _, 0 + (i : Int), _, rfl, rfl, sq3, (by rw [e0]; exact atI_nat (strAt_get hi1)), .ref a, rfl, .int (0 + (i : Int)), rfl, _, _, rfl, rfl, a, _, 0 + (i : Int) + 1, _, rfl, rfl, sq3, (by rw [show (0 : Int) + (i : Int) + 1 = ((i + 1 : Nat) : Int) by omega]; exact atI_nat (strAt_get hi2)), _, _, rfl, rfl, ?_⟩⟩
    refine ⟨_, hD3, Nat.lt_of_le_of_lt (show (((List.range i).map (adj zs)).map V.bl).length ≤ 1000 by rw [List.length_map, List.length_map, List.length_range]; omega) (by decide), ?_, fun b o h => ?_⟩
    · rw [upd_same, List.range_succ, List.map_append, List.map_append]
      rfl
    · rw [upd_ne (ne_of_none h hD)]
      exact s3 _ _ h
  · rintro H3 ⟨hD3, s3⟩
    refine ⟨D, _, rfl, .inl (.inl hD3), ?_⟩
    have q1 := q H3 s3
    unfold ascB at q1
    rw [en, List.all_map]
    exact q1
def spNT (K : PySem.W.Frag) : Sp := fun vs H Q _ => ∃ (v : V) (D : PyData), vs = [v] ∧ Dp K H v D ∧ (∀ ds, D = .tuple ds → ds.length ≤ 1000 ∧ ∀ z, PyData.str z ∈ ds → OkF z) ∧ ∀ H', Same H H' → Q (.bl (ntB D)) H'
theorem all_strs {K : PySem.W.Frag} {H : Hp} : ∀ {vs : List V} {ds : List PyData}, DpAll K H vs ds → ds.all fullB = true → vs = (ds.filterMap strOf).map V.str ∧ (ds.filterMap strOf).length ≤ ds.length
  | _, _, .nil, _ => ⟨rfl, Nat.le_refl _⟩
  | _, _, .cons (d := d) (ds := ds) h r, e => by
    rw [List.all_cons, Bool.and_eq_true] at e
    obtain ⟨h1, h2⟩ := all_strs r e.2
    cases d with
    | str z =>
      cases h
      exact ⟨by rw [h1]; rfl, Nat.succ_le_succ h2⟩
    | _ => cases e.1
set_option pp.maxSteps 200 in
set_option pp.maxSteps 600 in
theorem c_is_name_tuple (T : Txt w K mg) : Cal P w K mg base "is_name_tuple" 3 ["thing"] (spNT K) := by
  obtain ⟨fd, F⟩ := T.d_is_name_tuple
  have C_is_ascending_questions := c_is_ascending_questions (P := P) (w := w) (base := base) T
  have C_is_full_name := c_is_full_name (P := P) (w := w) (base := base) T
  refine ⟨⟨fd, F.ok sc_is_name_tuple (fun vs H Q E h => by repeat (first | (obtain ⟨e, _⟩ := h; subst e; rfl) | (obtain ⟨_, h⟩ := h))) (fun cdv A outer s H vs Q E hr h => ?_), F.bindsN fun _ _ _ _ _ _ us hl => match us, hl with | [_], _ => rfl⟩, T.g _ (by decide), F.kp⟩
  obtain ⟨v, D, rfl, hv, hz, q⟩ := h
  refine ⟨_, PSs.nox (pss_one (ps_ret (pe_and (pe_callB (isiK (K := K) rfl) (by rfl) T.n_isinstance (by decide +kernel) (pa_cons (pv 0) (pa_cons (pe_bltn (v := .ty "tuple") (u := .type "tuple") (by rfl) T.n_tuple (by decide +kernel) rfl) pa_nil))) (pe_and (pe_callB (cr_all rfl) (by rfl) T.n_all (by decide +kernel) (pa_cons (pe_lc (own := [("one", 1)]) (by rfl) sc_is_name_tuple.nd (pi_tup (pv 0)) (blkOk_by (own := [("one", 1)]) (N := N_is_name_tuple) (sc := defScope s_is_name_tuple) (by decide +kernel)) (fun _ _ _ _ _ => (pg_name (i := 1) sc_is_name_tuple.nd rfl (.inl rfl))) (fun _ _ _ _ _ => pts_nil) (fun _ _ _ _ _ => (pe_cal C_is_full_name (hr.mono (by omega)) (by rfl) (pa_cons (pv 1) pa_nil)))) pa_nil)) (pe_one (pe_cal C_is_ascending_questions (hr.mono (by omega)) (by rfl) (pa_cons (pv 0) pa_nil))))))), ?_⟩
  refine ⟨v, rfl, v, .ty "tuple", _, _, _, rfl, .ty _, dp_ty hv, kit_ty (kit_tuple D), _, rfl, ?_⟩
  have q0 := q
  have q := q H (Same.refl _)
  cases hv with
  | non => exact iteF q
  | bl _ => exact iteF q
  | int _ => exact iteF q
  | str _ => exact iteF q
  | lst _ _ => exact iteF q
  | @tup a vs ds sq ha =>
    obtain ⟨hl, hf⟩ := hz ds rfl
    have hvl := dpAll_len ha
    refine iteT ?_
    refine ⟨.ref a, rfl, a, rfl, ⟨vs, sq⟩, fun D hD => ?_⟩
    refine lc_tup (xs := vs) (fun i H3 => H3 D = some (.lst (((ds.take i).map fullB).map V.bl)) ∧ Same H H3) ⟨upd_same, fun b o h => upd_get hD h⟩ ?_ ?_ ?_
    · rintro i H3 _ ⟨_, s3⟩
      exact sqT_same s3 sq
    · rintro i x H3 hx ⟨hD3, s3⟩
      obtain ⟨e, he, hxe⟩ := dpAll_get ha hx
      have hi : i < vs.length := (List.getElem?_eq_some_iff.mp hx).1
      refine ⟨rfl, tyes ⟨x, rfl, x, e, rfl, dp_mono s3 _ _ hxe, (fun z hz => hf z (by rw [← hz]; exact List.mem_of_getElem? he)), fun H4 s4 => ?_⟩⟩
      refine ⟨_, s4 _ _ hD3, Nat.lt_of_le_of_lt (show (((ds.take i).map fullB).map V.bl).length ≤ 1000 by rw [List.length_map, List.length_map, List.length_take]; omega) (by decide), ?_, fun b o h => ?_⟩
      · rw [upd_same, List.take_add_one, he, List.map_append, List.map_append]
        rfl
      · rw [upd_ne (ne_of_none h hD)]
        exact s4 _ _ (s3 _ _ h)
    · rintro H3 ⟨hD3, s3⟩
      rw [List.take_of_length_le (by omega)] at hD3
      refine ⟨D, _, rfl, .inl (.inl hD3), _, rfl, ?_⟩
      rw [List.all_map]
      show if (ds.all fullB) = true then _ else _
      cases hb : ds.all fullB with
      | false =>
        have q1 := q0 _ s3
        rw [show ntB (.tuple ds) = (ds.all fullB && ascB (ds.filterMap strOf)) from rfl, hb] at q1
        exact iteF q1
      | true =>
        obtain ⟨ev, hle⟩ := all_strs ha hb
        rw [ev] at sq
        refine iteT ⟨.ref a, rfl, a, _, rfl, sqT_same s3 sq, by omega, fun H4 s4 => ?_⟩
        have q1 := q0 _ (s3.trans s4)
        rw [show ntB (.tuple ds) = (ds.all fullB && ascB (ds.filterMap strOf)) from rfl, hb] at q1
        exact q1
/-! ### answers -/
abbrev qT (n : Nat) : List V := [.str "targets", .int (n : Int)]
abbrev kT (n : Nat) : List Key := [Sum.inr "targets", Sum.inl (n : Int)]
def AnsOk (D : PyData) : Prop := ∀ ds, D = .tuple ds → ds.length ≤ 1000 ∧ ∀ z, PyData.str z ∈ ds → OkF z
def spFits (K : PySem.W.Frag) : Sp := fun vs H Q _ => ∃ (qa : Addr) (n : Nat) (v : V) (D : PyData), vs = [.ref qa, v] ∧ H qa = some (.tup (qT n)) ∧ Dp K H v D ∧ AnsOk D ∧ ∀ H', Same H H' → Q (.bl (ntB D)) H'
set_option pp.maxSteps 200 in
set_option pp.maxSteps 600 in
theorem c_answer_fits (T : Txt w K mg) : Cal P w K mg base "answer_fits" 4 ["question", "answer"] (spFits K) := by
  obtain ⟨fd, F⟩ := T.d_answer_fits
  have C_is_name_tuple := c_is_name_tuple (P := P) (w := w) (base := base) T
  have C_is_name := c_is_name (P := P) (w := w) (base := base) T
  have C_is_integer := c_is_integer (P := P) (w := w) (base := base) T
  refine ⟨⟨fd, F.ok sc_answer_fits (fun vs H Q E h => by repeat (first | (obtain ⟨e, _⟩ := h; subst e; rfl) | (obtain ⟨_, h⟩ := h))) (fun cdv A outer s H vs Q E hr h => ?_), F.bindsN fun _ _ _ _ _ _ us hl => match us, hl with | [_, _], _ => rfl⟩, T.g _ (by decide), F.kp⟩
  obtain ⟨qa, n, v, D, rfl, hq, hv, ho, q⟩ := h
  refine ⟨_, PSs.nox (pss_cons (ps_set (i := 2) sc_answer_fits.nd rfl (.inl rfl) (pe_ix (ix_P (K := K) rfl) (pv 0) pe_int (fun _ _ => rfl)))
      (pss_cons (ps_if (pt_cmpR (op_in_seqK (K := K) rfl) (pv 2) (pe_glob (v := .ref _) (by rfl) (T.g "YES_OR_NO" (by decide)) rfl) (by rfl)) (pss_one (ps_ret (pe_callB (isiK (K := K) rfl) (by rfl) T.n_isinstance (by decide +kernel) (pa_cons (pv 1) (pa_cons (pe_bltn (v := .ty "bool") (u := .type "bool") (by rfl) T.n_bool (by decide +kernel) rfl) pa_nil))))) pss_nil)
      (pss_cons (ps_if (pt_cmpR (op_in_seqK (K := K) rfl) (pv 2) (pe_glob (v := .ref _) (by rfl) (T.g "NAME_TUPLES" (by decide)) rfl) (by rfl)) (pss_one (ps_ret (pe_cal C_is_name_tuple (hr.mono (by omega)) (by rfl) (pa_cons (pv 1) pa_nil)))) pss_nil)
      pss_never))), ?_⟩
  refine ⟨.ref qa, rfl, _, 0, _, (.tup (.inl (.inl hq)) (.cons (.str _) (.cons (.int _) .nil)) : Dp K H (.ref qa) (.tuple [.str "targets", .int (n : Int)])), rfl, rfl, fun z hz => ?_⟩
  cases hz
  refine ⟨_, rfl, _, _, rfl, .inr (T.u_YES_OR_NO _), rfl, rfl, _, rfl, iteF ⟨_, rfl, _, _, rfl, .inr (T.u_NAME_TUPLES _), rfl, rfl, _, rfl, iteT ⟨v, rfl, v, D, rfl, hv, ho, q⟩⟩⟩
def spKnown (K : PySem.W.Frag) : Sp := fun vs H Q _ => ∃ (f qa : Addr) (kvs : List (List Key × V)) (n : Nat), vs = [.ref f, .ref qa] ∧ H f = some (.dT kvs) ∧ H qa = some (.tup (qT n)) ∧
  (valV kvs (kT n) = none → Q (.int (-1)) H) ∧ (∀ v, valV kvs (kT n) = some v → ∃ D, Dp K H v D ∧ AnsOk D ∧ ∀ H', Same H H' → Q (if ntB D = true then v else .int (-1)) H')
set_option pp.maxSteps 200 in
set_option pp.maxSteps 600 in
theorem c_known_answer (T : Txt w K mg) : Cal P w K mg base "known_answer" 5 ["facts", "question"] (spKnown K) := by
  obtain ⟨fd, F⟩ := T.d_known_answer
  have C_answer_fits := c_answer_fits (P := P) (w := w) (base := base) T
  refine ⟨⟨fd, F.ok sc_known_answer (fun vs H Q E h => by repeat (first | (obtain ⟨e, _⟩ := h; subst e; rfl) | (obtain ⟨_, h⟩ := h))) (fun cdv A outer s H vs Q E hr h => ?_), F.bindsN fun _ _ _ _ _ _ us hl => match us, hl with | [_, _], _ => rfl⟩, T.g _ (by decide), F.kp⟩
  obtain ⟨f, qa, kvs, n, rfl, hf, hq, q1, q2⟩ := h
  have hu := hu_of hr
  refine ⟨_, PSs.nox (pss_cons (ps_if (pt_cmp (pc_dnotin hu (pv 1) (pv 0))) (pss_one (ps_ret (pe_globI T.c_UNKNOWN rfl))) pss_nil)
      (pss_cons (ps_set (i := 2) sc_known_answer.nd rfl (.inl rfl) (pe_dget hu (pv 0) (pv 1) (fun _ _ => rfl)))
      (pss_one (ps_ret (pe_ifExp (pt_val (pe_cal C_answer_fits (hr.mono (by omega)) (by rfl) (pa_cons (pv 1) (pa_cons (pv 2) pa_nil)))) (pv 2) (pe_globI T.c_UNKNOWN rfl)))))), ?_⟩
  have hg : DGet H f (.ref qa) (valV kvs (kT n)) := DGet.t hf hq
  refine ⟨.ref qa, rfl, .ref f, rfl, f, _, rfl, hg, ?_⟩
  cases hv : valV kvs (kT n) with
  | none => exact ⟨_, rfl, iteT (q1 hv)⟩
  | some v =>
    rw [hv] at hg
    obtain ⟨D, hD, hok, q⟩ := q2 v hv
    refine ⟨_, rfl, iteF ⟨.ref f, rfl, .ref qa, rfl, f, v, rfl, hg, .ref qa, rfl, v, rfl, qa, n, v, D, rfl, hq, hD, hok, fun H1 s1 => ⟨_, rfl, ?_⟩⟩⟩
    have q := q H1 s1
    cases hb : ntB D with
    | true =>
      rw [hb] at q
      exact iteT ⟨v, rfl, q⟩
    | false =>
      rw [hb] at q
      exact iteF q
end
end K39

set_option maxHeartbeats 4000000
/-! HKg: D.get(k), D a written dict that has the key. -/
namespace HG
open PySem PySem.Spec PyProof.Rows L2
def tKGet (a : Addr) (kvs : List (Str × V)) (td ty : TE) : TE := fun σ H Q => td σ H fun x H1 => x = .ref a ∧ ty σ H1 fun y H2 => ∃ (z : Str) (v : V), y = .str z ∧ tabGet kvs z = some v ∧ Q v H2
section
variable {X : Cx} {o e : Expr} {apos cpos : Pos} {td ty : TE} {a : Addr} {kvs : List (Str × V)}
theorem pe_kget1 (T : KTab X.K X.w a kvs) (ho : PE X o td) (he : PE X e ty) (m : M1 X o "get" apos e cpos) : PE X (.Call (.Attribute o "get" apos) [e] [] cpos) (tKGet a kvs td ty) := by
  refine ⟨fun pins s σ H Q I h => ?_⟩
  obtain ⟨es, n, D⟩ := T.dict
  refine wpAny_Call_method m.base m.few m.line PySem.F.plainAttrs_dict PySem.F.slot_dict_get PySem.F.type_dict_get (thn (ho.run pins s σ H _ I h) fun u s1 ⟨x, H1, I1, rx, ex, q1⟩ => ?_)
  subst ex
  obtain rfl : u = Value.ref a := rx
  have M1 := PySem.W.mapOf_K (prog := X.prog) (w := X.w) I1.kIn D.at_ D.lit
  refine ⟨M1.typeIs, M1.noDict, ?_⟩
  rw [m.trees]
  refine Calls.callWith_builtin rfl (Calls.evalArgs_plain (Calls.spliced_cons (thn (he.run pins s1 σ H1 _ I1 q1) fun iv s2 ⟨y, H2, I2, ry, z, v, ey, hg, q2⟩ => Calls.spliced_nil ?_)))
  subst ey
  obtain ⟨t, rfl⟩ := (show ∃ t, iv = Value.str z t from ry)
  have M2 := PySem.W.mapOf_K (prog := X.prog) (w := X.w) I2.kIn D.at_ D.lit
  rcases ktab_get T z with ⟨v0, u0, e1, e2, e3⟩ | ⟨e1, e2⟩
  · rw [hg] at e1
    cases e1
    refine call_meetsIn PySem.F.slot_dict_get M2.typeIs PySem.F.entry_dict_get (PySem.F.args_dict_get_2 _ _) (meets_dict_get (strKind X.prog X.w) a (PySem.strKind_is X.prog X.w z t) D.low) ⟨_, M2, ?_⟩
    rw [PySem.W.find_K D.at_ e2]
    exact ⟨v, H2, I2.tok _, e3, q2⟩
  · rw [hg] at e1
    cases e1
end
end HG

set_option maxHeartbeats 4000000
namespace K39
open PySem PySem.Spec PyProof.Rows L2 HG P52
theorem cr_sumK {X : Cx} {K : PySem.W.Frag} (h : X.K = K) (hc : X.calm = true) : CallR X (.builtin "sum") (rSum K) := h ▸ cr_sum hc
def numB (n : Nat) : PyData → Bool
  | .int i => decide (0 ≤ i) && decide (i < (n : Int))
  | _ => false
def rwB : PyData → Bool
  | .tuple ds => decide (ds.length = 3)
  | _ => false
def gSize (bs : List Blk) : Nat := (bs.map fun b => b.rows.length + 1).sum
section
variable {P : Program} {w : World} {K : PySem.W.Frag} {mg : Str → Option Value} {base : Heap}
def spBelow (K : PySem.W.Frag) : Sp := fun vs H Q _ => ∃ (v : V) (D : PyData) (n : Nat), vs = [v, .int (n : Int)] ∧ Dp K H v D ∧ Q (.bl (numB n D)) H
set_option pp.maxSteps 200 in
set_option pp.maxSteps 600 in
theorem c_is_number_below (T : Txt w K mg) : Cal P w K mg base "is_number_below" 2 ["thing", "count"] (spBelow K) := by
  obtain ⟨fd, F⟩ := T.d_is_number_below
  have C_is_integer := c_is_integer (P := P) (w := w) (base := base) T
  refine ⟨⟨fd, F.ok sc_is_number_below (fun vs H Q E h => by repeat (first | (obtain ⟨e, _⟩ := h; subst e; rfl) | (obtain ⟨_, h⟩ := h))) (fun cdv A outer s H vs Q E hr h => ?_), F.bindsN fun _ _ _ _ _ _ us hl => match us, hl with | [_, _], _ => rfl⟩, T.g _ (by decide), F.kp⟩
  obtain ⟨v, D, n, rfl, hv, q⟩ := h
  refine ⟨_, PSs.nox (pss_one (ps_ret (pe_and (pe_cal C_is_integer (hr.mono (by omega)) (by rfl) (pa_cons (pv 0) pa_nil)) (pe_one (pe_chain op_le op_lt pe_int (pv 0) (pv 1)))))), ?_⟩
  refine ⟨v, rfl, v, D, rfl, hv, _, rfl, ?_⟩
  cases hv with
  | int i =>
    refine iteT ⟨.int i, rfl, _, _, rfl, rfl, _, rfl, ?_⟩
    by_cases h0 : 0 ≤ i
    · rw [decide_eq_true h0]
      refine iteT ⟨.int (n : Int), rfl, _, _, rfl, rfl, ?_⟩
      have e : numB n (.int i) = decide (i < (n : Int)) := by simp [numB, h0]
      show Q (.bl (decide (i < (n : Int)))) H
      rw [← e]
      exact q
    · rw [decide_eq_false h0]
      have e : numB n (.int i) = false := by simp [numB, h0]
      rw [e] at q
      exact iteF q
  | non => exact iteF q
  | bl b => exact iteF q
  | str z => exact iteF q
  | lst _ _ => exact iteF q
  | tup _ _ => exact iteF q
def spSize (K : PySem.W.Frag) : Sp := fun vs H Q _ => ∃ (v : V) (g : Gr), vs = [v] ∧ Dp K H v g.D ∧ g.blocks.length ≤ 1000 ∧ ∀ H', Same H H' → Q (.int (gSize g.blocks : Int)) H'
theorem size_sum (bs : List Blk) : (bs.map fun b => ((b.rows.length : Nat) : Int) + 1).sum = (gSize bs : Int) := by
  induction bs with
  | nil => rfl
  | cons b r ih =>
    unfold gSize at ih ⊢
    rw [List.map_cons, List.map_cons, List.sum_cons, List.sum_cons, ih]
    omega
set_option pp.maxSteps 200 in
set_option pp.maxSteps 600 in
theorem c_size_of (T : Txt w K mg) : Cal P w K mg base "size_of" 1 ["graph"] (spSize K) := by
  obtain ⟨fd, F⟩ := T.d_size_of
  refine ⟨⟨fd, F.ok sc_size_of (fun vs H Q E h => by repeat (first | (obtain ⟨e, _⟩ := h; subst e; rfl) | (obtain ⟨_, h⟩ := h))) (fun cdv A outer s H vs Q E hr h => ?_), F.bindsN fun _ _ _ _ _ _ us hl => match us, hl with | [_], _ => rfl⟩, T.g _ (by decide), F.kp⟩
  obtain ⟨v, g, rfl, hv, hl, q⟩ := h
  refine ⟨_, PSs.nox (pss_one (ps_ret (pe_callB (cr_sumK rfl rfl) (by rfl) T.n_sum (by decide +kernel) (pa_cons (pe_lc (own := [("instructions", 1), ("terminator", 2)]) (by rfl) sc_size_of.nd (pi_tup (pe_ix (ix_P (K := K) rfl) (pv 0) pe_int (fun _ _ => rfl))) (blkOk_by (own := [("instructions", 1), ("terminator", 2)]) (N := N_size_of) (sc := defScope s_size_of) (by decide +kernel)) (fun _ _ _ _ _ => (pg_tupK (K := K) (n := 2) rfl rfl (pgs_cons (pg_name (i := 1) sc_size_of.nd rfl (.inl rfl)) (pgs_cons (pg_name (i := 2) sc_size_of.nd rfl (.inl rfl)) pgs_nil)))) (fun _ _ _ _ _ => pts_nil) (fun _ _ _ _ _ => (pe_op op_add (pe_callB (lenK (K := K) rfl) (by rfl) T.n_len (by decide +kernel) (pa_cons (pv 1) pa_nil)) pe_int))) pa_nil)))), ?_⟩
  refine ⟨v, rfl, _, 1, _, hv, rfl, rfl, fun zb hzb => ?_⟩
  cases hzb with
  | @tup ab xb _ sqb hab =>
    have hlb := dpAll_len hab
    rw [List.length_map] at hlb
    refine ⟨ab, rfl, ⟨_, sqb⟩, fun D hD => ?_⟩
    refine lc_tup (xs := xb) (fun i H3 => H3 D = some (.lst (((g.blocks.take i).map fun b => ((b.rows.length : Nat) : Int) + 1).map V.int)) ∧ Same H H3) ⟨upd_same, same_new hD⟩ ?_ ?_ ?_
    · rintro i H3 _ ⟨_, s3⟩
      exact sqT_same s3 sqb
    · rintro i x H3 hx ⟨h3, s3⟩
      obtain ⟨b, hb, hxb⟩ := dpAll_map_get hab hx
      have hi : i < xb.length := (List.getElem?_eq_some_iff.mp hx).1
      have hxb := dp_mono s3 _ _ hxb
      cases hxb with
      | @tup a2 x2 _ sq2 ha2 =>
        cases ha2 with
        | cons y0 r0 =>
          cases r0 with
          | cons y1 r1 =>
            cases r1
            cases y0 with
            | @tup a3 x3 _ sq3 ha3 =>
              have hl3 := dpAll_len ha3
              rw [List.length_map] at hl3
              refine ⟨a2, _, rfl, sq2, rfl, _, _, rfl, _, _, rfl, rfl, rfl, tyes ⟨.ref a3, rfl, .ref a3, x3.length, rfl, .inr ⟨x3, sq3, rfl⟩, _, _, rfl, rfl, _, h3, Nat.lt_of_le_of_lt (show (((g.blocks.take i).map fun b => ((b.rows.length : Nat) : Int) + 1).map V.int).length ≤ 1000 by rw [List.length_map, List.length_map, List.length_take]; omega) (by decide), ?_, fun b o h => ?_⟩⟩
              · rw [upd_same, List.take_add_one, hb, List.map_append, List.map_append, hl3]
                rfl
              · rw [upd_ne (ne_of_none h hD)]
                exact s3 _ _ h
    · rintro H3 ⟨h3, s3⟩
      rw [List.take_of_length_le (by omega)] at h3
      refine ⟨D, _, rfl, .inl (.inl h3), ?_⟩
      rw [size_sum]
      exact q _ s3
def spIsRw (K : PySem.W.Frag) : Sp := fun vs H Q _ => ∃ (v : V) (D : PyData), vs = [v] ∧ Dp K H v D ∧ SeqAt.shaped D = true ∧ ((∃ r, D = .tuple (.str "devirtualize" :: r)) ∨ ∃ ds, D = .list ds) ∧ ∀ H', Same H H' → Q (.bl (rwB D)) H'
set_option pp.maxSteps 200 in
set_option pp.maxSteps 600 in
theorem c_is_rewrite (T : Txt w K mg) : Cal P w K mg base "is_rewrite" 1 ["thing"] (spIsRw K) := by
  obtain ⟨fd, F⟩ := T.d_is_rewrite
  refine ⟨⟨fd, F.ok sc_is_rewrite (fun vs H Q E h => by repeat (first | (obtain ⟨e, _⟩ := h; subst e; rfl) | (obtain ⟨_, h⟩ := h))) (fun cdv A outer s H vs Q E hr h => ?_), F.bindsN fun _ _ _ _ _ _ us hl => match us, hl with | [_], _ => rfl⟩, T.g _ (by decide), F.kp⟩
  obtain ⟨v, D, rfl, hv, hs, hD, q⟩ := h
  refine ⟨_, PSs.nox (pss_cons (ps_if (PW.pt (pw_or (pt_not (pt_val (pe_callB (isiK (K := K) rfl) (by rfl) T.n_isinstance (by decide +kernel) (pa_cons (pv 0) (pa_cons (pe_bltn (v := .ty "tuple") (u := .type "tuple") (by rfl) T.n_tuple (by decide +kernel) rfl) pa_nil))))) (pw_or (pt_cmpR (op_eqDK (K := K) rfl hr.units) (pv 0) (pe_tup pa_nil) (nomark _)) (pw_or1 (pt_not (pt_val (pe_callB (isiK (K := K) rfl) (by rfl) T.n_isinstance (by decide +kernel) (pa_cons (pe_ix (ix_P (K := K) rfl) (pv 0) pe_int (fun _ _ => rfl)) (pa_cons (pe_bltn (v := .ty "str") (u := .type "str") (by rfl) T.n_str (by decide +kernel) rfl) pa_nil))))))))) (pss_one (ps_ret pe_bl)) pss_nil)
      (pss_one (ps_ret (pe_cmpR op_eq (pe_kget1 T.t_PARTS (pe_glob (v := .ref _) (by rfl) (T.g "PARTS" (by decide)) rfl) (pe_ix (ix_P (K := K) rfl) (pv 0) pe_int (fun _ _ => rfl)) ⟨rfl, rfl, rfl, rfl⟩) (pe_callB (lenK (K := K) rfl) (by rfl) T.n_len (by decide +kernel) (pa_cons (pv 0) pa_nil)) (nomark _))))), ?_⟩
  refine ⟨v, rfl, v, .ty "tuple", _, _, _, rfl, .ty _, dp_ty hv, kit_ty (kit_tuple D), _, rfl, ?_⟩
  rcases hD with ⟨r, rfl⟩ | ⟨ds, rfl⟩
  · cases hv with
    | @tup a vs _ sq ha =>
    have hvl := dpAll_len ha
    refine iteF ⟨.ref a, rfl, Nat.zero_le _, fun p hp => ?_⟩
    have s1 := same_new (o := .tup []) hp
    have g1 : Dp K (upd H p (.tup [])) (.ref p) (.tuple []) := dp_tupN hp .nil
    have hv1 : Dp K (upd H p (.tup [])) (.ref a) (.tuple (.str "devirtualize" :: r)) := dp_mono s1 _ _ (.tup sq ha)
    have sq1 := sqT_same s1 sq
    generalize upd H p (.tup []) = H1 at s1 g1 hv1 sq1 ⊢
    refine ⟨.tuple (.str "devirtualize" :: r), .tuple [], hv1, g1, hs, by decide, _, rfl, iteF ⟨.ref a, rfl, _, 0, _, hv1, rfl, rfl, fun z hz => ?_⟩⟩
    cases hz
    refine ⟨_, .ty "str", _, _, _, rfl, .ty _, dp_ty (.str _ : Dp K H1 _ (.str "devirtualize")), kit_ty (kit_str (.str "devirtualize")), _, rfl, iteF ?_⟩
    refine ⟨rfl, .ref a, rfl, _, 0, _, hv1, rfl, rfl, fun z hz => ?_⟩
    cases hz
    refine ⟨_, .int 3, rfl, by decide, .ref a, rfl, .ref a, vs.length, rfl, .inr ⟨vs, sq1, rfl⟩, rfl, ?_⟩
    have e : decide (V.int 3 = V.int (vs.length : Int)) = rwB (.tuple (.str "devirtualize" :: r)) := by
      rw [hvl]
      show _ = decide ((PyData.str "devirtualize" :: r).length = 3)
      by_cases h : (PyData.str "devirtualize" :: r).length = 3
      · rw [decide_eq_true h, h]
        rfl
      · rw [decide_eq_false h]
        exact decide_eq_false fun e => by injection e with e; omega
    show Q (.bl (decide (V.int 3 = V.int (vs.length : Int)))) H1
    rw [e]
    exact q _ s1
  · exact iteT (q H (Same.refl _))
end
end K39

set_option maxHeartbeats 40000000
namespace K39
open PySem PySem.Spec PyProof.Rows L2 HG P52
def Ap1 : Rw → Prop
  | .ap _ _ as => as.length = 1
  | _ => True
/-- where things are while a row is drawn: the deck, the words, the variables for functions, two operands, the rows so far -/
structure RS (K : PySem.W.Frag) (d c wa fa : Addr) (M : Nat) (H0 : Hp) (v1 v2 : V) (a1 a2 : Opd) (us : List V) (Rs : List Rw) (n : Nat) (H : Hp) : Prop where
  dk : Deck d c n H
  X : Ext d c H0 H
  hw : off d c H wa = some (.lst (rgV M))
  hf : off d c H fa = some (.lst [nV M, nV (M + 1)])
  g1 : Dp K H v1 (oD a1)
  g2 : Dp K H v2 (oD a2)
  ll : DpAll K H us (Rs.map Rw.D)
  ok : ∀ R ∈ Rs, RwOk (M + 2) R ∧ Ap1 R
section
variable {K : PySem.W.Frag} {d c wa fa : Addr} {M n m : Nat} {H0 H H' : Hp} {v1 v2 : V} {a1 a2 : Opd} {us : List V} {Rs : List Rw}
theorem RS.step (S : RS K d c wa fa M H0 v1 v2 a1 a2 us Rs n H) (dk : Deck d c m H') (X : Ext d c H H') : RS K d c wa fa M H0 v1 v2 a1 a2 us Rs m H' :=
  ⟨dk, S.X.trans X, X _ _ S.hw, X _ _ S.hf, dp_kt (ext_kt S.dk X) _ _ (nlO a1) S.g1, dp_kt (ext_kt S.dk X) _ _ (nlO a2) S.g2, dpAll_kt (ext_kt S.dk X) _ _ (nlRs Rs) S.ll, S.ok⟩
theorem RS.same (S : RS K d c wa fa M H0 v1 v2 a1 a2 us Rs n H) (s : Same H H') : RS K d c wa fa M H0 v1 v2 a1 a2 us Rs n H' := S.step (S.dk.same s) (off_same_mono s)
theorem RS.row (S : RS K d c wa fa M H0 v1 v2 a1 a2 us Rs n H) {p : Addr} {ps : List V} (hp : H p = none) (R : Rw) (hd : DpAll K H ps R.L) (hR : RwOk (M + 2) R) (h1 : Ap1 R) : RS K d c wa fa M H0 v1 v2 a1 a2 (us ++ [.ref p]) (Rs ++ [R]) n (L2.upd H p (.tup ps)) := by
  have S' := S.same (same_new (o := .tup ps) hp)
  refine ⟨S'.dk, S'.X, S'.hw, S'.hf, S'.g1, S'.g2, ?_, fun Z hZ => ?_⟩
  · rw [List.map_append]
    exact dpAll_app S'.ll (.cons (dp_tupN hp hd) .nil)
  · rcases List.mem_append.mp hZ with h | h
    · exact S.ok Z h
    · rw [List.mem_singleton.mp h]
      exact ⟨hR, h1⟩
theorem RS.words (S : RS K d c wa fa M H0 v1 v2 a1 a2 us Rs n H) : SqL K (off d c H) wa (rgV M) := .inl (.inl S.hw)
theorem RS.funcs (S : RS K d c wa fa M H0 v1 v2 a1 a2 us Rs n H) : SqL K (off d c H) fa [nV M, nV (M + 1)] := .inl (.inl S.hf)
end
theorem st_eq {t : TS} {D : Ends} {σ σ' : L2.St} {H : Hp} (e : σ = σ') (h : t D σ' H) : t D σ H := e ▸ h
theorem nm_t : Nm ("t" : Str) := ⟨by decide +kernel, by decide +kernel⟩
theorem nm_p : Nm ("p" : Str) := ⟨by decide +kernel, by decide +kernel⟩
theorem nm_same : Nm ("same" : Str) := ⟨by decide +kernel, by decide +kernel⟩
theorem funcs_get {M j : Nat} {y : V} (h : [nV M, nV (M + 1)][j]? = some y) : ∃ f, f < M + 2 ∧ y = nV f := by
  match j, h with
  | 0, h => exact ⟨M, by omega, (Option.some.inj h).symm⟩
  | 1, h => exact ⟨M + 1, by omega, (Option.some.inj h).symm⟩
theorem opd_up {M N : Nat} {a : Opd} (h : OpdOk M a) (hN : M ≤ N) : OpdOk N a := by
  cases a with
  | w i => exact h
  | v n => exact Nat.lt_of_lt_of_le h hN
def callD (p : Str × Nat) : PyData := .tuple [.str p.1, .int (p.2 : Int)]
abbrev calls4 : List (Str × Nat) := [("f", 0), ("g", 1), ("h", 1), ("m.h", 2)]
theorem calls4_ok : ∀ p ∈ calls4, Nm p.1 ∧ p.2 ≤ 2 := by
  intro p hp
  simp only [List.mem_cons, List.not_mem_nil, or_false] at hp
  rcases hp with rfl | rfl | rfl | rfl <;> exact ⟨⟨by decide +kernel, by decide +kernel⟩, by decide⟩
abbrev ops8 : List Str := ["add", "sub", "mul", "div", "rem", "less", "same", "xor"]
theorem ops8_nm : ∀ z ∈ ops8, Nm z := by
  intro z hz
  simp only [List.mem_cons, List.not_mem_nil, or_false] at hz
  rcases hz with rfl | rfl | rfl | rfl | rfl | rfl | rfl | rfl <;> exact ⟨by decide +kernel, by decide +kernel⟩
theorem xy_nm {j ch : Nat} (h : (cp "xy")[j]? = some ch) : Nm ⟨#[ch]⟩ := by
  have : cp "xy" = [120, 121] := by decide +kernel
  rw [this] at h
  match j, h with
  | 0, h => cases h; exact ⟨by decide +kernel, by decide +kernel⟩
  | 1, h => cases h; exact ⟨by decide +kernel, by decide +kernel⟩
theorem gh_nm {j ch : Nat} (h : (cp "gh")[j]? = some ch) : Nm ⟨#[ch]⟩ := by
  have : cp "gh" = [103, 104] := by decide +kernel
  rw [this] at h
  match j, h with
  | 0, h => cases h; exact ⟨by decide +kernel, by decide +kernel⟩
  | 1, h => cases h; exact ⟨by decide +kernel, by decide +kernel⟩
theorem len_xy : ("xy" : Str).length = 2 := by decide +kernel
theorem len_gh : ("gh" : Str).length = 2 := by decide +kernel
theorem vnv {N v j : Nat} (hv : v < N) (h : j < 2) : ∃ o : Option Nat, [nV v, .non][j]? = some (ovV o) ∧ optOk N o := by
  match j, h with
  | 0, _ => exact ⟨some v, rfl, fun n e => by cases e; exact hv⟩
  | 1, _ => exact ⟨none, rfl, fun n e => by cases e⟩
def spRow (K : PySem.W.Frag) : Sp := fun vs H Q _ => ∃ (d c wa fa : Addr) (n cnt M : Nat), vs = [.ref d, .ref wa, .int (cnt : Int), .ref fa] ∧ n < 2 ^ 48 ∧ Deck d c n H ∧ off d c H wa = some (.lst (rgV M)) ∧ off d c H fa = some (.lst [nV M, nV (M + 1)]) ∧ cnt < M ∧ M ≤ 100 ∧
  ∀ (v : V) (R : Rw) (H' : Hp), Deck d c (n + 20) H' → Ext d c H H' → Dp K H' v R.D → RwOk (M + 2) R → Ap1 R → Q v H'
section
variable {P : Program} {w : World} {K : PySem.W.Frag} {mg : Str → Option Value} {base : Heap}
set_option pp.maxSteps 600 in
set_option pp.maxSteps 600 in
theorem c_row (T : Txt w K mg) : Cal P w K mg base "_law_row" 4 ["_law_deck_here", "_law_words", "_law_count", "_law_funcs"] (spRow K) := by
  obtain ⟨fd, F⟩ := T.d__law_row
  have C__law_pick := c_pick (P := P) (w := w) (base := base) T
  have C__law_operand := c_operand (P := P) (w := w) (base := base) T
  have C__law_draw := c_draw (P := P) (w := w) (base := base) T
  have C__law_word := c_word (P := P) (w := w) (base := base) T
  refine ⟨⟨fd, F.ok sc__law_row (fun vs H Q E h => by repeat (first | (obtain ⟨e, _⟩ := h; subst e; rfl) | (obtain ⟨_, h⟩ := h))) (fun cdv A outer s H vs Q E hr h => ?_), F.bindsN fun _ _ _ _ _ _ us hl => match us, hl with | [_, _, _, _], _ => rfl⟩, T.g _ (by decide), F.kp⟩
  obtain ⟨d, c, wa, fa, n, cnt, M, rfl, hn, dk, hw, hfa, hlt, hM, q⟩ := h
  refine ⟨_, PSs.nox (pss_cons (ps_par3 (i := 4) (j := 5) (l := 6) rfl sc__law_row.nd rfl rfl rfl (by decide) (by decide) (by decide) rfl rfl rfl (pa_cons (pe_cal C__law_pick (hr.mono (by omega)) (by rfl) (pa_cons (pv 0) (pa_cons (pe_slice (sl_listK (K := K) rfl) (pv 1) (po_some (pv 2)) po_none) pa_nil))) (pa_cons (pe_cal C__law_operand (hr.mono (by omega)) (by rfl) (pa_cons (pv 0) (pa_cons (pv 1) pa_nil))) (pa_cons (pe_cal C__law_operand (hr.mono (by omega)) (by rfl) (pa_cons (pv 0) (pa_cons (pv 1) pa_nil))) pa_nil))) (by rfl))
      (pss_cons (ps_asg (pe_cal C__law_pick (hr.mono (by omega)) (by rfl) (pa_cons (pv 0) (pa_cons (pe_lst (pa_cons (pe_tup (pa_cons pe_str (pa_cons pe_int pa_nil))) (pa_cons (pe_tup (pa_cons pe_str (pa_cons pe_int pa_nil))) (pa_cons (pe_tup (pa_cons pe_str (pa_cons pe_int pa_nil))) (pa_cons (pe_tup (pa_cons pe_str (pa_cons pe_int pa_nil))) pa_nil))))) pa_nil))) (pg_tupK (K := K) (n := 2) rfl rfl (pgs_cons (pg_name (i := 7) sc__law_row.nd rfl (.inl rfl)) (pgs_cons (pg_name (i := 8) sc__law_row.nd rfl (.inl rfl)) pgs_nil))))
      (pss_cons (ps_par (i := 9) (j := 10) rfl sc__law_row.nd rfl rfl (by decide) rfl rfl (pa_cons (pe_cal C__law_pick (hr.mono (by omega)) (by rfl) (pa_cons (pv 0) (pa_cons (pe_lst (pa_cons pe_str (pa_cons pe_str (pa_cons pe_str (pa_cons pe_str (pa_cons pe_str (pa_cons pe_str (pa_cons pe_str (pa_cons pe_str pa_nil))))))))) pa_nil))) (pa_cons (pe_ix ix_str pe_str (pe_cal C__law_draw (hr.mono (by omega)) (by rfl) (pa_cons (pv 0) (pa_cons pe_int pa_nil))) (fun _ _ => rfl)) pa_nil)) (by rfl))
      (pss_cons (ps_par3 (i := 11) (j := 12) (l := 13) rfl sc__law_row.nd rfl rfl rfl (by decide) (by decide) (by decide) rfl rfl rfl (pa_cons (pe_cal C__law_pick (hr.mono (by omega)) (by rfl) (pa_cons (pv 0) (pa_cons (pv 3) pa_nil))) (pa_cons (pe_cal C__law_pick (hr.mono (by omega)) (by rfl) (pa_cons (pv 0) (pa_cons (pv 3) pa_nil))) (pa_cons (pe_ix (ix_listK (K := K) rfl) (pe_lst (pa_cons (pv 4) (pa_cons pe_non pa_nil))) (pe_cal C__law_draw (hr.mono (by omega)) (by rfl) (pa_cons (pv 0) (pa_cons pe_int pa_nil))) (fun _ _ => rfl)) pa_nil))) (by rfl))
      (pss_cons (ps_set (i := 14) sc__law_row.nd rfl (.inl rfl) (pe_lst (pa_cons (pe_tup (pa_cons pe_str (pa_cons (pv 4) (pa_cons (pe_cal C__law_word (hr.mono (by omega)) (by rfl) (pa_cons (pv 0) pa_nil)) pa_nil)))) (pa_cons (pe_tup (pa_cons pe_str (pa_cons (pv 4) (pa_cons (pe_cal C__law_pick (hr.mono (by omega)) (by rfl) (pa_cons (pv 0) (pa_cons (pv 1) pa_nil))) pa_nil)))) (pa_cons (pe_tup (pa_cons pe_str (pa_cons (pv 4) (pa_cons (pv 9) (pa_cons (pv 5) (pa_cons (pv 6) pa_nil)))))) pa_nil)))))
      (pss_cons (ps_set (i := 14) sc__law_row.nd rfl (.inl rfl) (pe_op op_cat (pv 14) (pe_lst (pa_cons (pe_tup (pa_cons pe_str (pa_cons (pv 4) (pa_cons (pv 10) pa_nil)))) (pa_cons (pe_tup (pa_cons pe_str (pa_cons (pv 4) (pa_cons pe_str (pa_cons (pv 5) pa_nil))))) (pa_cons (pe_tup (pa_cons pe_str (pa_cons (pv 13) (pa_cons (pv 7) (pa_cons (pe_slice (sl_P (K := K) rfl) (pe_tup (pa_cons (pv 5) (pa_cons (pv 6) pa_nil))) po_none (po_some (pv 8))) pa_nil))))) pa_nil))))))
      (pss_cons (ps_set (i := 14) sc__law_row.nd rfl (.inl rfl) (pe_op op_cat (pv 14) (pe_lst (pa_cons (pe_tup (pa_cons pe_str (pa_cons (pv 13) (pa_cons (pv 11) (pa_cons (pe_tup (pa_cons (pv 5) pa_nil)) pa_nil))))) (pa_cons (pe_tup (pa_cons pe_str (pa_cons (pv 10) (pa_cons (pv 5) pa_nil)))) (pa_cons (pe_tup (pa_cons pe_str (pa_cons (pv 11) (pa_cons (pe_tup (pa_cons pe_str (pa_cons (pe_ix ix_str pe_str (pe_op op_mod (pv 8) pe_int) (fun _ _ => rfl)) pa_nil))) pa_nil)))) pa_nil))))))
      (pss_cons (ps_set (i := 14) sc__law_row.nd rfl (.inl rfl) (pe_op op_cat (pv 14) (pe_lst (pa_cons (pe_tup (pa_cons pe_str (pa_cons (pv 11) (pa_cons (pv 12) pa_nil)))) (pa_cons (pe_tup (pa_cons pe_str (pa_cons (pv 11) (pa_cons pe_str pa_nil)))) (pa_cons (pe_tup (pa_cons pe_str (pa_cons pe_str (pa_cons (pe_tup (pa_cons pe_str (pa_cons (pv 11) pa_nil))) pa_nil)))) (pa_cons (pe_tup (pa_cons pe_str (pa_cons pe_str (pa_cons (pv 5) (pa_cons (pv 6) pa_nil))))) pa_nil)))))))
      (pss_one (ps_ret (pe_cal C__law_pick (hr.mono (by omega)) (by rfl) (pa_cons (pv 0) (pa_cons (pe_op op_cat (pv 14) (pe_lst (pa_cons (pe_tup (pa_cons pe_str (pa_cons (pv 5) pa_nil))) (pa_cons (pe_tup (pa_cons pe_str (pa_cons (pv 4) (pa_cons pe_str (pa_cons (pe_tup (pa_cons pe_str (pa_cons (pv 11) pa_nil))) (pa_cons (pe_tup (pa_cons pe_str (pa_cons (pv 12) pa_nil))) pa_nil)))))) pa_nil)))) pa_nil))))))))))))), ?_⟩
  -- v, one, two
  refine ⟨.ref d, rfl, .ref wa, rfl, .int (cnt : Int), rfl, _, rfl, wa, _, rfl, offL (.inl (.inl hw)), fun p1 hp1 => ?_⟩
  have hcl : (cutV (rgV M) (some (cnt : Int)) none).length = M - cnt := by
    unfold cutV
    rw [HT.sIx_nat, show HT.sIx (rgV M).length (rgV M).length none = (rgV M).length from rfl, List.length_take, List.length_drop, List.length_map, List.length_range]
    omega
  have n1 := dk.has hp1
  have s1 := same_new (o := .lst (cutV (rgV M) (some (cnt : Int)) none)) hp1
  have e1 : (upd H p1 (.lst (cutV (rgV M) (some (cnt : Int)) none))) p1 = some (.lst (cutV (rgV M) (some (cnt : Int)) none)) := upd_same
  have X1 : Ext d c H (upd H p1 (.lst (cutV (rgV M) (some (cnt : Int)) none))) := off_same_mono s1
  have dk1 := dk.same s1
  generalize upd H p1 (.lst (cutV (rgV M) (some (cnt : Int)) none)) = H1 at s1 e1 X1 dk1 ⊢
  refine ⟨d, c, _, _, rfl, dk1, by omega, .inr ⟨p1, _, rfl, .inl (.inl (by rw [off_get n1.1 n1.2]; exact e1)), by omega, by omega, fun j2 y2 H2 hy2 dk2 X2 => ?_⟩⟩
  obtain ⟨i2, hi2⟩ := List.getElem?_of_mem (cutV_sub (List.mem_of_getElem? hy2))
  obtain ⟨hv, rfl⟩ := range_get hi2
  generalize i2 = v at hv
  have X2 := X1.trans X2
  refine ⟨.ref d, rfl, .ref wa, rfl, d, c, wa, _, M, rfl, by omega, dk2, X2 _ _ hw, by omega, by omega, fun v1 a1 H3 dk3 X3 g1 o1 => ?_⟩
  have X3' := X2.trans X3
  refine ⟨.ref d, rfl, .ref wa, rfl, d, c, wa, _, M, rfl, by omega, dk3, X3' _ _ hw, by omega, by omega, fun v2 a2 H4 dk4 X4 g2 o2 => ?_⟩
  have S4 : RS K d c wa fa M H v1 v2 a1 a2 [] [] _ H4 := ⟨dk4, X3'.trans X4, (X3'.trans X4) _ _ hw, (X3'.trans X4) _ _ hfa, dp_kt (ext_kt dk3 X4) _ _ (nlO a1) g1, g2, .nil, fun _ h => nomatch h⟩
  have u1 := opd_up o1 (show M ≤ M + 2 by omega)
  have u2 := opd_up o2 (show M ≤ M + 2 by omega)
  have hvN : v < M + 2 := by omega
  refine ⟨_, _, _, rfl, ?_⟩
  -- callee, n
  refine st_eq (σ' := [some (.ref d), some (.ref wa), some (.int (cnt : Int)), some (.ref fa), some (.int (v : Int)), some v1, some v2, none, none, none, none, none, none, none, none]) rfl ?_
  refine ⟨.ref d, rfl, (by show 2 ≤ sizeLine; decide), fun c0 hc0 => ?_⟩
  have s5 := same_new (o := .tup [.str "f", .int 0]) hc0
  have S5 := S4.same s5
  have g_c0 : Dp K (upd H4 c0 (.tup [.str "f", .int 0])) (.ref c0) (callD ("f", 0)) := dp_tupN hc0 (.cons (.str _) (.cons (.int _) .nil))
  generalize upd H4 c0 (.tup [.str "f", .int 0]) = H5 at s5 S5 g_c0 ⊢
  refine ⟨(by show 2 ≤ sizeLine; decide), fun c1 hc1 => ?_⟩
  have s6 := same_new (o := .tup [.str "g", .int 1]) hc1
  have S6 := S5.same s6
  have g_c1 : Dp K (upd H5 c1 (.tup [.str "g", .int 1])) (.ref c1) (callD ("g", 1)) := dp_tupN hc1 (.cons (.str _) (.cons (.int _) .nil))
  have g_c0 := dp_mono s6 _ _ g_c0
  generalize upd H5 c1 (.tup [.str "g", .int 1]) = H6 at s6 S6 g_c1 g_c0 ⊢
  refine ⟨(by show 2 ≤ sizeLine; decide), fun c2 hc2 => ?_⟩
  have s7 := same_new (o := .tup [.str "h", .int 1]) hc2
  have S7 := S6.same s7
  have g_c2 : Dp K (upd H6 c2 (.tup [.str "h", .int 1])) (.ref c2) (callD ("h", 1)) := dp_tupN hc2 (.cons (.str _) (.cons (.int _) .nil))
  have g_c0 := dp_mono s7 _ _ g_c0
  have g_c1 := dp_mono s7 _ _ g_c1
  generalize upd H6 c2 (.tup [.str "h", .int 1]) = H7 at s7 S7 g_c2 g_c0 g_c1 ⊢
  refine ⟨(by show 2 ≤ sizeLine; decide), fun c3 hc3 => ?_⟩
  have s8 := same_new (o := .tup [.str "m.h", .int 2]) hc3
  have S8 := S7.same s8
  have g_c3 : Dp K (upd H7 c3 (.tup [.str "m.h", .int 2])) (.ref c3) (callD ("m.h", 2)) := dp_tupN hc3 (.cons (.str _) (.cons (.int _) .nil))
  have g_c0 := dp_mono s8 _ _ g_c0
  have g_c1 := dp_mono s8 _ _ g_c1
  have g_c2 := dp_mono s8 _ _ g_c2
  generalize upd H7 c3 (.tup [.str "m.h", .int 2]) = H8 at s8 S8 g_c3 g_c0 g_c1 g_c2 ⊢
  refine ⟨(by show 4 ≤ sizeLine; decide), fun lc hlc => ?_⟩
  have n_lc := S8.dk.has hlc
  have s9 := same_new (o := .lst [.ref c0, .ref c1, .ref c2, .ref c3]) hlc
  have S9 := S8.same s9
  have e_lc : (upd H8 lc (.lst [.ref c0, .ref c1, .ref c2, .ref c3])) lc = some (.lst [.ref c0, .ref c1, .ref c2, .ref c3]) := upd_same
  have g_c0 := dp_mono s9 _ _ g_c0
  have g_c1 := dp_mono s9 _ _ g_c1
  have g_c2 := dp_mono s9 _ _ g_c2
  have g_c3 := dp_mono s9 _ _ g_c3
  generalize upd H8 lc (.lst [.ref c0, .ref c1, .ref c2, .ref c3]) = H9 at s9 S9 e_lc g_c0 g_c1 g_c2 g_c3 ⊢
  have CA : DpAll K H9 [.ref c0, .ref c1, .ref c2, .ref c3] (calls4.map callD) := .cons g_c0 (.cons g_c1 (.cons g_c2 (.cons g_c3 .nil)))
  refine ⟨d, c, _, _, rfl, S9.dk, by omega, .inr ⟨lc, [.ref c0, .ref c1, .ref c2, .ref c3], rfl, .inl (.inl (by rw [off_get n_lc.1 n_lc.2]; exact e_lc)), Nat.zero_lt_succ _, (by show 4 ≤ 1000; decide), fun jc yc H10 hyc dk10 X10 => ?_⟩⟩
  obtain ⟨pC, hpC, gC⟩ := dpAll_map_get CA hyc
  have hpC := calls4_ok pC (List.mem_of_getElem? hpC)
  have gC := dp_kt (ext_kt S9.dk X10) _ _ rfl gC
  have S10 := S9.step dk10 X10
  cases gC with
  | @tup ac xc _ sqc hac =>
  cases hac with
  | cons x0 r0 =>
  cases r0 with
  | cons x1 r1 =>
  cases r1
  cases x0
  cases x1
  refine ⟨ac, _, rfl, sqc, rfl, _, _, rfl, _, _, rfl, rfl, ?_⟩
  refine st_eq (σ' := [some (.ref d), some (.ref wa), some (.int (cnt : Int)), some (.ref fa), some (.int (v : Int)), some v1, some v2, some (.str pC.1), some (.int (pC.2 : Int)), none, none, none, none, none, none]) rfl ?_
  refine ⟨.ref d, rfl, (by show 8 ≤ sizeLine; decide), fun lo hlo => ?_⟩
  have n_lo := S10.dk.has hlo
  have s11 := same_new (o := .lst [.str "add", .str "sub", .str "mul", .str "div", .str "rem", .str "less", .str "same", .str "xor"]) hlo
  have S11 := S10.same s11
  have e_lo : (upd H10 lo (.lst [.str "add", .str "sub", .str "mul", .str "div", .str "rem", .str "less", .str "same", .str "xor"])) lo = some (.lst [.str "add", .str "sub", .str "mul", .str "div", .str "rem", .str "less", .str "same", .str "xor"]) := upd_same
  generalize upd H10 lo (.lst [.str "add", .str "sub", .str "mul", .str "div", .str "rem", .str "less", .str "same", .str "xor"]) = H11 at s11 S11 e_lo ⊢
  refine ⟨d, c, _, _, rfl, S11.dk, by omega, .inr ⟨lo, ops8.map V.str, rfl, .inl (.inl (by rw [off_get n_lo.1 n_lo.2]; exact e_lo)), by decide, by decide, fun jo yo H12 hyo dk12 X12 => ?_⟩⟩
  rw [List.getElem?_map] at hyo
  obtain ⟨zo, hzo, rfl⟩ := Option.map_eq_some_iff.mp hyo
  have hzo := ops8_nm zo (List.mem_of_getElem? hzo)
  have S12 := S11.step dk12 X12
  refine ⟨.ref d, rfl, d, c, _, 2, rfl, by decide, by decide, by omega, S12.dk, fun r13 H13 r0 r1 dk13 X13 => ?_⟩
  obtain ⟨jx, rfl⟩ := Int.eq_ofNat_of_zero_le r0
  have hjx : jx < (cp "xy").length := by rw [cp_len, len_xy]; omega
  generalize eZ : (⟨#[(cp "xy")[jx]]⟩ : Str) = zc
  have hzc : Nm zc := by rw [← eZ]; exact xy_nm (List.getElem?_eq_getElem hjx)
  have S13 := S12.step dk13 X13
  refine ⟨_, _, (cp "xy")[jx], rfl, rfl, by rw [len_xy]; decide, atI_nat (List.getElem?_eq_getElem hjx), ?_⟩
  rw [eZ]
  refine ⟨_, _, rfl, ?_⟩
  refine st_eq (σ' := [some (.ref d), some (.ref wa), some (.int (cnt : Int)), some (.ref fa), some (.int (v : Int)), some v1, some v2, some (.str pC.1), some (.int (pC.2 : Int)), some (.str zo), some (.str zc), none, none, none, none]) rfl ?_
  refine ⟨.ref d, rfl, .ref fa, rfl, d, c, _, _, rfl, S13.dk, by omega, .inr ⟨fa, _, rfl, S13.funcs, Nat.zero_lt_succ _, (by show 2 ≤ 1000; decide), fun jf yf H14 hyf dk14 X14 => ?_⟩⟩
  obtain ⟨f, hf1, rfl⟩ := funcs_get hyf
  have S14 := S13.step dk14 X14
  refine ⟨.ref d, rfl, .ref fa, rfl, d, c, _, _, rfl, S14.dk, by omega, .inr ⟨fa, _, rfl, S14.funcs, Nat.zero_lt_succ _, (by show 2 ≤ 1000; decide), fun jg yg H15 hyg dk15 X15 => ?_⟩⟩
  obtain ⟨u, hu1, rfl⟩ := funcs_get hyg
  have S15 := S14.step dk15 X15
  refine ⟨.int (v : Int), rfl, (by show 2 ≤ sizeLine; decide), fun lv hlv => ?_⟩
  have n_lv := S15.dk.has hlv
  have s16 := same_new (o := .lst [.int (v : Int), .non]) hlv
  have S16 := S15.same s16
  have e_lv : (upd H15 lv (.lst [.int (v : Int), .non])) lv = some (.lst [.int (v : Int), .non]) := upd_same
  generalize upd H15 lv (.lst [.int (v : Int), .non]) = H16 at s16 S16 e_lv ⊢
  refine ⟨.ref d, rfl, d, c, _, 2, rfl, by decide, by decide, by omega, S16.dk, fun r17 H17 r0 r1 dk17 X17 => ?_⟩
  obtain ⟨jv, rfl⟩ := Int.eq_ofNat_of_zero_le r0
  obtain ⟨o, ho, hok⟩ := vnv (v := v) (j := jv) hvN (by omega)
  have S17 := S16.step dk17 X17
  have e_lv := X17.at n_lv.1 n_lv.2 e_lv
  refine ⟨lv, _, _, _, rfl, rfl, .inl (.inl e_lv), atI_nat ho, ?_⟩
  refine ⟨_, _, _, rfl, ?_⟩
  refine st_eq (σ' := [some (.ref d), some (.ref wa), some (.int (cnt : Int)), some (.ref fa), some (.int (v : Int)), some v1, some v2, some (.str pC.1), some (.int (pC.2 : Int)), some (.str zo), some (.str zc), some (.int (f : Int)), some (.int (u : Int)), some (ovV o), none]) rfl ?_
  refine ⟨_, rfl, .ref d, rfl, d, c, _, rfl, by omega, S17.dk, fun wv H18 w0 w1 dk18 X18 => ?_⟩
  have S18 := S17.step dk18 X18
  refine ⟨(by show 3 ≤ sizeLine; decide), fun t1 ht1 => ?_⟩
  have s19 := same_new (o := .tup [.str "const", .int (v : Int), .int wv]) ht1
  have S19 : RS K d c wa fa M H v1 v2 a1 a2 [.ref t1] [(.cw v wv)] _ (upd H18 t1 (.tup [.str "const", .int (v : Int), .int wv])) := S18.row ht1 ((.cw v wv)) (.cons (.str _) (.cons (.int _) (.cons (.int _) .nil))) ⟨hvN, w0, w1⟩ trivial
  generalize upd H18 t1 (.tup [.str "const", .int (v : Int), .int wv]) = H19 at s19 S19 ⊢
  refine ⟨_, rfl, .ref d, rfl, .ref wa, rfl, d, c, _, _, rfl, S19.dk, by omega, .inr ⟨wa, _, rfl, S19.words, by rw [List.length_map, List.length_range]; omega, by rw [List.length_map, List.length_range]; omega, fun jw yw H20 hyw dk20 X20 => ?_⟩⟩
  obtain ⟨hjw, rfl⟩ := range_get hyw
  have S20 := S19.step dk20 X20
  refine ⟨(by show 3 ≤ sizeLine; decide), fun t2 ht2 => ?_⟩
  have s21 := same_new (o := .tup [.str "copy", .int (v : Int), .int (jw : Int)]) ht2
  have S21 : RS K d c wa fa M H v1 v2 a1 a2 [.ref t1, .ref t2] [(.cw v wv), (.cp v jw)] _ (upd H20 t2 (.tup [.str "copy", .int (v : Int), .int (jw : Int)])) := S20.row ht2 ((.cp v jw)) (.cons (.str _) (.cons (.int _) (.cons (.int _) .nil))) ⟨hvN, by omega⟩ trivial
  generalize upd H20 t2 (.tup [.str "copy", .int (v : Int), .int (jw : Int)]) = H21 at s21 S21 ⊢
  refine ⟨_, rfl, _, rfl, v1, rfl, v2, rfl, (by show 5 ≤ sizeLine; decide), fun t3 ht3 => ?_⟩
  have s22 := same_new (o := .tup [.str "op", .int (v : Int), .str zo, v1, v2]) ht3
  have S22 : RS K d c wa fa M H v1 v2 a1 a2 [.ref t1, .ref t2, .ref t3] [(.cw v wv), (.cp v jw), (.op v zo a1 a2)] _ (upd H21 t3 (.tup [.str "op", .int (v : Int), .str zo, v1, v2])) := S21.row ht3 ((.op v zo a1 a2)) (.cons (.str _) (.cons (.int _) (.cons (.str _) (.cons S21.g1 (.cons S21.g2 .nil))))) ⟨hvN, hzo, u1, u2⟩ trivial
  generalize upd H21 t3 (.tup [.str "op", .int (v : Int), .str zo, v1, v2]) = H22 at s22 S22 ⊢
  refine ⟨(by show 3 ≤ sizeLine; decide), fun l1 hl1 => ?_⟩
  have n_l1 := S22.dk.has hl1
  have s23 := same_new (o := .lst [.ref t1, .ref t2, .ref t3]) hl1
  have S23 := S22.same s23
  have e_l1 : (upd H22 l1 (.lst [.ref t1, .ref t2, .ref t3])) l1 = some (.lst [.ref t1, .ref t2, .ref t3]) := upd_same
  generalize upd H22 l1 (.lst [.ref t1, .ref t2, .ref t3]) = H23 at s23 S23 e_l1 ⊢
  refine ⟨.ref l1, rfl, _, rfl, _, rfl, (by show 3 ≤ sizeLine; decide), fun t4 ht4 => ?_⟩
  have s24 := same_new (o := .tup [.str "load", .int (v : Int), .str zc]) ht4
  have S24 : RS K d c wa fa M H v1 v2 a1 a2 [.ref t1, .ref t2, .ref t3, .ref t4] [(.cw v wv), (.cp v jw), (.op v zo a1 a2), (.ld v zc)] _ (upd H23 t4 (.tup [.str "load", .int (v : Int), .str zc])) := S23.row ht4 ((.ld v zc)) (.cons (.str _) (.cons (.int _) (.cons (.str _) .nil))) ⟨hvN, hzc⟩ trivial
  have e_l1 := s24 _ _ e_l1
  generalize upd H23 t4 (.tup [.str "load", .int (v : Int), .str zc]) = H24 at s24 S24 e_l1 ⊢
  refine ⟨_, rfl, v1, rfl, (by show 4 ≤ sizeLine; decide), fun t5 ht5 => ?_⟩
  have s25 := same_new (o := .tup [.str "read", .int (v : Int), .str "t", v1]) ht5
  have S25 : RS K d c wa fa M H v1 v2 a1 a2 [.ref t1, .ref t2, .ref t3, .ref t4, .ref t5] [(.cw v wv), (.cp v jw), (.op v zo a1 a2), (.ld v zc), (.rd v "t" a1)] _ (upd H24 t5 (.tup [.str "read", .int (v : Int), .str "t", v1])) := S24.row ht5 ((.rd v "t" a1)) (.cons (.str _) (.cons (.int _) (.cons (.str _) (.cons S24.g1 .nil)))) ⟨hvN, nm_t, u1⟩ trivial
  have e_l1 := s25 _ _ e_l1
  generalize upd H24 t5 (.tup [.str "read", .int (v : Int), .str "t", v1]) = H25 at s25 S25 e_l1 ⊢
  refine ⟨_, rfl, _, rfl, v1, rfl, v2, rfl, (by show 2 ≤ sizeLine; decide), fun pp hpp => ?_⟩
  have s26 := same_new (o := .tup [v1, v2]) hpp
  have S26 := S25.same s26
  have g_pp : Dp K (upd H25 pp (.tup [v1, v2])) (.ref pp) (.tuple [oD a1, oD a2]) := dp_tupN hpp (.cons S25.g1 (.cons S25.g2 .nil))
  have e_l1 := s26 _ _ e_l1
  generalize upd H25 pp (.tup [v1, v2]) = H26 at s26 S26 g_pp e_l1 ⊢
  refine ⟨_, rfl, (pC.2 : Int), rfl, [oD a1, oD a2], g_pp, fun zz H27 s27 gz => ?_⟩
  rw [cutP_to, show [oD a1, oD a2].take pC.2 = (([a1, a2] : List Opd).take pC.2).map oD by rw [List.map_take]; rfl] at gz
  have S27 := S26.same s27
  have e_l1 := s27 _ _ e_l1
  refine ⟨(by show 4 ≤ sizeLine; decide), fun t6 ht6 => ?_⟩
  have s28 := same_new (o := .tup [.str "call", ovV o, .str pC.1, zz]) ht6
  have S28 : RS K d c wa fa M H v1 v2 a1 a2 [.ref t1, .ref t2, .ref t3, .ref t4, .ref t5, .ref t6] [(.cw v wv), (.cp v jw), (.op v zo a1 a2), (.ld v zc), (.rd v "t" a1), (.ca o pC.1 (([a1, a2] : List Opd).take pC.2))] _ (upd H27 t6 (.tup [.str "call", ovV o, .str pC.1, zz])) := S27.row ht6 ((.ca o pC.1 (([a1, a2] : List Opd).take pC.2))) (.cons (.str _) (.cons (ov_dp o) (.cons (.str _) (.cons gz .nil)))) ⟨hok, hpC.1, by rw [List.length_take]; exact Nat.min_le_right _ _, fun a ha => by rcases List.mem_cons.mp (List.mem_of_mem_take ha) with z | z; (rw [z]; exact u1); (rw [List.mem_singleton.mp z]; exact u2)⟩ trivial
  have e_l1 := s28 _ _ e_l1
  generalize upd H27 t6 (.tup [.str "call", ovV o, .str pC.1, zz]) = H28 at s28 S28 e_l1 ⊢
  refine ⟨(by show 3 ≤ sizeLine; decide), fun l2 hl2 => ?_⟩
  have n_l2 := S28.dk.has hl2
  have s29 := same_new (o := .lst [.ref t4, .ref t5, .ref t6]) hl2
  have S29 := S28.same s29
  have e_l2 : (upd H28 l2 (.lst [.ref t4, .ref t5, .ref t6])) l2 = some (.lst [.ref t4, .ref t5, .ref t6]) := upd_same
  have e_l1 := s29 _ _ e_l1
  generalize upd H28 l2 (.lst [.ref t4, .ref t5, .ref t6]) = H29 at s29 S29 e_l2 e_l1 ⊢
  refine ⟨l1, l2, _, _, rfl, rfl, e_l1, e_l2, (by show 6 ≤ sizeLine; decide), fun l3 hl3 => ?_⟩
  generalize eH : upd H29 l3 _ = Hx
  have eH : Hx = upd H29 l3 (.lst [.ref t1, .ref t2, .ref t3, .ref t4, .ref t5, .ref t6]) := eH.symm
  have n_l3 := S29.dk.has hl3
  have s30 : Same H29 Hx := by rw [eH]; exact same_new hl3
  have S30 := S29.same s30
  have e_l3 : Hx l3 = some (.lst [.ref t1, .ref t2, .ref t3, .ref t4, .ref t5, .ref t6]) := by rw [eH]; exact upd_same
  clear eH
  generalize Hx = H30 at s30 S30 e_l3 ⊢
  refine ⟨.ref l3, rfl, _, rfl, _, rfl, v1, rfl, (by show 1 ≤ sizeLine; decide), fun pq hpq => ?_⟩
  have s31 := same_new (o := .tup [v1]) hpq
  have S31 := S30.same s31
  have g_pq : Dp K (upd H30 pq (.tup [v1])) (.ref pq) (.tuple [oD a1]) := dp_tupN hpq (.cons S30.g1 .nil)
  have e_l3 := s31 _ _ e_l3
  generalize upd H30 pq (.tup [v1]) = H31 at s31 S31 g_pq e_l3 ⊢
  refine ⟨(by show 4 ≤ sizeLine; decide), fun t7 ht7 => ?_⟩
  have s32 := same_new (o := .tup [.str "apply", ovV o, .int (f : Int), .ref pq]) ht7
  have S32 : RS K d c wa fa M H v1 v2 a1 a2 [.ref t1, .ref t2, .ref t3, .ref t4, .ref t5, .ref t6, .ref t7] [(.cw v wv), (.cp v jw), (.op v zo a1 a2), (.ld v zc), (.rd v "t" a1), (.ca o pC.1 (([a1, a2] : List Opd).take pC.2)), (.ap o f [a1])] _ (upd H31 t7 (.tup [.str "apply", ovV o, .int (f : Int), .ref pq])) := S31.row ht7 ((.ap o f [a1])) (.cons (.str _) (.cons (ov_dp o) (.cons (.int _) (.cons g_pq .nil)))) ⟨hok, hf1, (by show 1 ≤ 2; decide), fun a ha => by rw [List.mem_singleton.mp ha]; exact u1⟩ rfl
  have e_l3 := s32 _ _ e_l3
  have g_pq := dp_mono s32 _ _ g_pq
  generalize upd H31 t7 (.tup [.str "apply", ovV o, .int (f : Int), .ref pq]) = H32 at s32 S32 e_l3 g_pq ⊢
  refine ⟨_, rfl, v1, rfl, (by show 3 ≤ sizeLine; decide), fun t8 ht8 => ?_⟩
  have s33 := same_new (o := .tup [.str "store", .str zc, v1]) ht8
  have S33 : RS K d c wa fa M H v1 v2 a1 a2 [.ref t1, .ref t2, .ref t3, .ref t4, .ref t5, .ref t6, .ref t7, .ref t8] [(.cw v wv), (.cp v jw), (.op v zo a1 a2), (.ld v zc), (.rd v "t" a1), (.ca o pC.1 (([a1, a2] : List Opd).take pC.2)), (.ap o f [a1]), (.st zc a1)] _ (upd H32 t8 (.tup [.str "store", .str zc, v1])) := S32.row ht8 ((.st zc a1)) (.cons (.str _) (.cons (.str _) (.cons S32.g1 .nil))) ⟨hzc, u1⟩ trivial
  have e_l3 := s33 _ _ e_l3
  generalize upd H32 t8 (.tup [.str "store", .str zc, v1]) = H33 at s33 S33 e_l3 ⊢
  have hjn : pC.2 % 2 < (cp "gh").length := by rw [cp_len, len_gh]; omega
  generalize eY : (⟨#[(cp "gh")[pC.2 % 2]]⟩ : Str) = zg
  have hzg : Nm zg := by rw [← eY]; exact gh_nm (List.getElem?_eq_getElem hjn)
  refine ⟨_, rfl, _, rfl, _, _, rfl, rfl, (by decide : (0 : Int) < 2), _, _, (cp "gh")[pC.2 % 2], rfl, rfl, by rw [len_gh]; decide, ?_, ?_⟩
  · rw [show ((pC.2 : Int) % 2) = ((pC.2 % 2 : Nat) : Int) by omega]
    exact atI_nat (List.getElem?_eq_getElem hjn)
  rw [eY]
  refine ⟨(by show 2 ≤ sizeLine; decide), fun pf hpf => ?_⟩
  have s34 := same_new (o := .tup [.str "func", .str zg]) hpf
  have S34 := S33.same s34
  have g_pf : Dp K (upd H33 pf (.tup [.str "func", .str zg])) (.ref pf) (.tuple [.str "func", .str zg]) := dp_tupN hpf (.cons (.str _) (.cons (.str _) .nil))
  have e_l3 := s34 _ _ e_l3
  generalize upd H33 pf (.tup [.str "func", .str zg]) = H34 at s34 S34 g_pf e_l3 ⊢
  refine ⟨(by show 3 ≤ sizeLine; decide), fun t9 ht9 => ?_⟩
  have s35 := same_new (o := .tup [.str "const", .int (f : Int), .ref pf]) ht9
  have S35 : RS K d c wa fa M H v1 v2 a1 a2 [.ref t1, .ref t2, .ref t3, .ref t4, .ref t5, .ref t6, .ref t7, .ref t8, .ref t9] [(.cw v wv), (.cp v jw), (.op v zo a1 a2), (.ld v zc), (.rd v "t" a1), (.ca o pC.1 (([a1, a2] : List Opd).take pC.2)), (.ap o f [a1]), (.st zc a1), (.cf f zg)] _ (upd H34 t9 (.tup [.str "const", .int (f : Int), .ref pf])) := S34.row ht9 ((.cf f zg)) (.cons (.str _) (.cons (.int _) (.cons g_pf .nil))) ⟨hf1, hzg⟩ trivial
  have e_l3 := s35 _ _ e_l3
  have g_pf := dp_mono s35 _ _ g_pf
  generalize upd H34 t9 (.tup [.str "const", .int (f : Int), .ref pf]) = H35 at s35 S35 e_l3 g_pf ⊢
  refine ⟨(by show 3 ≤ sizeLine; decide), fun l4 hl4 => ?_⟩
  have n_l4 := S35.dk.has hl4
  have s36 := same_new (o := .lst [.ref t7, .ref t8, .ref t9]) hl4
  have S36 := S35.same s36
  have e_l4 : (upd H35 l4 (.lst [.ref t7, .ref t8, .ref t9])) l4 = some (.lst [.ref t7, .ref t8, .ref t9]) := upd_same
  have e_l3 := s36 _ _ e_l3
  generalize upd H35 l4 (.lst [.ref t7, .ref t8, .ref t9]) = H36 at s36 S36 e_l4 e_l3 ⊢
  refine ⟨l3, l4, _, _, rfl, rfl, e_l3, e_l4, (by show 9 ≤ sizeLine; decide), fun l5 hl5 => ?_⟩
  generalize eH : upd H36 l5 _ = Hx
  have eH : Hx = upd H36 l5 (.lst [.ref t1, .ref t2, .ref t3, .ref t4, .ref t5, .ref t6, .ref t7, .ref t8, .ref t9]) := eH.symm
  have n_l5 := S36.dk.has hl5
  have s37 : Same H36 Hx := by rw [eH]; exact same_new hl5
  have S37 := S36.same s37
  have e_l5 : Hx l5 = some (.lst [.ref t1, .ref t2, .ref t3, .ref t4, .ref t5, .ref t6, .ref t7, .ref t8, .ref t9]) := by rw [eH]; exact upd_same
  clear eH
  generalize Hx = H37 at s37 S37 e_l5 ⊢
  refine ⟨.ref l5, rfl, _, rfl, _, rfl, (by show 3 ≤ sizeLine; decide), fun t10 ht10 => ?_⟩
  have s38 := same_new (o := .tup [.str "copy", .int (f : Int), .int (u : Int)]) ht10
  have S38 : RS K d c wa fa M H v1 v2 a1 a2 [.ref t1, .ref t2, .ref t3, .ref t4, .ref t5, .ref t6, .ref t7, .ref t8, .ref t9, .ref t10] [(.cw v wv), (.cp v jw), (.op v zo a1 a2), (.ld v zc), (.rd v "t" a1), (.ca o pC.1 (([a1, a2] : List Opd).take pC.2)), (.ap o f [a1]), (.st zc a1), (.cf f zg), (.cp f u)] _ (upd H37 t10 (.tup [.str "copy", .int (f : Int), .int (u : Int)])) := S37.row ht10 ((.cp f u)) (.cons (.str _) (.cons (.int _) (.cons (.int _) .nil))) ⟨hf1, hu1⟩ trivial
  have e_l5 := s38 _ _ e_l5
  generalize upd H37 t10 (.tup [.str "copy", .int (f : Int), .int (u : Int)]) = H38 at s38 S38 e_l5 ⊢
  refine ⟨_, rfl, (by show 3 ≤ sizeLine; decide), fun t11 ht11 => ?_⟩
  have s39 := same_new (o := .tup [.str "load", .int (f : Int), .str "p"]) ht11
  have S39 : RS K d c wa fa M H v1 v2 a1 a2 [.ref t1, .ref t2, .ref t3, .ref t4, .ref t5, .ref t6, .ref t7, .ref t8, .ref t9, .ref t10, .ref t11] [(.cw v wv), (.cp v jw), (.op v zo a1 a2), (.ld v zc), (.rd v "t" a1), (.ca o pC.1 (([a1, a2] : List Opd).take pC.2)), (.ap o f [a1]), (.st zc a1), (.cf f zg), (.cp f u), (.ld f "p")] _ (upd H38 t11 (.tup [.str "load", .int (f : Int), .str "p"])) := S38.row ht11 ((.ld f "p")) (.cons (.str _) (.cons (.int _) (.cons (.str _) .nil))) ⟨hf1, nm_p⟩ trivial
  have e_l5 := s39 _ _ e_l5
  generalize upd H38 t11 (.tup [.str "load", .int (f : Int), .str "p"]) = H39 at s39 S39 e_l5 ⊢
  refine ⟨_, rfl, (by show 2 ≤ sizeLine; decide), fun pv hpv => ?_⟩
  have s40 := same_new (o := .tup [.str "var", .int (f : Int)]) hpv
  have S40 := S39.same s40
  have g_pv : Dp K (upd H39 pv (.tup [.str "var", .int (f : Int)])) (.ref pv) (oD (.v f)) := dp_tupN hpv (.cons (.str _) (.cons (.int _) .nil))
  have e_l5 := s40 _ _ e_l5
  generalize upd H39 pv (.tup [.str "var", .int (f : Int)]) = H40 at s40 S40 g_pv e_l5 ⊢
  refine ⟨(by show 3 ≤ sizeLine; decide), fun t12 ht12 => ?_⟩
  have s41 := same_new (o := .tup [.str "store", .str "p", .ref pv]) ht12
  have S41 : RS K d c wa fa M H v1 v2 a1 a2 [.ref t1, .ref t2, .ref t3, .ref t4, .ref t5, .ref t6, .ref t7, .ref t8, .ref t9, .ref t10, .ref t11, .ref t12] [(.cw v wv), (.cp v jw), (.op v zo a1 a2), (.ld v zc), (.rd v "t" a1), (.ca o pC.1 (([a1, a2] : List Opd).take pC.2)), (.ap o f [a1]), (.st zc a1), (.cf f zg), (.cp f u), (.ld f "p"), (.st "p" (.v f))] _ (upd H40 t12 (.tup [.str "store", .str "p", .ref pv])) := S40.row ht12 ((.st "p" (.v f))) (.cons (.str _) (.cons (.str _) (.cons g_pv .nil))) ⟨nm_p, hf1⟩ trivial
  have e_l5 := s41 _ _ e_l5
  have g_pv := dp_mono s41 _ _ g_pv
  generalize upd H40 t12 (.tup [.str "store", .str "p", .ref pv]) = H41 at s41 S41 e_l5 g_pv ⊢
  refine ⟨v1, rfl, v2, rfl, (by show 4 ≤ sizeLine; decide), fun t13 ht13 => ?_⟩
  have s42 := same_new (o := .tup [.str "write", .str "t", v1, v2]) ht13
  have S42 : RS K d c wa fa M H v1 v2 a1 a2 [.ref t1, .ref t2, .ref t3, .ref t4, .ref t5, .ref t6, .ref t7, .ref t8, .ref t9, .ref t10, .ref t11, .ref t12, .ref t13] [(.cw v wv), (.cp v jw), (.op v zo a1 a2), (.ld v zc), (.rd v "t" a1), (.ca o pC.1 (([a1, a2] : List Opd).take pC.2)), (.ap o f [a1]), (.st zc a1), (.cf f zg), (.cp f u), (.ld f "p"), (.st "p" (.v f)), (.wr "t" a1 a2)] _ (upd H41 t13 (.tup [.str "write", .str "t", v1, v2])) := S41.row ht13 ((.wr "t" a1 a2)) (.cons (.str _) (.cons (.str _) (.cons S41.g1 (.cons S41.g2 .nil)))) ⟨nm_t, u1, u2⟩ trivial
  have e_l5 := s42 _ _ e_l5
  generalize upd H41 t13 (.tup [.str "write", .str "t", v1, v2]) = H42 at s42 S42 e_l5 ⊢
  refine ⟨(by show 4 ≤ sizeLine; decide), fun l6 hl6 => ?_⟩
  have n_l6 := S42.dk.has hl6
  have s43 := same_new (o := .lst [.ref t10, .ref t11, .ref t12, .ref t13]) hl6
  have S43 := S42.same s43
  have e_l6 : (upd H42 l6 (.lst [.ref t10, .ref t11, .ref t12, .ref t13])) l6 = some (.lst [.ref t10, .ref t11, .ref t12, .ref t13]) := upd_same
  have e_l5 := s43 _ _ e_l5
  generalize upd H42 l6 (.lst [.ref t10, .ref t11, .ref t12, .ref t13]) = H43 at s43 S43 e_l6 e_l5 ⊢
  refine ⟨l5, l6, _, _, rfl, rfl, e_l5, e_l6, (by show 13 ≤ sizeLine; decide), fun l7 hl7 => ?_⟩
  generalize eH : upd H43 l7 _ = Hx
  have eH : Hx = upd H43 l7 (.lst [.ref t1, .ref t2, .ref t3, .ref t4, .ref t5, .ref t6, .ref t7, .ref t8, .ref t9, .ref t10, .ref t11, .ref t12, .ref t13]) := eH.symm
  have n_l7 := S43.dk.has hl7
  have s44 : Same H43 Hx := by rw [eH]; exact same_new hl7
  have S44 := S43.same s44
  have e_l7 : Hx l7 = some (.lst [.ref t1, .ref t2, .ref t3, .ref t4, .ref t5, .ref t6, .ref t7, .ref t8, .ref t9, .ref t10, .ref t11, .ref t12, .ref t13]) := by rw [eH]; exact upd_same
  clear eH
  generalize Hx = H44 at s44 S44 e_l7 ⊢
  refine ⟨.ref d, rfl, .ref l7, rfl, v1, rfl, (by show 2 ≤ sizeLine; decide), fun t14 ht14 => ?_⟩
  have s45 := same_new (o := .tup [.str "print", v1]) ht14
  have S45 : RS K d c wa fa M H v1 v2 a1 a2 [.ref t1, .ref t2, .ref t3, .ref t4, .ref t5, .ref t6, .ref t7, .ref t8, .ref t9, .ref t10, .ref t11, .ref t12, .ref t13, .ref t14] [(.cw v wv), (.cp v jw), (.op v zo a1 a2), (.ld v zc), (.rd v "t" a1), (.ca o pC.1 (([a1, a2] : List Opd).take pC.2)), (.ap o f [a1]), (.st zc a1), (.cf f zg), (.cp f u), (.ld f "p"), (.st "p" (.v f)), (.wr "t" a1 a2), (.pr a1)] _ (upd H44 t14 (.tup [.str "print", v1])) := S44.row ht14 ((.pr a1)) (.cons (.str _) (.cons S44.g1 .nil)) u1 trivial
  have e_l7 := s45 _ _ e_l7
  generalize upd H44 t14 (.tup [.str "print", v1]) = H45 at s45 S45 e_l7 ⊢
  refine ⟨_, rfl, _, rfl, (by show 2 ≤ sizeLine; decide), fun pa hpa => ?_⟩
  have s46 := same_new (o := .tup [.str "var", .int (f : Int)]) hpa
  have S46 := S45.same s46
  have g_pa : Dp K (upd H45 pa (.tup [.str "var", .int (f : Int)])) (.ref pa) (oD (.v f)) := dp_tupN hpa (.cons (.str _) (.cons (.int _) .nil))
  have e_l7 := s46 _ _ e_l7
  generalize upd H45 pa (.tup [.str "var", .int (f : Int)]) = H46 at s46 S46 g_pa e_l7 ⊢
  refine ⟨_, rfl, (by show 2 ≤ sizeLine; decide), fun pb hpb => ?_⟩
  have s47 := same_new (o := .tup [.str "var", .int (u : Int)]) hpb
  have S47 := S46.same s47
  have g_pb : Dp K (upd H46 pb (.tup [.str "var", .int (u : Int)])) (.ref pb) (oD (.v u)) := dp_tupN hpb (.cons (.str _) (.cons (.int _) .nil))
  have e_l7 := s47 _ _ e_l7
  have g_pa := dp_mono s47 _ _ g_pa
  generalize upd H46 pb (.tup [.str "var", .int (u : Int)]) = H47 at s47 S47 g_pb e_l7 g_pa ⊢
  refine ⟨(by show 5 ≤ sizeLine; decide), fun t15 ht15 => ?_⟩
  have s48 := same_new (o := .tup [.str "op", .int (v : Int), .str "same", .ref pa, .ref pb]) ht15
  have S48 : RS K d c wa fa M H v1 v2 a1 a2 [.ref t1, .ref t2, .ref t3, .ref t4, .ref t5, .ref t6, .ref t7, .ref t8, .ref t9, .ref t10, .ref t11, .ref t12, .ref t13, .ref t14, .ref t15] [(.cw v wv), (.cp v jw), (.op v zo a1 a2), (.ld v zc), (.rd v "t" a1), (.ca o pC.1 (([a1, a2] : List Opd).take pC.2)), (.ap o f [a1]), (.st zc a1), (.cf f zg), (.cp f u), (.ld f "p"), (.st "p" (.v f)), (.wr "t" a1 a2), (.pr a1), (.op v "same" (.v f) (.v u))] _ (upd H47 t15 (.tup [.str "op", .int (v : Int), .str "same", .ref pa, .ref pb])) := S47.row ht15 ((.op v "same" (.v f) (.v u))) (.cons (.str _) (.cons (.int _) (.cons (.str _) (.cons g_pa (.cons g_pb .nil))))) ⟨hvN, nm_same, hf1, hu1⟩ trivial
  have e_l7 := s48 _ _ e_l7
  have g_pa := dp_mono s48 _ _ g_pa
  have g_pb := dp_mono s48 _ _ g_pb
  generalize upd H47 t15 (.tup [.str "op", .int (v : Int), .str "same", .ref pa, .ref pb]) = H48 at s48 S48 e_l7 g_pa g_pb ⊢
  refine ⟨(by show 2 ≤ sizeLine; decide), fun l8 hl8 => ?_⟩
  have n_l8 := S48.dk.has hl8
  have s49 := same_new (o := .lst [.ref t14, .ref t15]) hl8
  have S49 := S48.same s49
  have e_l8 : (upd H48 l8 (.lst [.ref t14, .ref t15])) l8 = some (.lst [.ref t14, .ref t15]) := upd_same
  have e_l7 := s49 _ _ e_l7
  generalize upd H48 l8 (.lst [.ref t14, .ref t15]) = H49 at s49 S49 e_l8 e_l7 ⊢
  refine ⟨l7, l8, _, _, rfl, rfl, e_l7, e_l8, (by show 15 ≤ sizeLine; decide), fun l9 hl9 => ?_⟩
  generalize eH : upd H49 l9 _ = Hx
  have eH : Hx = upd H49 l9 (.lst [.ref t1, .ref t2, .ref t3, .ref t4, .ref t5, .ref t6, .ref t7, .ref t8, .ref t9, .ref t10, .ref t11, .ref t12, .ref t13, .ref t14, .ref t15]) := eH.symm
  have n_l9 := S49.dk.has hl9
  have s50 : Same H49 Hx := by rw [eH]; exact same_new hl9
  have S50 := S49.same s50
  have e_l9 : Hx l9 = some (.lst [.ref t1, .ref t2, .ref t3, .ref t4, .ref t5, .ref t6, .ref t7, .ref t8, .ref t9, .ref t10, .ref t11, .ref t12, .ref t13, .ref t14, .ref t15]) := by rw [eH]; exact upd_same
  clear eH
  generalize Hx = H50 at s50 S50 e_l9 ⊢
  refine ⟨d, c, _, _, rfl, S50.dk, by omega, .inr ⟨l9, [.ref t1, .ref t2, .ref t3, .ref t4, .ref t5, .ref t6, .ref t7, .ref t8, .ref t9, .ref t10, .ref t11, .ref t12, .ref t13, .ref t14, .ref t15], rfl, .inl (.inl (by rw [off_get n_l9.1 n_l9.2]; exact e_l9)), Nat.zero_lt_succ _, (by show 15 ≤ 1000; decide), fun j y H51 hy dk51 X51 => ?_⟩⟩
  obtain ⟨R, hR, gR⟩ := dpAll_map_get S50.ll hy
  have hok := S50.ok R (List.mem_of_getElem? hR)
  exact q _ R _ (dk51.up (by omega)) (S50.X.trans X51) (dp_kt (ext_kt S50.dk X51) _ _ (nlR R) gR) hok.1 hok.2
end
end K39

set_option maxHeartbeats 40000000
namespace K39
open PySem PySem.Spec PyProof.Rows L2 HG P52
theorem stp_up {M N B : Nat} {E : Stp} (h : StpOk M B E) (hN : M ≤ N) : StpOk N B E := by
  cases E with
  | jp n => exact h
  | br a n m => exact ⟨opd_up h.1 hN, h.2⟩
  | rt a => exact fun o ho => opd_up (h o ho) hN
  | ht i => exact h
theorem rg_eq (n : Nat) : L2.rgV 0 (n : Int) = (List.range n).map fun i => V.int ((i : Nat) : Int) := by
  unfold L2.rgV
  rw [Int.sub_zero, Int.toNat_natCast]
  congr 1
  funext i
  rw [Int.zero_add]
/-- a row more -/
theorem row_step {K : PySem.W.Frag} {d c D : Addr} {n m N : Nat} {H0 H3 H4 : Hp} {us : List V} {v : V} {rows : List Rw} {R : Rw} (nD : D ≠ d ∧ D ≠ c) (hD : H0 D = none) (h3 : H3 D = some (.lst us)) (hU : DpAll K H3 us (rows.map Rw.D)) (hok : ∀ R ∈ rows, RwOk N R ∧ Ap1 R)
    (dk3 : Deck d c n H3) (X3 : Ext d c H0 H3) (dk4 : Deck d c m H4) (X4 : Ext d c H3 H4) (hv : Dp K H4 v R.D) (hR : RwOk N R) (h1 : Ap1 R) :
    H4 D = some (.lst us) ∧ DpAll K (L2.upd H4 D (.lst (us ++ [v]))) (us ++ [v]) ((rows ++ [R]).map Rw.D) ∧ (∀ R' ∈ rows ++ [R], RwOk N R' ∧ Ap1 R') ∧ Deck d c m (L2.upd H4 D (.lst (us ++ [v]))) ∧ Ext d c H0 (L2.upd H4 D (.lst (us ++ [v]))) := by
  have hD4 := X4.at nD.1 nD.2 h3
  have ke := KT.lst (o := .lst (us ++ [v])) hD4
  refine ⟨hD4, ?_, fun R' h => ?_, dk4.upd nD.1 nD.2, (X3.trans X4).mut hD⟩
  · rw [List.map_append]
    exact dpAll_app (dpAll_kt ((ext_kt dk3 X4).trans ke) _ _ (nlRs rows) hU) (.cons (dp_kt ke _ _ (nlR R) hv) .nil)
  · rcases List.mem_append.mp h with z | z
    · exact hok R' z
    · rw [List.mem_singleton.mp z]
      exact ⟨hR, h1⟩
theorem if_join2 {b : Bool} {A B : Prop} {C I : L2.St → Hp → Prop} (hf : b = false → (∀ σ H, I σ H → C σ H) → B) (ht : b = true → (∀ σ H, I σ H → C σ H) → A) (hc : ∀ σ H, I σ H → C σ H) : if b = true then A else B := by
  cases b with
  | true => exact iteT (ht rfl hc)
  | false => exact iteF (hf rfl hc)
def GAp (g : Gr) : Prop := ∀ b ∈ g.blocks, ∀ R ∈ b.rows, Ap1 R
def spGraph (K : PySem.W.Frag) : Sp := fun vs H Q _ => ∃ (d c : Addr) (n mo cnt : Nat), vs = [.ref d, .int (mo : Int), .int (cnt : Int)] ∧ 0 < mo ∧ mo ≤ 9 ∧ cnt ≤ 3 ∧ n < 2 ^ 46 ∧ Deck d c n H ∧
  ∀ (v : V) (g : Gr) (N : Nat) (H' : Hp), Deck d c (n + 2000) H' → Ext d c H H' → Dp K H' v g.D → GrOk N g → GAp g → Q v H'
section
variable {P : Program} {w : World} {K : PySem.W.Frag} {mg : Str → Option Value} {base : Heap}
set_option pp.maxSteps 40 in
set_option pp.maxSteps 600 in
theorem c_graph (T : Txt w K mg) : Cal P w K mg base "_law_graph" 5 ["_law_deck_here", "_law_most", "_law_count"] (spGraph K) := by
  obtain ⟨fd, F⟩ := T.d__law_graph
  have C__law_operand := c_operand (P := P) (w := w) (base := base) T
  have C__law_draw := c_draw (P := P) (w := w) (base := base) T
  have C__law_row := c_row (P := P) (w := w) (base := base) T
  have C__law_pick := c_pick (P := P) (w := w) (base := base) T
  have C__law_word := c_word (P := P) (w := w) (base := base) T
  refine ⟨⟨fd, F.ok sc__law_graph (fun vs H Q E h => by repeat (first | (obtain ⟨e, _⟩ := h; subst e; rfl) | (obtain ⟨_, h⟩ := h))) (fun cdv A outer s H vs Q E hr h => ?_), F.bindsN fun _ _ _ _ _ _ us hl => match us, hl with | [_, _, _], _ => rfl⟩, T.g _ (by decide), F.kp⟩
  obtain ⟨d, c, n, mo, cnt, rfl, hmo0, hmo9, hc3, hn, dk, q⟩ := h
  refine ⟨_, PSs.nox (pss_cons (ps_asg (pe_tup (pa_cons (pe_listRg rfl (by rfl) T.n_list (prg_1 (by rfl) T.n_range (pe_op op_add (pe_op op_add (pv 2) pe_int) (pe_cal C__law_draw (hr.mono (by omega)) (by rfl) (pa_cons (pv 0) (pa_cons pe_int pa_nil)))))) (pa_cons (pe_op op_add pe_int (pe_cal C__law_draw (hr.mono (by omega)) (by rfl) (pa_cons (pv 0) (pa_cons (pv 1) pa_nil)))) (pa_cons (pe_lst pa_nil) pa_nil)))) (pg_tupK (K := K) (n := 3) rfl rfl (pgs_cons (pg_name (i := 3) sc__law_graph.nd rfl (.inr rfl)) (pgs_cons (pg_name (i := 4) sc__law_graph.nd rfl (.inl rfl)) (pgs_cons (pg_name (i := 5) sc__law_graph.nd rfl (.inl rfl)) pgs_nil)))))
      (pss_cons (ps_set (i := 6) sc__law_graph.nd rfl (.inr rfl) (pe_lst (pa_cons (pe_callB (lenK (K := K) rfl) (by rfl) T.n_len (by decide +kernel) (pa_cons (pv 3) pa_nil)) (pa_cons (pe_op op_add (pe_callB (lenK (K := K) rfl) (by rfl) T.n_len (by decide +kernel) (pa_cons (pv 3) pa_nil)) pe_int) pa_nil))))
      (pss_cons (ps_for PassesOwn.never rfl (pi_range1 (by rfl) T.n_range (pa_cons (pv 4) pa_nil)) (pg_name (i := 7) sc__law_graph.nd rfl (.inl rfl)) (pss_cons (ps_setLc (i := 8) (own := [("_law_k", 12)]) (by rfl) sc__law_graph.nd rfl rfl (sw_true rfl rfl rfl (by decide +kernel)) (pi_range1 (by rfl) T.n_range (pa_cons (pe_cal C__law_draw (hr.mono (by omega)) (by rfl) (pa_cons (pv 0) (pa_cons pe_int pa_nil))) pa_nil)) (blkOk_by (own := [("_law_k", 12)]) (N := N__law_graph) (sc := defScope s__law_graph) (by decide +kernel)) (fun _ _ _ _ _ => (pg_name (i := 12) sc__law_graph.nd rfl (.inl rfl))) (fun _ _ _ _ _ => pts_nil) (fun _ _ _ _ _ => (pe_cal C__law_row (hr.mono (by omega)) (by rfl) (pa_cons (pv 0) (pa_cons (pv 3) (pa_cons (pv 2) (pa_cons (pv 6) pa_nil)))))))
      (pss_cons (ps_if (pt_cmpR op_eq (pv 7) pe_int (nomark _)) (pss_cons (ps_setLc (i := 9) (own := [("_law_v", 13)]) (by rfl) sc__law_graph.nd rfl rfl (sw_true rfl rfl rfl (by decide +kernel)) (pi_list (pe_slice (sl_listK (K := K) rfl) (pv 3) (po_some (pv 2)) po_none)) (blkOk_by (own := [("_law_v", 13)]) (N := N__law_graph) (sc := defScope s__law_graph) (by decide +kernel)) (fun _ _ _ _ _ => (pg_name (i := 13) sc__law_graph.nd rfl (.inl rfl))) (fun _ _ _ _ _ => pts_nil) (fun _ _ _ _ _ => (pe_tup (pa_cons pe_str (pa_cons (pv 13) (pa_cons (pe_cal C__law_word (hr.mono (by omega)) (by rfl) (pa_cons (pv 0) pa_nil)) pa_nil))))))
      (pss_one (ps_set (i := 8) sc__law_graph.nd rfl (.inl rfl) (pe_op op_cat (pe_op op_cat (pv 9) (pe_lc (own := [("_law_v", 13)]) (by rfl) sc__law_graph.nd (pi_list (pv 6)) (blkOk_by (own := [("_law_v", 13)]) (N := N__law_graph) (sc := defScope s__law_graph) (by decide +kernel)) (fun _ _ _ _ _ => (pg_name (i := 13) sc__law_graph.nd rfl (.inl rfl))) (fun _ _ _ _ _ => pts_nil) (fun _ _ _ _ _ => (pe_tup (pa_cons pe_str (pa_cons (pv 13) (pa_cons (pe_tup (pa_cons pe_str (pa_cons (pe_cal C__law_pick (hr.mono (by omega)) (by rfl) (pa_cons (pv 0) (pa_cons pe_str pa_nil))) pa_nil))) pa_nil))))))) (pv 8))))) pss_nil)
      (pss_cons (ps_set (i := 10) sc__law_graph.nd rfl (.inl rfl) (pe_cal C__law_operand (hr.mono (by omega)) (by rfl) (pa_cons (pv 0) (pa_cons (pv 3) pa_nil))))
      (pss_cons (ps_set (i := 11) sc__law_graph.nd rfl (.inl rfl) (pe_lst (pa_cons (pe_tup (pa_cons pe_str (pa_cons (pe_cal C__law_draw (hr.mono (by omega)) (by rfl) (pa_cons (pv 0) (pa_cons (pv 4) pa_nil))) pa_nil))) (pa_cons (pe_tup (pa_cons pe_str (pa_cons (pv 10) (pa_cons (pe_cal C__law_draw (hr.mono (by omega)) (by rfl) (pa_cons (pv 0) (pa_cons (pv 4) pa_nil))) (pa_cons (pe_cal C__law_draw (hr.mono (by omega)) (by rfl) (pa_cons (pv 0) (pa_cons (pv 4) pa_nil))) pa_nil))))) pa_nil))))
      (pss_one (ps_expr (pe_bm PySem.F.plainAttrs_list PySem.F.slot_list_append PySem.F.type_list_append mt_append (pv 5) (pa_cons (pe_tup (pa_cons (pe_callTy call_tuple_of (by rfl) T.n_tuple (by decide +kernel) (pa_cons (pv 8) pa_nil)) (pa_cons (pe_cal C__law_pick (hr.mono (by omega)) (by rfl) (pa_cons (pv 0) (pa_cons (pe_op op_cat (pe_op op_cat (pv 11) (pv 11)) (pe_lst (pa_cons (pe_tup (pa_cons pe_str (pa_cons (pv 10) pa_nil))) (pa_cons (pe_tup (pa_cons pe_str (pa_cons pe_int pa_nil))) pa_nil)))) pa_nil))) pa_nil))) pa_nil)))))))))
      (pss_one (ps_ret (pe_tup (pa_cons (pv 2) (pa_cons (pe_callTy call_tuple_of (by rfl) T.n_tuple (by decide +kernel) (pa_cons (pv 5) pa_nil)) pa_nil)))))))), ?_⟩
  refine ⟨.int (cnt : Int), rfl, _, _, rfl, rfl, .ref d, rfl, d, c, _, 3, rfl, by decide, by decide, by omega, dk, fun r1 H1 r10 r11 dk1 X1 => ?_⟩
  obtain ⟨m0, rfl⟩ := Int.eq_ofNat_of_zero_le r10
  have hM : ((cnt : Int) + 2 + (m0 : Int)) = ((cnt + 2 + m0 : Nat) : Int) := by omega
  have hm0 : m0 ≤ 2 := by omega
  generalize eM : cnt + 2 + m0 = M at hM
  refine ⟨_, _, rfl, rfl, _, rfl, ⟨by omega, by omega, by omega, by omega, by omega⟩, fun wa hwa => ?_⟩
  generalize eH2 : upd H1 wa _ = H2
  have eH2 : H2 = upd H1 wa (.lst (rgV M)) := by
    rw [← eH2]
    show _ = upd H1 wa (.lst ((List.range M).map fun i => V.int ((i : Nat) : Int)))
    rw [← rg_eq, ← hM]
  have nwa := dk1.has hwa
  have s2 : Same H1 H2 := by rw [eH2]; exact same_new hwa
  have ewa : H2 wa = some (.lst (rgV M)) := by rw [eH2]; exact upd_same
  have dk2 := dk1.same s2
  have X2 : Ext d c H H2 := X1.trans (off_same_mono s2)
  clear eH2
  refine ⟨.ref d, rfl, .int (mo : Int), rfl, d, c, _, (mo : Int), rfl, by omega, many40 (by omega), by omega, dk2, fun r3 H3 r30 r31 dk3 X3 => ?_⟩
  obtain ⟨b0, rfl⟩ := Int.eq_ofNat_of_zero_le r30
  have ewa := X3.at nwa.1 nwa.2 ewa
  have X3 := X2.trans X3
  have dk3 := dk3
  have nbk : b0 ≤ 8 := by omega
  refine ⟨_, _, rfl, rfl, Nat.zero_le _, fun bl hbl => ?_⟩
  have nbl := dk3.has hbl
  have s4 := same_new (o := .lst []) hbl
  have ebl : (upd H3 bl (.lst [])) bl = some (.lst []) := upd_same
  have X4 : Ext d c H (upd H3 bl (.lst [])) := X3.trans (off_same_mono s4)
  have dk4 := dk3.same s4
  have ewa4 : (upd H3 bl (.lst [])) wa = some (.lst (rgV M)) := s4 _ _ ewa
  generalize upd H3 bl (.lst []) = H4 at s4 ebl X4 dk4 ewa4 ⊢
  refine ⟨(by show 3 ≤ sizeLine; decide), fun tp htp => ?_⟩
  have s5 := same_new (o := .tup [.ref wa, .int (1 + (b0 : Int)), .ref bl]) htp
  have etp : (upd H4 tp (.tup [.ref wa, .int (1 + (b0 : Int)), .ref bl])) tp = some (.tup [.ref wa, .int (1 + (b0 : Int)), .ref bl]) := upd_same
  have ebl := s5 _ _ ebl
  have ewa4 := s5 _ _ ewa4
  have X5 := X4.trans (off_same_mono s5)
  have dk5 := dk4.same s5
  have X35 : Ext d c H3 (upd H4 tp (.tup [.ref wa, .int (1 + (b0 : Int)), .ref bl])) := off_same_mono (s4.trans s5)
  generalize upd H4 tp (.tup [.ref wa, .int (1 + (b0 : Int)), .ref bl]) = H5 at s5 etp ebl ewa4 X5 dk5 X35 ⊢
  refine ⟨tp, _, rfl, .inl (.inl etp), rfl, _, _, rfl, _, _, rfl, _, _, rfl, rfl, ?_⟩
  have eB : (1 : Int) + (b0 : Int) = ((1 + b0 : Nat) : Int) := by omega
  have hB0 : 0 < 1 + b0 := by omega
  have hB9 : 1 + b0 ≤ 9 := by omega
  have hBm : 1 + b0 ≤ mo := by omega
  refine st_eq (σ' := [some (.ref d), some (.int (mo : Int)), some (.int (cnt : Int)), some (.ref wa), some (.int ((1 + b0 : Nat) : Int)), some (.ref bl), none, none, none, none, none, none, none, none]) (by rw [eB]; rfl) ?_
  generalize 1 + b0 = B at hB0 hB9 hBm
  have hlw : ((rgV M).length : Int) = (M : Int) := by rw [List.length_map, List.length_range]
  refine ⟨.ref wa, rfl, .ref wa, _, rfl, .inl ⟨_, .inl (.inl ewa4), rfl⟩, .ref wa, rfl, .ref wa, _, rfl, .inl ⟨_, .inl (.inl ewa4), rfl⟩, _, _, rfl, rfl, (by show 2 ≤ sizeLine; decide), fun fa hfa => ?_⟩
  have nfa := dk5.has hfa
  have nfb : fa ≠ bl := fun z => by rw [z, ebl] at hfa; cases hfa
  generalize eH6 : upd H5 fa _ = H6
  have eH6 : H6 = upd H5 fa (.lst [nV M, nV (M + 1)]) := by
    rw [← eH6, hlw]
    rfl
  have s6 : Same H5 H6 := by rw [eH6]; exact same_new hfa
  have efa : H6 fa = some (.lst [nV M, nV (M + 1)]) := by rw [eH6]; exact upd_same
  have ebl := s6 _ _ ebl
  have dk6 := dk5.same s6
  have X36 := X35.trans (off_same_mono s6)
  clear eH6
  refine ⟨_, rfl, _, rfl, by omega, by omega, for_range (lo := 0) (n := ((B : Nat) : Int).toNat) (fun i σ H7 => ∃ bvs bs x7 x8 x9 x10 x11, σ = [some (.ref d), some (.int (mo : Int)), some (.int (cnt : Int)), some (.ref wa), some (.int (B : Int)), some (.ref bl), some (.ref fa), x7, x8, x9, x10, x11, none, none] ∧
      H7 bl = some (.lst bvs) ∧ DpAll K H7 bvs (bs.map Blk.D) ∧ bs.length = i ∧ (∀ b ∈ bs, BkOk (M + 2) B b) ∧ (∀ b ∈ bs, ∀ R ∈ b.rows, Ap1 R) ∧ H7 fa = some (.lst [nV M, nV (M + 1)]) ∧ Deck d c (n + 10 + 150 * i) H7 ∧ Ext d c H3 H7)
    ⟨[], [], _, _, _, _, _, rfl, ebl, .nil, rfl, (fun _ h => nomatch h), (fun _ h => nomatch h), efa, dk6.up (by omega), X36⟩ ?_ ?_⟩
  · rintro i σ H7 hi ⟨bvs, bs, x7, x8, x9, x10, x11, rfl, eb7, hBs, hbl', hbok, hbap, ef7, dk7, X7⟩
    have hi : i < 9 := by omega
    have ew7 := X7.at nwa.1 nwa.2 ewa
    have off7 : ∀ {b : Addr} {o : HO}, b ≠ d ∧ b ≠ c → H7 b = some o → off d c H7 b = some o := fun h e => by rw [off_get h.1 h.2]; exact e
    -- the rows
    refine ⟨.ref d, rfl, d, c, _, 5, rfl, by decide, by decide, by omega, dk7, fun r8 H8 r80 r81 dk8 X8 => ?_⟩
    obtain ⟨k8, rfl⟩ := Int.eq_ofNat_of_zero_le r80
    have X38 := X7.trans X8
    refine ⟨_, rfl, by omega, by omega, fun D hD => ?_⟩
    have nD := dk8.has hD
    have nDf : fa ≠ D := fun z => by rw [← z, X8.at nfa.1 nfa.2 ef7] at hD; cases hD
    have nDb : bl ≠ D := fun z => by rw [← z, X8.at nbl.1 nbl.2 eb7] at hD; cases hD
    refine lc_range (lo := 0) (n := ((k8 : Nat) : Int).toNat) (fun k H9 => ∃ us rows, H9 D = some (.lst us) ∧ DpAll K H9 us (rows.map Rw.D) ∧ rows.length = k ∧ (∀ R ∈ rows, RwOk (M + 2) R ∧ Ap1 R) ∧ Deck d c (n + 10 + 150 * i + 1 + 20 * k) H9 ∧ Ext d c H8 H9) ⟨[], [], upd_same, .nil, rfl, (fun _ h => nomatch h), (dk8.new hD).up (by omega), Ext.new hD⟩ ?_ ?_
    · rintro k H9 hk ⟨us, rows, e9, hU, hrl, hok, dk9, X9⟩
      have hk : k < 5 := by omega
      have X39 := X38.trans X9
      refine ⟨rfl, tyes ⟨.ref d, rfl, .ref wa, rfl, .int (cnt : Int), rfl, .ref fa, rfl, d, c, wa, fa, _, cnt, M, rfl, by omega, dk9, (by rw [off_get nwa.1 nwa.2]; exact (X8.trans X9).at nwa.1 nwa.2 ew7), (by rw [off_get nfa.1 nfa.2]; exact (X8.trans X9).at nfa.1 nfa.2 ef7), by omega, by omega, fun v R H10 dk10 X10 gv ok ap => ?_⟩⟩
      obtain ⟨m1, m2, m3, m4, m5⟩ := row_step nD hD e9 hU hok dk9 X9 dk10 X10 gv ok ap
      have hul := dpAll_len hU
      rw [List.length_map] at hul
      exact ⟨us, m1, small_line (by omega), us ++ [v], rows ++ [R], upd_same, m2, by rw [List.length_append, hrl]; rfl, m3, m4.up (by omega), m5⟩
    rintro H9 ⟨us, rows, e9, hU, hrl, hok, dk9, X9⟩
    have hrl5 : rows.length ≤ 4 := by omega
    have dk9 := dk9.up (show n + 10 + 150 * i + 1 + 20 * ((k8 : Nat) : Int).toNat ≤ n + 10 + 150 * i + 81 by omega)
    clear hrl
    have X79 := X8.trans X9
    refine ⟨_, rfl, rfl, _, rfl, ?_⟩
    refine if_join2 (I := fun σ H10 => ∃ ra x9 us rows, σ = [some (.ref d), some (.int (mo : Int)), some (.int (cnt : Int)), some (.ref wa), some (.int (B : Int)), some (.ref bl), some (.ref fa), some (.int (0 + (i : Int))), some (.ref ra), x9, x10, x11, none, none] ∧
      ra ≠ d ∧ ra ≠ c ∧ ra ≠ bl ∧ H10 ra = some (.lst us) ∧ DpAll K H10 us (rows.map Rw.D) ∧ rows.length ≤ 14 ∧ (∀ R ∈ rows, RwOk (M + 2) R ∧ Ap1 R) ∧ Deck d c (n + 10 + 150 * i + 100) H10 ∧ Ext d c H7 H10) (C := fun σ H10 => _) (fun hb k => k _ H9 ⟨D, _, us, rows, rfl, nD.1, nD.2, nDb.symm, e9, hU, by omega, hok, dk9.up (by omega), X79⟩) (fun hb k => ?_) ?_
    · have ew9 := X79.at nwa.1 nwa.2 ew7
      have ef9 := X79.at nfa.1 nfa.2 ef7
      refine ⟨.ref wa, rfl, .int (cnt : Int), rfl, _, rfl, wa, _, rfl, .inl (.inl ew9), fun p1 hp1 => ?_⟩
      have hcl : (cutV (rgV M) (some (cnt : Int)) none).length ≤ 4 := by
        unfold cutV
        rw [HT.sIx_nat, show HT.sIx (rgV M).length (rgV M).length none = (rgV M).length from rfl, List.length_take, List.length_drop, List.length_map, List.length_range]
        omega
      have n1 := dk9.has hp1
      have s10 := same_new (o := .lst (cutV (rgV M) (some (cnt : Int)) none)) hp1
      have e1 : (upd H9 p1 (.lst (cutV (rgV M) (some (cnt : Int)) none))) p1 = some (.lst (cutV (rgV M) (some (cnt : Int)) none)) := upd_same
      have dk10 := dk9.same s10
      have X90 : Ext d c H9 (upd H9 p1 (.lst (cutV (rgV M) (some (cnt : Int)) none))) := off_same_mono s10
      generalize upd H9 p1 (.lst (cutV (rgV M) (some (cnt : Int)) none)) = H10 at s10 e1 dk10 X90 ⊢
      refine ⟨p1, rfl, ⟨_, .inl (.inl e1)⟩, fun D1 hD1 => ?_⟩
      have nD1 := dk10.has hD1
      refine lc_list (xs := cutV (rgV M) (some (cnt : Int)) none) (fun j H11 => ∃ us1 rows1, H11 D1 = some (.lst us1) ∧ DpAll K H11 us1 (rows1.map Rw.D) ∧ rows1.length = j ∧ (∀ R ∈ rows1, RwOk (M + 2) R ∧ Ap1 R) ∧ Deck d c (n + 10 + 150 * i + 81 + j) H11 ∧ Ext d c H10 H11) ⟨[], [], upd_same, .nil, rfl, (fun _ h => nomatch h), dk10.new hD1, Ext.new hD1⟩ ?_ ?_ ?_
      · rintro j H11 _ ⟨us1, rows1, _, _, _, _, _, X11⟩
        exact .inl (.inl (X11.at n1.1 n1.2 e1))
      · rintro j x H11 hx ⟨us1, rows1, e11, hU1, hrl1, hok1, dk11, X11⟩
        obtain ⟨i2, hi2⟩ := List.getElem?_of_mem (cutV_sub (List.mem_of_getElem? hx))
        obtain ⟨hv, rfl⟩ := range_get hi2
        have hj4 : j < 4 := Nat.lt_of_lt_of_le (List.getElem?_eq_some_iff.mp hx).1 hcl
        refine ⟨rfl, tyes ⟨_, rfl, .ref d, rfl, d, c, _, rfl, by omega, dk11, fun z H12 z0 z1 dk12 X12 => ⟨(by show 3 ≤ sizeLine; decide), fun p5 hp5 => ?_⟩⟩⟩
        obtain ⟨m1, m2, m3, m4, m5⟩ := row_step (R := .cw i2 z) nD1 hD1 e11 hU1 hok1 dk11 X11 (dk12.new (o := .tup [.str "const", .int (i2 : Int), .int z]) hp5) (X12.trans (Ext.new hp5)) (dp_tupN hp5 (.cons (.str _) (.cons (.int _) (.cons (.int _) .nil)))) ⟨by omega, z0, z1⟩ trivial
        have hul := dpAll_len hU1
        rw [List.length_map] at hul
        exact ⟨us1, m1, small_line (by omega), us1 ++ [.ref p5], rows1 ++ [.cw i2 z], upd_same, m2, by rw [List.length_append, hrl1]; rfl, m3, m4, m5⟩
      rintro H11 ⟨us1, rows1, e11, hU1, hrl1, hok1, dk11, X11⟩
      have hrl1 : rows1.length ≤ 4 := by omega
      have dk11 := dk11.up (show n + 10 + 150 * i + 81 + (cutV (rgV M) (some (cnt : Int)) none).length ≤ n + 10 + 150 * i + 85 by omega)
      have X911 := X90.trans X11
      have ef11 := X911.at nfa.1 nfa.2 ef9
      refine ⟨.ref D1, rfl, .ref fa, rfl, fa, rfl, ⟨_, .inl (.inl ef11)⟩, fun D2 hD2 => ?_⟩
      have nD2 := dk11.has hD2
      refine lc_list (xs := [nV M, nV (M + 1)]) (fun j H12 => ∃ us2 rows2, H12 D2 = some (.lst us2) ∧ DpAll K H12 us2 (rows2.map Rw.D) ∧ rows2.length = j ∧ (∀ R ∈ rows2, RwOk (M + 2) R ∧ Ap1 R) ∧ Deck d c (n + 10 + 150 * i + 85 + j) H12 ∧ Ext d c H11 H12) ⟨[], [], upd_same, .nil, rfl, (fun _ h => nomatch h), dk11.new hD2, Ext.new hD2⟩ ?_ ?_ ?_
      · rintro j H12 _ ⟨us2, rows2, _, _, _, _, _, X12⟩
        exact .inl (.inl (X12.at nfa.1 nfa.2 ef11))
      · rintro j x H12 hx ⟨us2, rows2, e12, hU2, hrl2, hok2, dk12, X12⟩
        obtain ⟨f, hf1, rfl⟩ := funcs_get hx
        have hj2 : j < 2 := (List.getElem?_eq_some_iff.mp hx).1
        refine ⟨rfl, tyes ⟨_, rfl, .ref d, rfl, d, c, _, _, rfl, dk12, by omega, .inl ⟨"gh", rfl, by rw [len_gh]; decide, by rw [len_gh]; decide, fun jg ch H13 hg dk13 X13 => ⟨(by show 2 ≤ sizeLine; decide), fun t7 ht7 => ⟨(by show 3 ≤ sizeLine; decide), fun t8 ht8 => ?_⟩⟩⟩⟩⟩
        have hnm := gh_nm hg
        generalize (⟨#[ch]⟩ : Str) = zg at hnm ht8 ⊢
        have s78 := (same_new (o := .tup [.str "func", .str zg]) ht7).trans (same_new (o := .tup [.str "const", .int (f : Int), .ref t7]) ht8)
        obtain ⟨m1, m2, m3, m4, m5⟩ := row_step (R := .cf f zg) nD2 hD2 e12 hU2 hok2 dk12 X12 (dk13.same s78) (X13.trans (off_same_mono s78)) (dp_tupN ht8 (.cons (.str _) (.cons (.int _) (.cons (dp_tupN ht7 (.cons (.str _) (.cons (.str _) .nil))) .nil)))) ⟨hf1, hnm⟩ trivial
        have hul := dpAll_len hU2
        rw [List.length_map] at hul
        exact ⟨us2, m1, small_line (by omega), us2 ++ [.ref t8], rows2 ++ [.cf f zg], upd_same, m2, by rw [List.length_append, hrl2]; rfl, m3, m4, m5⟩
      rintro H12 ⟨us2, rows2, e12, hU2, hrl2, hok2, dk12, X12⟩
      have hrl2 : rows2.length = 2 := hrl2
      have dk12 : Deck d c (n + 10 + 150 * i + 87) H12 := dk12
      have X912 := X911.trans X12
      have hul := dpAll_len hU
      have hul1 := dpAll_len hU1
      have hul2 := dpAll_len hU2
      rw [List.length_map] at hul hul1 hul2
      refine ⟨D1, D2, us1, us2, rfl, rfl, X12.at nD1.1 nD1.2 e11, e12, by rw [sizeLine_eq]; omega, fun p9 hp9 => ⟨.ref D, rfl, p9, D, us1 ++ us2, us, rfl, rfl, upd_same, upd_get hp9 (X912.at nD.1 nD.2 e9), by rw [sizeLine_eq, List.length_append]; omega, fun p10 hp10 => ?_⟩⟩
      have s910 := (same_new (o := .lst (us1 ++ us2)) hp9).trans (same_new (o := .lst (us1 ++ us2 ++ us)) hp10)
      have dk13 := dk12.same s910
      have n10 := (dk12.same (same_new (o := .lst (us1 ++ us2)) hp9)).has hp10
      refine k _ _ ⟨p10, _, us1 ++ us2 ++ us, rows1 ++ rows2 ++ rows, rfl, n10.1, n10.2, fun z => ?_, upd_same, ?_, by rw [List.length_append, List.length_append]; omega, fun R hR => ?_, dk13.up (by omega), X79.trans (X912.trans (off_same_mono s910))⟩
      · have : H12 bl = some (.lst bvs) := (X79.trans X912).at nbl.1 nbl.2 eb7
        rw [z] at hp10
        rw [upd_get hp9 this] at hp10
        cases hp10
      · rw [List.map_append, List.map_append]
        exact dpAll_app (dpAll_app (dpAll_kt ((ext_kt dk11 X12).trans (KT.of s910)) _ _ (nlRs rows1) hU1) (dpAll_mono s910 _ _ hU2)) (dpAll_kt ((ext_kt dk9 X912).trans (KT.of s910)) _ _ (nlRs rows) hU)
      · rcases List.mem_append.mp hR with z | z
        · rcases List.mem_append.mp z with z | z
          · exact hok1 R z
          · exact hok2 R z
        · exact hok R z
    · rintro σ H10 ⟨ra, x9, us, rows, rfl, na1, na2, nab, e10, hU, hrl, hok, dk10, X10⟩
      have hB40 : ((B : Nat) : Int) < 10 ^ 40 := many40 (by omega)
      have hnlU := nlRs rows
      refine ⟨.ref d, rfl, .ref wa, rfl, d, c, wa, _, M, rfl, by omega, dk10, (by rw [off_get nwa.1 nwa.2]; exact X10.at nwa.1 nwa.2 ew7), by omega, by omega, fun v1 a1 H11 dk11 X11 g1 o1 => ?_⟩
      have o1 : OpdOk (M + 2) a1 := opd_up o1 (by omega)
      -- the ends
      refine ⟨.ref d, rfl, _, rfl, d, c, _, B, rfl, by omega, hB40, by omega, dk11, fun r12 H12 r120 r121 dk12 X12 => ?_⟩
      obtain ⟨j1, rfl⟩ := Int.eq_ofNat_of_zero_le r120
      refine ⟨(by show 2 ≤ sizeLine; decide), fun t1 ht1 => ?_⟩
      have s13 := same_new (o := .tup [.str "jump", .int (j1 : Int)]) ht1
      have gj : Dp K (upd H12 t1 (.tup [.str "jump", .int (j1 : Int)])) (.ref t1) (Stp.jp j1).D := dp_tupN ht1 (.cons (.str _) (.cons (.int _) .nil))
      have dk13 := dk12.same s13
      generalize upd H12 t1 (.tup [.str "jump", .int (j1 : Int)]) = H13 at s13 gj dk13 ⊢
      refine ⟨v1, rfl, .ref d, rfl, _, rfl, d, c, _, B, rfl, by omega, hB40, by omega, dk13, fun r14 H14 r140 r141 dk14 X14 => ?_⟩
      obtain ⟨j2, rfl⟩ := Int.eq_ofNat_of_zero_le r140
      refine ⟨.ref d, rfl, _, rfl, d, c, _, B, rfl, by omega, hB40, by omega, dk14, fun r15 H15 r150 r151 dk15 X15 => ?_⟩
      obtain ⟨j3, rfl⟩ := Int.eq_ofNat_of_zero_le r150
      have k35 : KT H13 H15 := (ext_kt dk13 X14).trans (ext_kt dk14 X15)
      have X1115 : Ext d c H11 H15 := X12.trans ((off_same_mono s13).trans (X14.trans X15))
      have g1 := dp_kt (ext_kt dk11 X1115) _ _ (nlO a1) g1
      have gj := dp_kt k35 _ _ (nlE _) gj
      refine ⟨(by show 4 ≤ sizeLine; decide), fun t2 ht2 => ?_⟩
      have s16 := same_new (o := .tup [.str "branch", v1, .int (j2 : Int), .int (j3 : Int)]) ht2
      have gb : Dp K (upd H15 t2 (.tup [.str "branch", v1, .int (j2 : Int), .int (j3 : Int)])) (.ref t2) (Stp.br a1 j2 j3).D := dp_tupN ht2 (.cons (.str _) (.cons g1 (.cons (.int _) (.cons (.int _) .nil))))
      have gj := dp_mono s16 _ _ gj
      have g1 := dp_mono s16 _ _ g1
      have dk16 := dk15.same s16
      have X1116 : Ext d c H11 (upd H15 t2 (.tup [.str "branch", v1, .int (j2 : Int), .int (j3 : Int)])) := X1115.trans (off_same_mono s16)
      generalize upd H15 t2 (.tup [.str "branch", v1, .int (j2 : Int), .int (j3 : Int)]) = H16 at s16 gb gj g1 dk16 X1116 ⊢
      refine ⟨(by show 2 ≤ sizeLine; decide), fun le hle => ?_⟩
      have s17 := same_new (o := .lst [.ref t1, .ref t2]) hle
      have ele : (upd H16 le (.lst [.ref t1, .ref t2])) le = some (.lst [.ref t1, .ref t2]) := upd_same
      have gb := dp_mono s17 _ _ gb
      have gj := dp_mono s17 _ _ gj
      have g1 := dp_mono s17 _ _ g1
      have dk17 := dk16.same s17
      have X717 := X10.trans (X11.trans (X1116.trans (off_same_mono s17)))
      have X1017 := X11.trans (X1116.trans (off_same_mono s17))
      generalize upd H16 le (.lst [.ref t1, .ref t2]) = H17 at s17 ele gb gj g1 dk17 X717 X1017 ⊢
      have eb17 := X717.at nbl.1 nbl.2 eb7
      have hU := dpAll_kt (ext_kt dk10 X1017) _ _ hnlU hU
      -- the block
      refine ⟨.ref bl, rfl, .inl ⟨rfl, _, .inl (.inl eb17)⟩, .ref ra, rfl, ra, us, rfl, .inl ⟨.inl (.inl (X1017.at na1 na2 e10)), fun t7 ht7 => ?_⟩⟩
      have s18 := same_new (o := .tup us) ht7
      have g7 : Dp K (upd H17 t7 (.tup us)) (.ref t7) (.tuple (rows.map Rw.D)) := dp_tupN ht7 hU
      have gb := dp_mono s18 _ _ gb
      have gj := dp_mono s18 _ _ gj
      have g1 := dp_mono s18 _ _ g1
      have ele := s18 _ _ ele
      have dk18 := dk17.same s18
      have X718 := X717.trans (off_same_mono s18)
      generalize upd H17 t7 (.tup us) = H18 at s18 g7 gb gj g1 ele dk18 X718 ⊢
      refine ⟨.ref d, rfl, .ref le, rfl, .ref le, rfl, le, le, _, _, rfl, rfl, ele, ele, (by show 4 ≤ sizeLine; decide), fun l9 hl9 => ?_⟩
      generalize eH19 : upd H18 l9 _ = H19
      have eH19 : H19 = upd H18 l9 (.lst [.ref t1, .ref t2, .ref t1, .ref t2]) := eH19.symm
      have s19 : Same H18 H19 := by rw [eH19]; exact same_new hl9
      have el9 : H19 l9 = some (.lst [.ref t1, .ref t2, .ref t1, .ref t2]) := by rw [eH19]; exact upd_same
      have gb := dp_mono s19 _ _ gb
      have gj := dp_mono s19 _ _ gj
      have g1 := dp_mono s19 _ _ g1
      have g7 := dp_mono s19 _ _ g7
      have dk19 := dk18.same s19
      have X719 := X718.trans (off_same_mono s19)
      clear eH19
      refine ⟨v1, rfl, (by show 2 ≤ sizeLine; decide), fun t3 ht3 => ?_⟩
      have s20 := same_new (o := .tup [.str "return", v1]) ht3
      have gr : Dp K (upd H19 t3 (.tup [.str "return", v1])) (.ref t3) (Stp.rt (some a1)).D := dp_tupN ht3 (.cons (.str _) (.cons g1 .nil))
      have gb := dp_mono s20 _ _ gb
      have gj := dp_mono s20 _ _ gj
      have g7 := dp_mono s20 _ _ g7
      have el9 := s20 _ _ el9
      have dk20 := dk19.same s20
      have X720 := X719.trans (off_same_mono s20)
      generalize upd H19 t3 (.tup [.str "return", v1]) = H20 at s20 gr gb gj g7 el9 dk20 X720 ⊢
      refine ⟨(by show 2 ≤ sizeLine; decide), fun t5 ht5 => ?_⟩
      have s21 := same_new (o := .tup [.str "halt", .int 3]) ht5
      have gh : Dp K (upd H20 t5 (.tup [.str "halt", .int 3])) (.ref t5) (Stp.ht 3).D := dp_tupN ht5 (.cons (.str _) (.cons (.int _) .nil))
      have gr := dp_mono s21 _ _ gr
      have gb := dp_mono s21 _ _ gb
      have gj := dp_mono s21 _ _ gj
      have g7 := dp_mono s21 _ _ g7
      have el9 := s21 _ _ el9
      have dk21 := dk20.same s21
      have X721 := X720.trans (off_same_mono s21)
      generalize upd H20 t5 (.tup [.str "halt", .int 3]) = H21 at s21 gh gr gb gj g7 el9 dk21 X721 ⊢
      refine ⟨(by show 2 ≤ sizeLine; decide), fun l13 hl13 => ?_⟩
      have s22 := same_new (o := .lst [.ref t3, .ref t5]) hl13
      have e13 : (upd H21 l13 (.lst [.ref t3, .ref t5])) l13 = some (.lst [.ref t3, .ref t5]) := upd_same
      refine ⟨l9, l13, _, _, rfl, rfl, s22 _ _ el9, e13, (by show 6 ≤ sizeLine; decide), fun l14 hl14 => ?_⟩
      have s23 := s22.trans (same_new (o := .lst [.ref t1, .ref t2, .ref t1, .ref t2, .ref t3, .ref t5]) hl14)
      have all : DpAll K (upd (upd H21 l13 (.lst [.ref t3, .ref t5])) l14 (.lst [.ref t1, .ref t2, .ref t1, .ref t2, .ref t3, .ref t5])) [.ref t1, .ref t2, .ref t1, .ref t2, .ref t3, .ref t5] (([.jp j1, .br a1 j2 j3, .jp j1, .br a1 j2 j3, .rt (some a1), .ht 3] : List Stp).map Stp.D) :=
        dpAll_mono s23 _ _ (.cons gj (.cons gb (.cons gj (.cons gb (.cons gr (.cons gh .nil))))))
      have g7 := dp_mono s23 _ _ g7
      have n14 := (dk21.same s22).has hl14
      have e14 : (upd (upd H21 l13 (.lst [.ref t3, .ref t5])) l14 (.lst [.ref t1, .ref t2, .ref t1, .ref t2, .ref t3, .ref t5])) l14 = some (.lst [.ref t1, .ref t2, .ref t1, .ref t2, .ref t3, .ref t5]) := upd_same
      generalize eH23 : upd (upd H21 l13 (.lst [.ref t3, .ref t5])) l14 _ = H23
      have eH23 : upd (upd H21 l13 (.lst [.ref t3, .ref t5])) l14 (.lst [.ref t1, .ref t2, .ref t1, .ref t2, .ref t3, .ref t5]) = H23 := eH23
      rw [eH23] at s23 all g7 e14
      have dk23 := dk21.same s23
      have X723 := X721.trans (off_same_mono s23)
      clear eH23
      refine ⟨d, c, _, _, rfl, dk23, by omega, .inr ⟨l14, [.ref t1, .ref t2, .ref t1, .ref t2, .ref t3, .ref t5], rfl, .inl (.inl (by rw [off_get n14.1 n14.2]; exact e14)), Nat.zero_lt_succ _, (by show 6 ≤ 1000; decide), fun j y H24 hy dk24 X24 => ⟨(by show 2 ≤ sizeLine; decide), fun t9 ht9 => ?_⟩⟩⟩
      obtain ⟨E1, hE, hyE⟩ := dpAll_map_get all hy
      have oe : StpOk (M + 2) B E1 := by
        have hm := List.mem_of_getElem? hE
        simp only [List.mem_cons, List.not_mem_nil, or_false] at hm
        rcases hm with rfl | rfl | rfl | rfl | rfl | rfl
        · show j1 < B
          omega
        · exact ⟨o1, by omega, by omega⟩
        · show j1 < B
          omega
        · exact ⟨o1, by omega, by omega⟩
        · intro o ho
          cases ho
          exact o1
        · exact ⟨by decide, by decide⟩
      have nl7 : noL (.tuple (rows.map Rw.D)) = true := by simpa only [noL] using hnlU
      have k24 := ext_kt dk23 X24
      have s25 := same_new (o := .tup [.ref t7, y]) ht9
      have g9 : Dp K (upd H24 t9 (.tup [.ref t7, y])) (.ref t9) (Blk.D ⟨rows, E1⟩) := dp_tupN ht9 (.cons (dp_kt k24 _ _ nl7 g7) (.cons (dp_kt k24 _ _ (nlE _) hyE) .nil))
      have X725 := X723.trans (X24.trans (off_same_mono s25))
      have dk25 := dk24.same s25
      have eb25 := X725.at nbl.1 nbl.2 eb7
      have ef25 := X725.at nfa.1 nfa.2 ef7
      have hbvl := dpAll_len hBs
      rw [List.length_map] at hbvl
      refine ⟨bl, _, _, rfl, rfl, eb25, small_line (by omega), bvs ++ [.ref t9], bs ++ [⟨rows, E1⟩], _, _, _, _, _, rfl, upd_same, ?_, by rw [List.length_append, hbl']; rfl, fun b hb => ?_, fun b hb => ?_, (by rw [upd_ne nfb]; exact ef25), (dk25.upd nbl.1 nbl.2).up (by omega), (X7.trans X725).mut hbl⟩
      · have ke := KT.lst (o := .lst (bvs ++ [.ref t9])) eb25
        rw [List.map_append]
        exact dpAll_app (dpAll_kt ((ext_kt dk7 X725).trans ke) _ _ (noLAll_map fun b _ => nlB b) hBs) (.cons (dp_kt ke _ _ (nlB _) g9) .nil)
      · rcases List.mem_append.mp hb with z | z
        · exact hbok b z
        · rw [List.mem_singleton.mp z]
          exact ⟨fun R hR => (hok R hR).1, oe, by show rows.length ≤ 15; omega⟩
      · rcases List.mem_append.mp hb with z | z
        · exact hbap b z
        · rw [List.mem_singleton.mp z]
          exact fun R hR => (hok R hR).2
  · rintro σ H3' ⟨bvs, bs, x7, x8, x9, x10, x11, rfl, eb3, hBs, hbl3, hbok, hbap, ef3, dk3', X3'⟩
    have hbB : bs.length = B := by omega
    refine ⟨_, rfl, .ref bl, rfl, bl, bvs, rfl, .inl ⟨.inl (.inl eb3), fun t4 ht4 => ⟨(by show 2 ≤ sizeLine; decide), fun t5 ht5 => ?_⟩⟩⟩
    have s4' := same_new (o := .tup bvs) ht4
    have s5' := same_new (o := .tup [.int (cnt : Int), .ref t4]) ht5
    refine q _ ⟨cnt, bs⟩ (M + 2) _ (((dk3'.same s4').same s5').up (by omega)) (X3.trans (X3'.trans (off_same_mono (s4'.trans s5')))) (dp_tupN ht5 (.cons (.int _) (.cons (dp_tupN ht4 hBs) .nil))) ⟨by show cnt ≤ 3; omega, by show cnt ≤ M + 2; omega, by omega, by show 0 < bs.length; omega, by show bs.length ≤ 9; omega, fun b hb => ?_⟩ hbap
    show BkOk (M + 2) bs.length b
    rw [hbB]
    exact hbok b hb
end
end K39

set_option maxHeartbeats 4000000
/-! HP: defs and methods that may raise; raise of an own error without fields; isinstance of the caught one. -/
namespace HG
open PySem PySem.Spec PyProof.Rows L2 PySem.ErrX
section
variable {P : Program} {w : World} {K : PySem.W.Frag} {mg : Str → Option Value} {base : Heap}
/-- a def that may raise, by its body -/
theorem okX {x qual : Str} {params : Arguments} {body : List Stmt} {scope : Scope} {dvs : List V} {kws : List (Str × V)} {f : Addr} {fd : FuncData} {N ps : List Str} {k : Nat} {sp : Sp}
    (F : FunD K x qual params body scope dvs kws f fd) (S : FnScope N ps scope) (len : ∀ vs H Q E, sp vs H Q E → vs.length = ps.length)
    (hbody : ∀ (cdv : Value) (A : Around) (outer : List Env) (s : Shared) (H : Hp) (vs : List V) (Q : VK) (E : XK), Room k (A.deeper (envOfC qual scope s.heap.objs.size f cdv)) → sp vs H Q E →
      ∃ t, PSs (cxOf (L2.CX P w) P w K mg base N qual scope f cdv A outer s H E) body t ∧ t { nx := fun _ H' => Q .non H', rt := Q } (start N vs) H) : FnOk P w K mg base (L2.CX P w) (k + 1) f fd ps sp := by
  obtain ⟨oc, od, dV, kV, doc, pm, an, cdv, ct, osl, rfl, lk, hcd, _, _⟩ := F.ex
  exact fn_of lk hcd S len fun A outer s H vs Q E hr hsp => hbody cdv A outer s H vs Q E hr hsp
structure CalX (P : Program) (w : World) (K : PySem.W.Frag) (mg : Str → Option Value) (base : Heap) (x : Str) (k : Nat) (ps : List Str) (sp : Sp) : Prop where
  ex : ∃ fd, FnOk P w K mg base (L2.CX P w) k (He.ga K x) fd ps sp ∧ Binds K fd ps []
  gl : mg x = some (.ref (He.ga K x))
  kp : PySem.W.keepIn K (.ref (He.ga K x)) = true
structure MetX (P : Program) (w : World) (K : PySem.W.Frag) (mg : Str → Option Value) (base : Heap) (k : Nat) (C : Addr) (m : Str) (sp : Sp) : Prop where
  ex : ∃ (f : Addr) (fd : FuncData) (ps : List Str), Cls K C ∧ Meth K C m f ∧ FnOk P w K mg base (L2.CX P w) k f fd ps sp ∧ Binds K fd ps []
end
section
variable {X : Cx} {k j : Nat} {C : Addr} {x m : Str} {ps : List Str} {sp : Sp} {E : XK} {W : WX} {p pos apos : Pos} {e o : Expr} {es : List Expr} {ta : TE} {t : TA}
/-- in a body that hands its errors on: W of Takes -/
theorem pe_mtX {pl : Sem Bool} (c : MetX X.prog X.w X.K X.mg X.base k C m sp) (hr : Room j X.A) (hk : k ≤ j) (tk : Takes X (fun cls d _ H => E cls d H)) (he : PE X o ta) (ha : PA X (e :: es) t)
    (hst : starEach (e :: es) X.env = (false, eval e X.env) :: starEach es X.env := by rfl) (hpl : (backTo pos (starEach es X.env)).any (·.1) = false := by rfl)
    (ht : eval (.Call (.Attribute o m apos) (e :: es) [] pos) X.env = (do
      let ov ← eval o X.env
      standAt apos.atName
      let (f, first) ← holding [ov] (getMethod ov m pl)
      callWith pos f first (backTo pos (starEach (e :: es) X.env)) (backToKw pos (keywordEach [] X.env))) := by rfl) :
    PE X (.Call (.Attribute o m apos) (e :: es) [] pos) (tMeth C m sp [] E ta t) := by
  obtain ⟨f, fd, ps, c1, c2, F, b⟩ := c.ex
  exact pe_meth he c1 c2 F (hr.mono hk) b .nil (passes_call tk fun _ _ _ _ h => h) ha hst hpl ht
theorem pe_mt0X {pl : Sem Bool} (c : MetX X.prog X.w X.K X.mg X.base k C m sp) (hr : Room j X.A) (hk : k ≤ j) (tk : Takes X (fun cls d _ H => E cls d H)) (he : PE X o ta)
    (ht : eval (.Call (.Attribute o m apos) [] [] pos) X.env = (do
      let ov ← eval o X.env
      standAt apos.atName
      let (f, first) ← holding [ov] (getMethod ov m pl)
      callWith pos f first (backTo pos (starEach [] X.env)) (backToKw pos (keywordEach [] X.env))) := by rfl) :
    PE X (.Call (.Attribute o m apos) [] [] pos) (tMeth C m sp [] E ta tNil) := by
  obtain ⟨f, fd, ps, c1, c2, F, b⟩ := c.ex
  exact pe_meth0 he c1 c2 F (hr.mono hk) b .nil (passes_call tk fun _ _ _ _ h => h) ht
theorem pe_calX (c : CalX X.prog X.w X.K X.mg X.base x k ps sp) (hr : Room k X.A) (tk : Takes X (fun cls d _ H => E cls d H)) (hg : Gl X x) (ha : PA X (e :: es) t)
    (hdb : (x == ("__debug__" : Str)) = false := by decide)
    (he : starEach (e :: es) X.env = (false, eval e X.env) :: starEach es X.env := by rfl)
    (hpl : (backTo pos (starEach es X.env)).any (·.1) = false := by rfl) : PE X (.Call (.Name x p) (e :: es) [] pos) (tCall sp [] E t) := by
  obtain ⟨fd, F, b⟩ := c.ex
  exact pe_call F hr hg c.gl c.kp b .nil (passes_call tk fun _ _ _ _ h => h) ha hdb he hpl
/-- in a try -/
theorem pe_calS (c : CalX X.prog X.w X.K X.mg X.base x k ps sp) (hr : Room k X.A) (tk : Takes X W) (hg : Gl X x) (ha : PA X (e :: es) t)
    (hdb : (x == ("__debug__" : Str)) = false := by decide)
    (he : starEach (e :: es) X.env = (false, eval e X.env) :: starEach es X.env := by rfl)
    (hpl : (backTo pos (starEach es X.env)).any (·.1) = false := by rfl) : PE X (.Call (.Name x p) (e :: es) [] pos) (tCallS sp (WE W) t) := by
  obtain ⟨fd, F, b⟩ := c.ex
  exact pe_callS F hr hg c.gl c.kp b (fun σ => passAt tk σ) ha hdb he hpl
/-- C() to be raised -/
theorem pmk_err0 {q : Str} {args : Arguments} {body : List Stmt} {scope : Scope} (E : ErrC X.prog X.K X.mg x q args body scope []) (R : ExcC X.K (He.ga X.K x)) (ty : PySem.W.typeIn X.K (.ref (He.ga X.K x)) = some (.type "type")) (hr : Room 1 X.A) (hg : Gl X x)
    (hb : ∀ (e : Value) (doc pm ct : Value) (an : Option Addr) (cda cc : Addr), bindArgs (PySem.W.ksFn "__init__" q args body scope .none .none doc pm an (.ref cda) ct cc) ⟨[e], []⟩ = pure [(("self" : Str), e)])
    (hdb : (x == ("__debug__" : Str)) = false := by decide) :
    PMk X (.Call (.Name x p) [] [] pos) (fun _ H Q => Q (.ref (He.ga X.K x)) none H) := by
  obtain ⟨fI, T⟩ := E.t
  intro pins s σ H Q I h
  refine wpAny_Call_Name_kw (ld_glob I hg E.gl ?_ hdb)
  refine PySem.W.callWith_K0 I.kIn T.kC ?_
  have e0 := I.env0
  obtain ⟨mb, hmb, hbb⟩ := e0.mod.blt
  have bk : ∀ b o, X.base.get? b = some o → s.heap.get? b = some o := fun b o e => (e0.bs b o e).1
  obtain ⟨hp, g, dr, tk, os⟩ := s
  refine err_make (g := g) (d := dr) (os := os) T I.kIn hr (e0.mod.glob.keeps bk) E.sp (hmb.keeps bk) ((hbb _ (by decide)).trans PyProof.Rows.Boot.«super») (e0.mod.nolimit.keeps bk) (us := []) rfl (Nat.zero_le _) hb (fun h' tk' k hat => ?_)
  obtain ⟨L, _, at_⟩ := hat
  have ng : hp.get? (hp.objs.size + 1) = none := by
    cases z : hp.get? (hp.objs.size + 1) with
    | none => rfl
    | some o => exact absurd (Heap.lt_size z) (Nat.not_lt.mpr (Nat.le_succ _))
  rcases at_ with ⟨_, t1, ho⟩ | ⟨hne, _⟩
  · exact ⟨hp.objs.size + 1, _, _, ⟨hp, g, dr, tk, os⟩, H, .ref (He.ga X.K x), none, rfl, I, k, ng, ho, ⟨rfl, rfl⟩, rfl, rfl, I.hok.gone ng, rfl, I.bare, raises_own R.hs ty, h⟩
  · exact absurd rfl hne
def tRaise0 (W : WX) (C : Addr) : TS := fun _ σ H => W (.ref C) none σ H
theorem ps_raise0 {q : Str} {args : Arguments} {body : List Stmt} {scope : Scope} {pos2 : Pos} (hc : X.calm = true) (E : ErrC X.prog X.K X.mg x q args body scope []) (R : ExcC X.K (He.ga X.K x)) (ty : PySem.W.typeIn X.K (.ref (He.ga X.K x)) = some (.type "type")) (hr : Room 1 X.A) (tk : Takes X W) (hg : Gl X x)
    (hb : ∀ (e : Value) (doc pm ct : Value) (an : Option Addr) (cda cc : Addr), bindArgs (PySem.W.ksFn "__init__" q args body scope .none .none doc pm an (.ref cda) ct cc) ⟨[e], []⟩ = pure [(("self" : Str), e)])
    (hdb : (x == ("__debug__" : Str)) = false := by decide) :
    PS X (.Raise (some (.Call (.Name x p) [] [] pos)) none pos2) (tRaise0 W (He.ga X.K x)) := ps_raise hc tk (pmk_err0 E R ty hr hg hb hdb)
end
/-! ### isinstance(e, c), e the exception that the suite holds, without fields -/
def rIsC (K : PySem.W.Frag) (a : Addr) (cls : Value) (d : Option Addr) : List V → Hp → VK → Prop := fun xs H Q => ∃ (D : Addr) (c : V) (u : Value) (b : Bool), cls = .ref D ∧ d = none ∧ ExcC K D ∧ xs = [.ref a, c] ∧ ClsV c u ∧ PySem.W.kitOne K (.ref D) u = some b ∧ Q (.bl b) H
def rIsCT (K : PySem.W.Frag) (a : Addr) (cls : Value) (d : Option Addr) : List V → Hp → VK → Prop := fun xs H Q => ∃ (D tp : Addr) (cs : List V) (us : List Value) (b : Bool), cls = .ref D ∧ d = none ∧ ExcC K D ∧ xs = [.ref a, .ref tp] ∧ H tp = some (.tup cs) ∧ Paired ClsV cs us ∧ PySem.W.kitAny K (.ref D) us = some b ∧ Q (.bl b) H
section
variable {X : Cx} {a : Addr} {oe : Obj} {cls : Value} {d : Option Addr} {pn : List (Addr × Obj)}
theorem suite_at {pins : List (Addr × Obj)} {σ : L2.St} {H : Hp} {s : Shared} {D : Addr} (I : Inv (X.suite a ((a, oe) :: pn)) pins σ H s) (hz : Zc (.ref D) none oe) (hf : ∃ vs, oe.data = .fields vs) : PySem.W.InstAt s.heap a oe D none := by
  obtain ⟨hget, _⟩ := I.pin (a, oe) (List.mem_append.mpr (.inl List.mem_cons_self))
  obtain ⟨vs, hv⟩ := hf
  obtain ⟨oc, od, oda, osl⟩ := oe
  obtain ⟨h1, h2⟩ := hz
  dsimp only at h1 h2 hv
  subst h1 h2 hv
  exact ⟨hget, rfl, rfl, trivial⟩
theorem call_isC (hz : Zc cls d oe) (hf : ∃ vs, oe.data = .fields vs) : CallR (X.suite a ((a, oe) :: pn)) (.builtin "isinstance") (rIsC X.K a cls d) := by
  intro pins s σ H xs us Q I r h
  obtain ⟨D, c, u, b, rfl, rfl, C, rfl, k, e, q⟩ := h
  obtain ⟨u1, u2, rfl, r1, r2⟩ := vals2 r
  cases (show u1 = Value.ref a from r1)
  have e2 := k.eq r2
  subst e2
  exact PySem.W.kia_one (PySem.W.handS_kitx_exc C.hg C.hk C.hs C.hd C.ha C.hn C.ht C.hm) I.kIn (suite_at I hz hf) e (fun z => nomatch z) fun tk => ⟨.bl b, H, I.kept (t' := tk) fun _ _ z => z, rfl, q⟩
theorem call_isCT (hz : Zc cls d oe) (hf : ∃ vs, oe.data = .fields vs) : CallR (X.suite a ((a, oe) :: pn)) (.builtin "isinstance") (rIsCT X.K a cls d) := by
  intro pins s σ H xs us Q I r h
  obtain ⟨D, tp, cs, ws, b, rfl, rfl, C, rfl, hT, k, e, q⟩ := h
  obtain ⟨u1, u2, rfl, r1, r2⟩ := vals2 r
  cases (show u1 = Value.ref a from r1)
  cases (show u2 = Value.ref tp from r2)
  obtain ⟨_, its, rv, o, h1, h2, n, h3⟩ := (show ObjOk X.prog X.w H s.heap tp (.tup cs) from I.hok tp _ hT)
  have e3 := ClsV.all k rv
  subst e3
  obtain ⟨oc, od, dt, sl⟩ := o
  simp only at h2 h3
  subst h2 h3
  exact PySem.W.kia_tup (PySem.W.handS_kitx_exc C.hg C.hk C.hs C.hd C.ha C.hn C.ht C.hm) I.kIn (suite_at I hz hf) h1 e (fun z => nomatch z) fun tk => ⟨.bl b, H, I.kept (t' := tk) fun _ _ z => z, rfl, q⟩
end
end HG

set_option maxHeartbeats 4000000
namespace K39
open PySem PySem.Spec PyProof.Rows L2 HG P52
abbrev IR (K : PySem.W.Frag) : Value := .ref (He.ga K "InvalidRewrite")
/-- the place of an apply -/
def AtAp (g : Gr) (bD kD : PyData) (b k : Nat) (o : Option Nat) (f : Nat) (as : List Opd) : Prop := bD = .int (b : Int) ∧ kD = .int (k : Int) ∧ ∃ B, g.blocks[b]? = some B ∧ B.rows[k]? = some (.ap o f as)
theorem ap_word {R : Rw} (h : R.word = "apply") : ∃ v f as, R = .ap v f as := by
  cases R <;> first | exact ⟨_, _, _, rfl⟩ | (dsimp only [Rw.word] at h; exact absurd h (by decide +kernel))
theorem numB_nat {n : Nat} {D : PyData} (h : numB n D = true) : ∃ i : Nat, D = .int (i : Int) ∧ i < n := by
  cases D with
  | int i =>
    simp only [numB, Bool.and_eq_true, decide_eq_true_eq] at h
    obtain ⟨j, rfl⟩ := Int.eq_ofNat_of_zero_le h.1
    exact ⟨j, rfl, by omega⟩
  | _ => cases h
theorem numB_lt {n i : Nat} (h : i < n) : numB n (.int (i : Int)) = true := by
  simp only [numB, Bool.and_eq_true, decide_eq_true_eq]
  omega
section
variable {P : Program} {w : World} {K : PySem.W.Frag} {mg : Str → Option Value} {base : Heap}
def spAt (K : PySem.W.Frag) : Sp := fun vs H Q E => ∃ (vg vb vk : V) (g : Gr) (bD kD : PyData), vs = [vg, vb, vk, .str "apply"] ∧ Dp K H vg g.D ∧ Dp K H vb bD ∧ Dp K H vk kD ∧
  (∀ b k o f as z, AtAp g bD kD b k o f as → Dp K H z (Rw.ap o f as).D → Q z H) ∧ ((∀ b k o f as, ¬ AtAp g bD kD b k o f as) → E (IR K) none H)
set_option pp.maxSteps 600 in
theorem c_instruction_at (T : Txt w K mg) (hP : PrgOk file P) : CalX P w K mg base "instruction_at" 3 ["graph", "b", "k", "word"] (spAt K) := by
  obtain ⟨fd, F⟩ := T.d_instruction_at
  have C_is_number_below := c_is_number_below (P := P) (w := w) (base := base) T
  refine ⟨⟨fd, okX F sc_instruction_at (fun vs H Q E h => by repeat (first | (obtain ⟨e, _⟩ := h; subst e; rfl) | (obtain ⟨_, h⟩ := h))) (fun cdv A outer s H vs Q E hr h => ?_), F.bindsN fun _ _ _ _ _ _ us hl => match us, hl with | [_, _, _, _], _ => rfl⟩, T.g _ (by decide), F.kp⟩
  obtain ⟨vg, vb, vk, g, bD, kD, rfl, hg, hb, hk, q1, q2⟩ := h
  refine ⟨_, (pss_cons (ps_asg (pv 0) (pg_tupK (K := K) (n := 2) rfl rfl (pgs_cons (pg_name (i := 4) sc_instruction_at.nd rfl (.inl rfl)) (pgs_cons (pg_name (i := 5) sc_instruction_at.nd rfl (.inl rfl)) pgs_nil))))
      (pss_cons (ps_if (PW.pt (pw_or (pt_not (pt_val (pe_cal C_is_number_below (hr.mono (by omega)) (by rfl) (pa_cons (pv 1) (pa_cons (pe_callB (lenK (K := K) rfl) (by rfl) T.n_len (by decide +kernel) (pa_cons (pv 5) pa_nil)) pa_nil))))) (pw_or1 (pt_not (pt_val (pe_cal C_is_number_below (hr.mono (by omega)) (by rfl) (pa_cons (pv 2) (pa_cons (pe_callB (lenK (K := K) rfl) (by rfl) T.n_len (by decide +kernel) (pa_cons (pe_ix (ix_P (K := K) rfl) (pe_ix (ix_P (K := K) rfl) (pv 5) (pv 1) (fun _ _ => rfl)) pe_int (fun _ _ => rfl)) pa_nil)) pa_nil)))))))) (pss_one (ps_raise0 rfl (T.e_InvalidRewrite hP) T.x_InvalidRewrite.ex T.x_InvalidRewrite.ty (hr.mono (by omega)) (takes_of rfl rfl rfl rfl) (by rfl) (fun _ _ _ _ _ _ _ => rfl))) pss_nil)
      (pss_cons (ps_if (pt_cmpR op_ne (pe_ix (ix_P (K := K) rfl) (pe_ix (ix_P (K := K) rfl) (pe_ix (ix_P (K := K) rfl) (pe_ix (ix_P (K := K) rfl) (pv 5) (pv 1) (fun _ _ => rfl)) pe_int (fun _ _ => rfl)) (pv 2) (fun _ _ => rfl)) pe_int (fun _ _ => rfl)) (pv 3) (nomark _)) (pss_one (ps_raise0 rfl (T.e_InvalidRewrite hP) T.x_InvalidRewrite.ex T.x_InvalidRewrite.ty (hr.mono (by omega)) (takes_of rfl rfl rfl rfl) (by rfl) (fun _ _ _ _ _ _ _ => rfl))) pss_nil)
      (pss_one (ps_ret (pe_ix (ix_P (K := K) rfl) (pe_ix (ix_P (K := K) rfl) (pe_ix (ix_P (K := K) rfl) (pv 5) (pv 1) (fun _ _ => rfl)) pe_int (fun _ _ => rfl)) (pv 2) (fun _ _ => rfl))))))), ?_⟩
  cases hg with
  | @tup ag xg _ sqg hag =>
  cases hag with
  | cons y0 r0 =>
  cases r0 with
  | cons y1 r1 =>
  cases r1
  cases y1 with
  | @tup ab xb _ sqb hab =>
  refine ⟨.ref ag, rfl, ag, _, rfl, sqg, rfl, _, _, rfl, _, _, rfl, rfl, ?_⟩
  have hlb := dpAll_len hab
  rw [List.length_map] at hlb
  have hgb : Dp K H (.ref ab) (.tuple (g.blocks.map Blk.D)) := .tup sqb hab
  refine ⟨vb, rfl, .ref ab, rfl, .ref ab, xb.length, rfl, .inr ⟨xb, sqb, rfl⟩, vb, bD, xb.length, rfl, hb, _, rfl, ?_⟩
  cases hb1 : numB xb.length bD with
  | false =>
    refine iteT (q2 fun b k o f as h => ?_)
    obtain ⟨rfl, _, B, hB, _⟩ := h
    have hlt := (List.getElem?_eq_some_iff.mp hB).1
    rw [numB_lt (by omega)] at hb1
    cases hb1
  | true =>
    obtain ⟨b, rfl, hbl⟩ := numB_nat hb1
    cases hb
    obtain ⟨B, hB⟩ : ∃ B, g.blocks[b]? = some B := ⟨_, List.getElem?_eq_getElem (by omega)⟩
    have hBm : (g.blocks.map Blk.D)[b]? = some B.D := by rw [List.getElem?_map, hB]; rfl
    refine iteF ⟨vk, rfl, .ref ab, rfl, .int (b : Int), rfl, _, b, _, hgb, rfl, hBm, fun zb hzb => ⟨_, 0, _, hzb, rfl, rfl, fun zr hzr => ?_⟩⟩
    cases hzr with
    | @tup ar xr _ sqr har =>
    have hlr := dpAll_len har
    rw [List.length_map] at hlr
    refine ⟨.ref ar, xr.length, rfl, .inr ⟨xr, sqr, rfl⟩, vk, kD, xr.length, rfl, hk, _, rfl, ?_⟩
    cases hk1 : numB xr.length kD with
    | false =>
      refine iteT (q2 fun b2 k o f as h => ?_)
      obtain ⟨e, rfl, B2, hB2, hR⟩ := h
      have e2 : b2 = b := by injection e with e; omega
      rw [e2, hB] at hB2
      cases hB2
      have hlt := (List.getElem?_eq_some_iff.mp hR).1
      rw [numB_lt (by omega)] at hk1
      cases hk1
    | true =>
      obtain ⟨k, rfl, hkl⟩ := numB_nat hk1
      cases hk
      obtain ⟨R, hR⟩ : ∃ R, B.rows[k]? = some R := ⟨_, List.getElem?_eq_getElem (by omega)⟩
      have hRm : (B.rows.map Rw.D)[k]? = some R.D := by rw [List.getElem?_map, hR]; rfl
      refine iteF ⟨.ref ab, rfl, .int (b : Int), rfl, _, b, _, hgb, rfl, hBm, fun zb2 hzb2 => ⟨_, 0, _, hzb2, rfl, rfl, fun zr2 hzr2 => ⟨.int (k : Int), rfl, _, k, _, hzr2, rfl, hRm, fun zR hzR => ⟨_, 0, _, hzR, rfl, rfl, fun zw hzw => ?_⟩⟩⟩⟩
      cases hzw
      refine ⟨_, rfl, rfl, _, rfl, ?_⟩
      show if (!decide (V.str R.word = V.str "apply")) = true then _ else _
      rw [str_dec]
      cases hw : decide (R.word = "apply") with
      | false =>
        refine iteT (q2 fun b2 k2 o f as h => ?_)
        obtain ⟨e, e', B2, hB2, hR2⟩ := h
        have e2 : b2 = b := by injection e with e; omega
        have e3 : k2 = k := by injection e' with e'; omega
        rw [e2, hB] at hB2
        cases hB2
        rw [e3, hR] at hR2
        cases hR2
        cases hw
      | true =>
        obtain ⟨o, f, as, rfl⟩ := ap_word (of_decide_eq_true hw)
        exact iteF ⟨.ref ab, rfl, .int (b : Int), rfl, _, b, _, hgb, rfl, hBm, fun zb3 hzb3 => ⟨_, 0, _, hzb3, rfl, rfl, fun zr3 hzr3 => ⟨.int (k : Int), rfl, _, k, _, hzr3, rfl, hRm, fun zR3 hzR3 => q1 b k o f as zR3 ⟨rfl, rfl, B, hB, hR⟩ hzR3⟩⟩⟩
/-! ### devirtualized -/
def grCall (g : Gr) (b k : Nat) (B : Blk) (o : Option Nat) (as : List Opd) (x : Str) : Gr := ⟨g.count, g.blocks.take b ++ [⟨B.rows.take k ++ [.ca o x as] ++ B.rows.drop (k + 1), B.stop⟩] ++ g.blocks.drop (b + 1)⟩
theorem grCall_D (g : Gr) (b k : Nat) (B : Blk) (o : Option Nat) (as : List Opd) (x : Str) : (grCall g b k B o as x).D = .tuple [.int (g.count : Int), .tuple ((g.blocks.map Blk.D).take b ++ [.tuple [.tuple ((B.rows.map Rw.D).take k ++ [.tuple [.str "call", ovD o, .str x, .tuple (as.map oD)]] ++ (B.rows.map Rw.D).drop (k + 1)), B.stop.D]] ++ (g.blocks.map Blk.D).drop (b + 1))] := by
  have e1 : (B.rows.take k ++ [Rw.ca o x as] ++ B.rows.drop (k + 1)).map Rw.D = (B.rows.map Rw.D).take k ++ [.tuple [.str "call", ovD o, .str x, .tuple (as.map oD)]] ++ (B.rows.map Rw.D).drop (k + 1) := by
    rw [List.map_append, List.map_append, List.map_take, List.map_drop]
    rfl
  have e2 : (g.blocks.take b ++ [(⟨B.rows.take k ++ [Rw.ca o x as] ++ B.rows.drop (k + 1), B.stop⟩ : Blk)] ++ g.blocks.drop (b + 1)).map Blk.D = (g.blocks.map Blk.D).take b ++ [.tuple [.tuple ((B.rows.take k ++ [Rw.ca o x as] ++ B.rows.drop (k + 1)).map Rw.D), B.stop.D]] ++ (g.blocks.map Blk.D).drop (b + 1) := by
    rw [List.map_append, List.map_append, List.map_take, List.map_drop]
    rfl
  show PyData.tuple [_, .tuple ((g.blocks.take b ++ [(⟨B.rows.take k ++ [Rw.ca o x as] ++ B.rows.drop (k + 1), B.stop⟩ : Blk)] ++ g.blocks.drop (b + 1)).map Blk.D)] = _
  rw [e2, e1]
  rfl
/-- the facts: what they tell of the targets of one argument -/
structure FaOk (K : PySem.W.Frag) (H : Hp) (f : Addr) (X : Option Str) : Prop where
  ex : ∃ kvs, H f = some (.dT kvs) ∧ ((∃ x v, X = some x ∧ valV kvs (kT 1) = some v ∧ Dp K H v (.tuple [.str x]) ∧ OkF x ∧ ntB (.tuple [.str x]) = true ∧ SeqAt.shaped (.tuple [.str x]) = true) ∨
    (X = none ∧ (valV kvs (kT 1) = none ∨ ∃ v D, valV kvs (kT 1) = some v ∧ Dp K H v D ∧ AnsOk D ∧ SeqAt.shaped D = true ∧ (ntB D = true → ∃ ds, D = .tuple ds ∧ ds.length ≠ 1))))
theorem FaOk.mono {K : PySem.W.Frag} {H H' : Hp} {f : Addr} {X : Option Str} (h : FaOk K H f X) (s : Same H H') : FaOk K H' f X := by
  obtain ⟨kvs, e, h⟩ := h.ex
  refine ⟨kvs, s _ _ e, ?_⟩
  rcases h with ⟨x, v, h1, h2, h3, h4⟩ | ⟨h1, h2 | ⟨v, D, h2, h3, h4⟩⟩
  · exact .inl ⟨x, v, h1, h2, dp_mono s _ _ h3, h4⟩
  · exact .inr ⟨h1, .inl h2⟩
  · exact .inr ⟨h1, .inr ⟨v, D, h2, dp_mono s _ _ h3, h4⟩⟩
def spDev (K : PySem.W.Frag) : Sp := fun vs H Q E => ∃ (vg vb vk : V) (g : Gr) (bD kD : PyData) (f : Addr) (X : Option Str), vs = [vg, vb, vk, .ref f] ∧ Dp K H vg g.D ∧ Dp K H vb bD ∧ Dp K H vk kD ∧ GAp g ∧ g.blocks.length ≤ 1000 ∧ (∀ B ∈ g.blocks, B.rows.length ≤ 1000) ∧ FaOk K H f X ∧
  (∀ b k o w as B x, bD = .int (b : Nat) → kD = .int (k : Nat) → g.blocks[b]? = some B → B.rows[k]? = some (.ap o w as) → X = some x → ∀ z H', Same H H' → Dp K H' z (grCall g b k B o as x).D → Q z H') ∧
  ((X = none ∨ ∀ b k o f as, ¬ AtAp g bD kD b k o f as) → ∀ H', Same H H' → E (IR K) none H')
set_option pp.maxSteps 600 in
theorem c_devirtualized (T : Txt w K mg) (hP : PrgOk file P) : CalX P w K mg base "devirtualized" 6 ["graph", "b", "k", "facts"] (spDev K) := by
  obtain ⟨fd, F⟩ := T.d_devirtualized
  have C_instruction_at := c_instruction_at (P := P) (w := w) (base := base) T hP
  have C_known_answer := c_known_answer (P := P) (w := w) (base := base) T
  refine ⟨⟨fd, okX F sc_devirtualized (fun vs H Q E h => by repeat (first | (obtain ⟨e, _⟩ := h; subst e; rfl) | (obtain ⟨_, h⟩ := h))) (fun cdv A outer s H vs Q E hr h => ?_), F.bindsN fun _ _ _ _ _ _ us hl => match us, hl with | [_, _, _, _], _ => rfl⟩, T.g _ (by decide), F.kp⟩
  obtain ⟨vg, vb, vk, g, bD, kD, f, X, rfl, hg, hb, hk, hap, hl, hlr, hf, q1, q2⟩ := h
  refine ⟨_, (pss_cons (ps_asg (pe_calX C_instruction_at (hr.mono (by omega)) (takes_of rfl rfl rfl rfl) (by rfl) (pa_cons (pv 0) (pa_cons (pv 1) (pa_cons (pv 2) (pa_cons pe_str pa_nil))))) (pg_tupK (K := K) (n := 4) rfl rfl (pgs_cons (pg_name (i := 4) sc_devirtualized.nd rfl (.inl rfl)) (pgs_cons (pg_name (i := 5) sc_devirtualized.nd rfl (.inl rfl)) (pgs_cons (pg_name (i := 6) sc_devirtualized.nd rfl (.inl rfl)) (pgs_cons (pg_name (i := 7) sc_devirtualized.nd rfl (.inl rfl)) pgs_nil))))))
      (pss_cons (ps_set (i := 8) sc_devirtualized.nd rfl (.inl rfl) (pe_cal C_known_answer (hr.mono (by omega)) (by rfl) (pa_cons (pv 3) (pa_cons (pe_tup (pa_cons pe_str (pa_cons (pe_callB (lenK (K := K) rfl) (by rfl) T.n_len (by decide +kernel) (pa_cons (pv 7) pa_nil)) pa_nil))) pa_nil))))
      (pss_cons (ps_if (PW.pt (pw_or (pt_cmpR (op_eqDK (K := K) rfl hr.units) (pv 8) (pe_globI T.c_UNKNOWN rfl) (nomark _)) (pw_or1 (pt_cmpR op_ne (pe_callB (lenK (K := K) rfl) (by rfl) T.n_len (by decide +kernel) (pa_cons (pv 8) pa_nil)) pe_int (nomark _))))) (pss_one (ps_raise0 rfl (T.e_InvalidRewrite hP) T.x_InvalidRewrite.ex T.x_InvalidRewrite.ty (hr.mono (by omega)) (takes_of rfl rfl rfl rfl) (by rfl) (fun _ _ _ _ _ _ _ => rfl))) pss_nil)
      (pss_cons (ps_asg (pv 0) (pg_tupK (K := K) (n := 2) rfl rfl (pgs_cons (pg_name (i := 9) sc_devirtualized.nd rfl (.inl rfl)) (pgs_cons (pg_name (i := 10) sc_devirtualized.nd rfl (.inl rfl)) pgs_nil))))
      (pss_cons (ps_asg (pe_ix (ix_P (K := K) rfl) (pv 10) (pv 1) (fun _ _ => rfl)) (pg_tupK (K := K) (n := 2) rfl rfl (pgs_cons (pg_name (i := 11) sc_devirtualized.nd rfl (.inl rfl)) (pgs_cons (pg_name (i := 12) sc_devirtualized.nd rfl (.inl rfl)) pgs_nil))))
      (pss_cons (ps_set (i := 13) sc_devirtualized.nd rfl (.inl rfl) (pe_tup (pa_cons (pe_op (op_catP (K := K) rfl) (pe_op (op_catP (K := K) rfl) (pe_slice (sl_P (K := K) rfl) (pv 11) po_none (po_some (pv 2))) (pe_tup (pa_cons (pe_tup (pa_cons pe_str (pa_cons (pv 5) (pa_cons (pe_ix (ix_P (K := K) rfl) (pv 8) pe_int (fun _ _ => rfl)) (pa_cons (pv 7) pa_nil))))) pa_nil))) (pe_slice (sl_P (K := K) rfl) (pv 11) (po_some (pe_op op_add (pv 2) pe_int)) po_none)) (pa_cons (pv 12) pa_nil))))
      (pss_one (ps_ret (pe_tup (pa_cons (pv 9) (pa_cons (pe_tup (StX.pa_star (pe_slice (sl_P (K := K) rfl) (pv 10) po_none (po_some (pv 1))) (pa_cons (pv 13) (StX.pa_star (pe_slice (sl_P (K := K) rfl) (pv 10) (po_some (pe_op op_add (pv 1) pe_int)) po_none) pa_nil)))) pa_nil))))))))))), ?_⟩
  refine ⟨vg, rfl, vb, rfl, vk, rfl, vg, vb, vk, g, bD, kD, rfl, hg, hb, hk, fun b k o w as z hat hz => ?_, fun no => q2 (.inr no) H (Same.refl _)⟩
  obtain ⟨rfl, rfl, B, hB, hR⟩ := hat
  have h1 : as.length = 1 := hap B (List.mem_of_getElem? hB) _ (List.mem_of_getElem? hR)
  cases hz with
  | @tup az xz _ sqz haz =>
  cases haz with
  | cons y0 r0 =>
  cases r0 with
  | cons y1 r1 =>
  cases r1 with
  | cons y2 r2 =>
  cases r2 with
  | cons y3 r3 =>
  cases r3
  cases y0
  cases y2
  cases y3 with
  | @tup aa xa _ sqa haa =>
  have hla := dpAll_len haa
  rw [List.length_map, h1] at hla
  refine ⟨az, _, rfl, sqz, rfl, _, _, rfl, _, _, rfl, _, _, rfl, _, _, rfl, rfl, ?_⟩
  refine ⟨.ref f, rfl, .ref aa, rfl, .ref aa, xa.length, rfl, .inr ⟨xa, sqa, rfl⟩, (by show 2 ≤ sizeLine; decide), fun p hp => ?_⟩
  rw [hla]
  generalize eH : upd H p _ = H1
  have eH : H1 = upd H p (.tup (qT 1)) := eH.symm
  have s1 : Same H H1 := by rw [eH]; exact same_new hp
  have ep : H1 p = some (.tup (qT 1)) := by rw [eH]; exact upd_same
  have hf1 := hf.mono s1
  clear eH
  obtain ⟨kvs, ef, hf1⟩ := hf1.ex
  -- raised
  have no : ∀ (H2 : Hp), Same H1 H2 → X = none → E (IR K) none H2 := fun H2 s2 e => q2 (.inl e) H2 (s1.trans s2)
  refine ⟨f, p, kvs, 1, rfl, ef, ep, fun hv => ?_, fun v hv => ?_⟩
  · rcases hf1 with ⟨x, v, h1, h2, _⟩ | ⟨hX, _⟩
    · rw [h2] at hv
      cases hv
    · exact ⟨_, rfl, .int (-1), .int (-1), .int _, .int _, by decide, by decide, _, rfl, iteT (no H1 (Same.refl _) hX)⟩
  rcases hf1 with ⟨x, v', hX, h2, hD, hx, hnt, hsx⟩ | ⟨hX, h2 | ⟨v', D, h2, hD, hok, hsh, hno⟩⟩
  · rw [h2] at hv
    cases hv
    refine ⟨.tuple [.str x], hD, fun ds e => by cases e; exact ⟨by show 1 ≤ 1000; decide, fun z hz => by cases List.mem_singleton.mp hz; exact hx⟩, fun H2 s2 => ?_⟩
    rw [if_pos hnt]
    have s02 := s1.trans s2
    have hD2 := dp_mono s2 _ _ hD
    have hg2 := dp_mono s02 _ _ hg
    have haa2 : Dp K H2 (.ref aa) (.tuple (as.map oD)) := dp_mono s02 _ _ (.tup sqa haa)
    cases hb
    cases hk
    cases hD2 with
    | @tup av xv _ sqv hav =>
    have hfo : Dp K H2 (.ref av) (.tuple [.str x]) := .tup sqv hav
    have hlv := dpAll_len hav
    refine ⟨.ref av, rfl, .tuple [.str x], .int (-1), hfo, .int _, hsx, by decide, _, rfl, iteF ⟨.ref av, rfl, .ref av, xv.length, rfl, .inr ⟨xv, sqv, rfl⟩, rfl, _, rfl, ?_⟩⟩
    rw [hlv]
    refine iteF ?_
    cases hg2 with
    | @tup ag xg _ sqg hag =>
    cases hag with
    | cons g0 gr =>
    cases gr with
    | cons g1 gr1 =>
    cases gr1
    refine ⟨.ref ag, rfl, ag, _, rfl, sqg, rfl, _, _, rfl, _, _, rfl, rfl, ?_⟩
    have hBm : (g.blocks.map Blk.D)[b]? = some B.D := by rw [List.getElem?_map, hB]; rfl
    refine ⟨_, rfl, .int (b : Int), rfl, _, b, _, g1, rfl, hBm, fun zB hzB => ?_⟩
    cases hzB with
    | @tup a2 x2 _ sq2 ha2 =>
    cases ha2 with
    | cons k0 kr =>
    cases kr with
    | cons k1 kr1 =>
    cases kr1
    refine ⟨a2, _, rfl, sq2, rfl, _, _, rfl, _, _, rfl, rfl, ?_⟩
    refine ⟨_, rfl, .int (k : Int), rfl, (k : Int), rfl, _, k0, fun z3 H3 s3 h3 => ?_⟩
    rw [cutP_to] at h3
    refine ⟨_, rfl, .ref av, rfl, _, 0, _, dp_mono s3 _ _ hfo, rfl, rfl, fun z4 h4 => ?_⟩
    cases h4
    have haa3 := dp_mono s3 _ _ haa2
    have s03 := s02.trans s3
    refine ⟨.ref aa, rfl, (by show 4 ≤ sizeLine; decide), fun p4 hp4 => ⟨(by show 1 ≤ sizeLine; decide), fun p5 hp5 => ?_⟩⟩
    have g4 := dp_tupN (K := K) hp4 (.cons (.str "call") (.cons (dp_mono s03 _ _ y1) (.cons (.str x) (.cons haa3 .nil))))
    have g5 := dp_tupN (K := K) hp5 (.cons g4 .nil)
    have s5 := (same_new hp4).trans (same_new (o := .tup [.ref p4]) hp5)
    have hrl := hlr B (List.mem_of_getElem? hB)
    refine ⟨_, _, dp_mono s5 _ _ h3, g5, ?_, fun z6 H6 s6 h6 => ?_⟩
    · rw [List.length_take, List.length_map, sizeLine_eq]
      show _ + 1 ≤ _
      omega
    have hrow6 := dp_mono (s3.trans (s5.trans s6)) _ _ k0
    refine ⟨_, rfl, .int (k : Int), rfl, _, _, rfl, rfl, _, rfl, _, hrow6, fun z7 H7 s7 h7 => ?_⟩
    rw [show ((k : Int) + 1) = ((k + 1 : Nat) : Int) by omega, cutP_from] at h7
    refine ⟨_, _, dp_mono s7 _ _ h6, h7, ?_, fun z8 H8 s8 h8 => ?_⟩
    · rw [List.length_append, List.length_take, List.length_drop, List.length_map, sizeLine_eq]
      show _ + 1 + _ ≤ _
      omega
    have s28 := s3.trans (s5.trans (s6.trans (s7.trans s8)))
    refine ⟨_, rfl, (by show 2 ≤ sizeLine; decide), fun p9 hp9 => ?_⟩
    have g9 := dp_tupN (K := K) hp9 (.cons h8 (.cons (dp_mono s28 _ _ k1) .nil))
    refine ⟨_, rfl, _, rfl, .int (b : Int), rfl, (b : Int), rfl, _, dp_mono (s28.trans (same_new hp9)) _ _ g1, fun zA HA sA hA => ?_⟩
    rw [cutP_to] at hA
    cases hA with
    | @tup pA xA _ sqA haA =>
    refine ⟨pA, xA, rfl, .inl sqA, _, rfl, _, rfl, .int (b : Int), rfl, _, _, rfl, rfl, _, rfl, _, dp_mono ((s28.trans (same_new hp9)).trans sA) _ _ g1, fun zC HC sC hC => ?_⟩
    rw [show ((b : Int) + 1) = ((b + 1 : Nat) : Int) by omega, cutP_from] at hC
    cases hC with
    | @tup pC xC _ sqC haC =>
    have hlA := dpAll_len haA
    have hlC := dpAll_len haC
    rw [List.length_take, List.length_map] at hlA
    rw [List.length_drop, List.length_map] at hlC
    refine ⟨pC, xC, rfl, .inl sqC, ?_, fun pT hpT => ⟨(by show 2 ≤ sizeLine; decide), fun pG hpG => ?_⟩⟩
    · rw [List.length_append, List.length_cons, List.length_append, sizeLine_eq]
      show _ + (_ + 0 + 1) ≤ _
      omega
    have sAC := sA.trans sC
    have gT := dp_tupN (K := K) hpT (dpAll_app (dpAll_mono sC _ _ haA) (.cons (dp_mono sAC _ _ g9) (dpAll_app haC .nil)))
    have sT := ((s28.trans (same_new hp9)).trans sAC).trans (same_new (o := .tup (xA ++ (.ref p9 :: (xC ++ [])))) hpT)
    have gG := dp_tupN (K := K) hpG (.cons (dp_mono sT _ _ g0) (.cons gT .nil))
    refine q1 b k o w as B x rfl rfl hB hR hX _ _ ((s02.trans sT).trans (same_new hpG)) ?_
    have e : (grCall g b k B o as x).D = .tuple [.int (g.count : Int), .tuple ((g.blocks.map Blk.D).take b ++ (.tuple [.tuple ((B.rows.map Rw.D).take k ++ [.tuple [.str "call", ovD o, .str x, .tuple (as.map oD)]] ++ (B.rows.map Rw.D).drop (k + 1)), B.stop.D] :: ((g.blocks.map Blk.D).drop (b + 1) ++ [])))] := by
      rw [grCall_D, List.append_nil, List.append_assoc]
      rfl
    rw [e]
    exact gG
  · rw [h2] at hv
    cases hv
  · rw [h2] at hv
    cases hv
    refine ⟨D, hD, hok, fun H2 s2 => ?_⟩
    have hD2 := dp_mono s2 _ _ hD
    cases hn : ntB D with
    | false => exact ⟨_, rfl, .int (-1), .int (-1), .int _, .int _, by decide, by decide, _, rfl, iteT (no H2 s2 hX)⟩
    | true =>
      obtain ⟨ds, rfl, hlen⟩ := hno hn
      rw [if_pos rfl]
      cases hD2 with
      | @tup av xv _ sqv hav =>
      have hlv := dpAll_len hav
      refine ⟨.ref av, rfl, .tuple ds, .int (-1), .tup sqv hav, .int _, hsh, by decide, _, rfl, iteF ⟨.ref av, rfl, .ref av, xv.length, rfl, .inr ⟨xv, sqv, rfl⟩, rfl, _, rfl, ?_⟩⟩
      show if (!decide (V.int (xv.length : Int) = V.int 1)) = true then _ else _
      rw [decide_eq_false (show ¬ (V.int (xv.length : Int) = V.int 1) from fun e => by injection e with e; omega)]
      exact iteT (no H2 s2 hX)
end
end K39

set_option maxHeartbeats 4000000
namespace K39
open PySem PySem.Spec PyProof.Rows L2 HG P52
def Hit (g : Gr) (D : PyData) (b k : Nat) (B : Blk) (o : Option Nat) (f : Nat) (as : List Opd) : Prop := D = .tuple [.str "devirtualize", .int (b : Int), .int (k : Int)] ∧ g.blocks[b]? = some B ∧ B.rows[k]? = some (.ap o f as)
theorem gSize_call {g : Gr} {b k : Nat} {B : Blk} {o : Option Nat} {f : Nat} {as : List Opd} {x : Str} (hB : g.blocks[b]? = some B) (hR : B.rows[k]? = some (.ap o f as)) : gSize (grCall g b k B o as x).blocks = gSize g.blocks := by
  obtain ⟨hb, hB⟩ := List.getElem?_eq_some_iff.mp hB
  obtain ⟨hk, _⟩ := List.getElem?_eq_some_iff.mp hR
  have e : g.blocks = g.blocks.take b ++ [B] ++ g.blocks.drop (b + 1) := by
    rw [List.append_assoc, ← hB]
    simp
  have e2 : gSize g.blocks = gSize (g.blocks.take b ++ [B] ++ g.blocks.drop (b + 1)) := congrArg gSize e
  rw [e2]
  unfold grCall gSize
  simp only [List.map_append, List.map_cons, List.map_nil, List.sum_append, List.sum_cons, List.sum_nil, List.length_append, List.length_take, List.length_drop, List.length_cons, List.length_nil]
  omega
theorem len_call {g : Gr} {b k : Nat} {B : Blk} {o : Option Nat} {as : List Opd} {x : Str} (hB : g.blocks[b]? = some B) : (grCall g b k B o as x).blocks.length = g.blocks.length := by
  obtain ⟨hb, hB⟩ := List.getElem?_eq_some_iff.mp hB
  unfold grCall
  simp only [List.length_append, List.length_take, List.length_drop, List.length_cons, List.length_nil]
  omega
structure GSm (g : Gr) : Prop where
  ap : GAp g
  len : g.blocks.length ≤ 1000
  rows : ∀ B ∈ g.blocks, B.rows.length ≤ 1000
  size : gSize g.blocks ≤ 2000
section
variable {P : Program} {w : World} {K : PySem.W.Frag} {mg : Str → Option Value} {base : Heap}
def spCh (K : PySem.W.Frag) : Sp := fun vs H Q E => ∃ (vg vr vn v4 v5 : V) (g : Gr) (bD kD : PyData) (f : Addr) (X : Option Str), vs = [vg, vr, vn, .ref f, v4, v5] ∧ Dp K H vg g.D ∧ Dp K H vr (.tuple [.str "devirtualize", bD, kD]) ∧ GSm g ∧ FaOk K H f X ∧
  (∀ b k B o w as x, Hit g (.tuple [.str "devirtualize", bD, kD]) b k B o w as → X = some x → ∀ z H', Same H H' → Dp K H' z (grCall g b k B o as x).D → Q z H') ∧
  ((∀ b k B o w as, Hit g (.tuple [.str "devirtualize", bD, kD]) b k B o w as → X = none) → ∀ H', Same H H' → E (IR K) none H')
set_option pp.maxSteps 600 in
theorem c_changed_by (T : Txt w K mg) (hP : PrgOk file P) : CalX P w K mg base "changed_by" 7 ["graph", "rewrite", "name", "facts", "graphs", "signatures"] (spCh K) := by
  obtain ⟨fd, F⟩ := T.d_changed_by
  have C_devirtualized := c_devirtualized (P := P) (w := w) (base := base) T hP
  refine ⟨⟨fd, okX F sc_changed_by (fun vs H Q E h => by repeat (first | (obtain ⟨e, _⟩ := h; subst e; rfl) | (obtain ⟨_, h⟩ := h))) (fun cdv A outer s H vs Q E hr h => ?_), F.bindsN fun _ _ _ _ _ _ us hl => match us, hl with | [_, _, _, _, _, _], _ => rfl⟩, T.g _ (by decide), F.kp⟩
  obtain ⟨vg, vr, vn, v4, v5, g, bD, kD, f, X, rfl, hg, hr1, gs, hf, q1, q2⟩ := h
  refine ⟨_, (pss_cons (ps_set (i := 6) sc_changed_by.nd rfl (.inl rfl) (pe_ix (ix_P (K := K) rfl) (pv 1) pe_int (fun _ _ => rfl)))
      (pss_cons (ps_if (pt_cmpR op_eq (pv 6) pe_str (nomark _)) pss_never pss_nil)
      (pss_cons (ps_if (pt_cmpR op_eq (pv 6) pe_str (nomark _)) (pss_one (ps_ret (pe_calX C_devirtualized (hr.mono (by omega)) (takes_of rfl rfl rfl rfl) (by rfl) (pa_cons (pv 0) (pa_cons (pe_ix (ix_P (K := K) rfl) (pv 1) pe_int (fun _ _ => rfl)) (pa_cons (pe_ix (ix_P (K := K) rfl) (pv 1) pe_int (fun _ _ => rfl)) (pa_cons (pv 3) pa_nil))))))) pss_nil)
      (pss_cons (ps_if (pt_cmpR op_eq (pv 6) pe_str (nomark _)) pss_never pss_nil)
      (pss_cons (ps_if (pt_cmpR op_eq (pv 6) pe_str (nomark _)) pss_never pss_nil)
      (pss_cons (ps_if (pt_cmpR op_eq (pv 6) pe_str (nomark _)) pss_never pss_nil)
      (pss_cons (ps_if (pt_cmpR op_eq (pv 6) pe_str (nomark _)) pss_never pss_nil)
      (pss_cons (ps_if (pt_cmpR op_eq (pv 6) pe_str (nomark _)) pss_never pss_nil)
      (pss_one ps_never))))))))), ?_⟩
  have hr0 : Dp K H vr (.tuple [.str "devirtualize", bD, kD]) := hr1
  refine ⟨vr, rfl, _, 0, _, hr0, rfl, rfl, fun z0 hz0 => ?_⟩
  cases hz0
  refine ⟨_, rfl, rfl, _, rfl, ?_⟩
  show if decide (V.str "devirtualize" = V.str "inline") = true then _ else _
  rw [str_dec, show decide (("devirtualize" : Str) = "inline") = false by decide +kernel]
  refine iteF ⟨_, rfl, rfl, _, rfl, ?_⟩
  show if decide (V.str "devirtualize" = V.str "devirtualize") = true then _ else _
  rw [str_dec, show decide (("devirtualize" : Str) = "devirtualize") = true by decide +kernel]
  refine iteT ⟨vg, rfl, vr, rfl, _, 1, _, hr0, rfl, rfl, fun zb hzb => ⟨vr, rfl, _, 2, _, hr0, rfl, rfl, fun zk hzk => ⟨.ref f, rfl, ?_⟩⟩⟩
  refine ⟨vg, zb, zk, g, bD, kD, f, X, rfl, hg, hzb, hzk, gs.ap, gs.len, gs.rows, hf, ?_, ?_⟩
  · rintro b k o f2 as B x rfl rfl hB hR hX z H' s hz
    exact q1 b k B o f2 as x ⟨rfl, hB, hR⟩ hX z H' s hz
  · intro no H' s
    refine q2 (fun b k B o f2 as h => ?_) H' s
    rcases no with no | no
    · exact no
    · obtain ⟨e, hB, hR⟩ := h
      injection e with e
      injection e with _ e
      injection e with e1 e
      injection e with e2 _
      exact (no b k o f2 as ⟨e1, e2, B, hB, hR⟩).elim
def spRw (K : PySem.W.Frag) : Sp := fun vs H Q E => ∃ (vg vr vn : V) (g : Gr) (D : PyData) (f : Addr) (X : Option Str), vs = [vg, vr, vn, .ref f, .non, .non] ∧ Dp K H vg g.D ∧ Dp K H vr D ∧ SeqAt.shaped D = true ∧ ((∃ r, D = .tuple (.str "devirtualize" :: r)) ∨ ∃ ds, D = .list ds) ∧ GSm g ∧ FaOk K H f X ∧
  (∀ b k B o w as x, Hit g D b k B o w as → X = some x → ∀ z H', Same H H' → Dp K H' z (grCall g b k B o as x).D → Q z H') ∧
  ((∀ b k B o w as, Hit g D b k B o w as → X = none) → ∀ H', Same H H' → E (IR K) none H')
theorem rwB_true {D : PyData} (hD : (∃ r, D = .tuple (.str "devirtualize" :: r)) ∨ ∃ ds, D = .list ds) (h : rwB D = true) : ∃ bD kD, D = .tuple [.str "devirtualize", bD, kD] := by
  rcases hD with ⟨r, rfl⟩ | ⟨ds, rfl⟩
  · have e : (PyData.str "devirtualize" :: r).length = 3 := of_decide_eq_true h
    rcases r with _ | ⟨a, _ | ⟨b, _ | ⟨c, r⟩⟩⟩
    · simp at e
    · simp at e
    · exact ⟨a, b, rfl⟩
    · simp at e
  · cases h
set_option pp.maxSteps 600 in
theorem c_rewritten (T : Txt w K mg) (hP : PrgOk file P) : ∃ fd, FnOk P w K mg base (L2.CX P w) 8 (He.ga K "rewritten") fd ["graph", "rewrite", "name", "facts", "graphs", "signatures"] (spRw K) ∧ (∃ ds, Vals [V.non, V.non] ds ∧ Binds K fd ["graph", "rewrite", "name", "facts", "graphs", "signatures"] ds) ∧ PySem.W.keepIn K (.ref (He.ga K "rewritten")) = true := by
  obtain ⟨fd, F⟩ := T.d_rewritten
  have C_is_rewrite := c_is_rewrite (P := P) (w := w) (base := base) T
  have C_changed_by := c_changed_by (P := P) (w := w) (base := base) T hP
  have C_size_of := c_size_of (P := P) (w := w) (base := base) T
  refine ⟨fd, okX F sc_rewritten (fun vs H Q E h => by repeat (first | (obtain ⟨e, _⟩ := h; subst e; rfl) | (obtain ⟨_, h⟩ := h))) (fun cdv A outer s H vs Q E hr h => ?_), ?_, F.kp⟩
  · obtain ⟨vg, vr, vn, g, D, f, X, rfl, hg, hr1, hsh, hD, gs, hf, q1, q2⟩ := h
    refine ⟨_, (pss_cons (ps_if (pt_not (pt_val (pe_cal C_is_rewrite (hr.mono (by omega)) (by rfl) (pa_cons (pv 1) pa_nil)))) (pss_one (ps_raise0 rfl (T.e_InvalidRewrite hP) T.x_InvalidRewrite.ex T.x_InvalidRewrite.ty (hr.mono (by omega)) (takes_of rfl rfl rfl rfl) (by rfl) (fun _ _ _ _ _ _ _ => rfl))) pss_nil)
      (pss_cons (ps_set (i := 6) sc_rewritten.nd rfl (.inl rfl) (pe_calX C_changed_by (hr.mono (by omega)) (takes_of rfl rfl rfl rfl) (by rfl) (pa_cons (pv 0) (pa_cons (pv 1) (pa_cons (pv 2) (pa_cons (pv 3) (pa_cons (pe_orT (pv 4) (pe_one pe_dnewK)) (pa_cons (pe_orT (pv 5) (pe_one pe_dnewK)) pa_nil))))))))
      (pss_cons (ps_if (pt_cmpR op_gt (pe_cal C_size_of (hr.mono (by omega)) (by rfl) (pa_cons (pv 6) pa_nil)) (pe_globI T.c_MOST_INSTRUCTIONS rfl) (nomark _)) (pss_one (ps_raise0 rfl (T.e_InvalidRewrite hP) T.x_InvalidRewrite.ex T.x_InvalidRewrite.ty (hr.mono (by omega)) (takes_of rfl rfl rfl rfl) (by rfl) (fun _ _ _ _ _ _ _ => rfl))) pss_nil)
      (pss_one (ps_ret (pv 6)))))), ?_⟩
    refine ⟨vr, rfl, vr, D, rfl, hr1, hsh, hD, fun H1 s1 => ⟨_, rfl, ?_⟩⟩
    cases hB : rwB D with
    | false =>
      refine iteT (q2 (fun b k B o f2 as h => ?_) H1 s1)
      rw [h.1] at hB
      cases hB
    | true =>
      obtain ⟨bD, kD, rfl⟩ := rwB_true hD hB
      refine iteF ⟨vg, rfl, vr, rfl, vn, rfl, .ref f, rfl, .non, rfl, false, rfl, iteF fun d1 hd1 => ⟨.non, rfl, false, rfl, iteF fun d2 hd2 => ?_⟩⟩
      have s3 := s1.trans ((same_new (o := .dK []) hd1).trans (same_new (o := .dK []) hd2))
      generalize upd (upd H1 d1 (.dK [])) d2 (.dK []) = H3 at s3 ⊢
      refine ⟨vg, vr, vn, .ref d1, .ref d2, g, bD, kD, f, X, rfl, dp_mono s3 _ _ hg, dp_mono s3 _ _ hr1, gs, hf.mono s3, ?_, fun no H4 s4 => q2 no H4 (s3.trans s4)⟩
      intro b k B o f2 as x hit hX z H4 s4 hz
      refine ⟨z, rfl, z, grCall g b k B o as x, rfl, hz, ?_, fun H5 s5 => ?_⟩
      · rw [len_call hit.2.1]
        exact gs.len
      · rw [gSize_call hit.2.1 hit.2.2]
        have := gs.size
        refine ⟨_, _, rfl, rfl, _, rfl, ?_⟩
        rw [decide_eq_false (show ¬ ((2000 : Int) < (gSize g.blocks : Int)) by omega)]
        exact iteF ⟨z, rfl, q1 b k B o f2 as x hit hX z H5 (s3.trans (s4.trans s5)) (dp_mono s5 _ _ hz)⟩
  · exact F.binds1 (ps := ["graph", "rewrite", "name", "facts", "graphs", "signatures"]) 4 0 (by simp) rfl (fun T kV doc pm an cdv ct us its h1 h2 => match us, h1, its, h2 with
      | [_, _, _, _], _, [_, _], _ => ⟨_, rfl, rfl⟩)
end
end K39

set_option maxHeartbeats 4000000
namespace K39
open PySem PySem.Spec PyProof.Rows L2 HG P52
def suiteB : List Stmt := match (defBody s__law_told).getD 1 (.Pass ⟨0, 0, 0, 0⟩) with
  | .Try _ [.ExceptHandler _ _ b _] _ _ _ => b
  | _ => []
abbrev XH (P : Program) (w : World) (K : PySem.W.Frag) (mg : Str → Option Value) (base : Heap) (cdv : Value) (A : Around) (outer : List Env) (s : Shared) (H0 : Hp) (E : XK) : Cx := (cxOf CX0 P w K mg base N__law_told "_law_told" (defScope s__law_told) (He.ga K "_law_told") cdv A outer s H0 E).nox
section
variable {P : Program} {w : World} {K : PySem.W.Frag} {mg : Str → Option Value} {base : Heap}
def tsH (K : PySem.W.Frag) (a : Addr) (cls : Value) (d : Option Addr) : TS :=
  tAsg (tIf (tAnd (tB (tCB (rIsC K a cls d) (tCons (tVar 4) (tCons (tC (V.ref (He.ga K "WholeError"))) tNil)))) (tB (tCB (rIsC K a cls d) (tCons (tVar 4) (tCons (tC (V.ty "ValueError")) tNil))))) (tC (V.str "refused")) (tC (V.str "odd"))) (gName 3)
theorem told_suite (T : Txt w K mg) {cdv : Value} {A : Around} {outer : List Env} {s : Shared} {H0 : Hp} {E : XK} {a : Addr} {oe : Obj} {cls : Value} {d : Option Addr} {pn : List (Addr × Obj)} (hz : Zc cls d oe) (hf : ∃ vs, oe.data = .fields vs) :
    PSs ((XH P w K mg base cdv A outer s H0 E).suite a ((a, oe) :: pn)) suiteB (tsH K a cls d) :=
  pss_one (ps_set (i := 3) sc__law_told.nd rfl (.inl rfl) (pe_ifExp (PW.pt (pw_and (pt_val (pe_callB (call_isC hz hf) (by rfl) T.n_isinstance (by decide +kernel) (pa_cons (pv 4) (pa_cons (pe_glob (v := .ref _) (by rfl) (T.g "WholeError" (by decide)) rfl) pa_nil)))) (pw_and1 (pt_val (pe_callB (call_isC hz hf) (by rfl) T.n_isinstance (by decide +kernel) (pa_cons (pv 4) (pa_cons (pe_bltn (v := .ty "ValueError") (u := .type "ValueError") (by rfl) T.n_ValueError (by decide +kernel) rfl) pa_nil))))))) pe_str pe_str))
def spTold (K : PySem.W.Frag) : Sp := fun vs H Q _ => ∃ (vg vr : V) (g : Gr) (D : PyData) (f : Addr) (X : Option Str), vs = [vg, vr, .ref f] ∧ Dp K H vg g.D ∧ Dp K H vr D ∧ SeqAt.shaped D = true ∧ ((∃ r, D = .tuple (.str "devirtualize" :: r)) ∨ ∃ ds, D = .list ds) ∧ GSm g ∧ FaOk K H f X ∧
  (∀ b k B o w as x, Hit g D b k B o w as → X = some x → ∀ z H', Same H H' → Dp K H' z (grCall g b k B o as x).D → Q z H') ∧
  ((∀ b k B o w as, Hit g D b k B o w as → X = none) → ∀ H', Same H H' → Q (.str "refused") H')
set_option pp.maxSteps 600 in
theorem c_told (T : Txt w K mg) (hP : PrgOk file P) : Cal P w K mg base "_law_told" 9 ["_law_graph_here", "_law_step", "_law_facts_here"] (spTold K) := by
  obtain ⟨fd, F⟩ := T.d__law_told
  obtain ⟨fr, Fr, ⟨ds, hds, hb⟩, hkp⟩ := c_rewritten (P := P) (base := base) T hP
  refine ⟨⟨fd, F.ok (k := 8) sc__law_told (fun vs H Q E h => ?_) (fun cdv A outer s H vs Q E hr h => ?_), F.bindsN fun _ _ _ _ _ _ us hl => match us, hl with | [_, _, _], _ => rfl⟩, T.g _ (by decide), F.kp⟩
  · obtain ⟨vg, vr, g, D, f, X, rfl, _⟩ := h
    rfl
  obtain ⟨vg, vr, g, D, f, X, rfl, hg, hr1, hsh, hD, gs, hf, q1, q2⟩ := h
  refine ⟨_, PSs.nox (pss_cons (ps_set (i := 3) sc__law_told.nd rfl (.inl rfl) pe_str) (pss_cons
    (ps_try_as (i := 4) (tb := fun W => tAsg (tCallSD (spRw K) [V.non, V.non] (WE W) (tCons (tVar 0) (tCons (tVar 1) (tCons (tC (V.str "own")) (tCons (tVar 2) tNil))))) (gName 3)) (ts := tsH K) (Wout := fun _ _ _ _ => False) rfl rfl sc__law_told.nd rfl rfl ⟨rfl, by decide, Or.inl (T.g "InvalidRewrite" (by decide))⟩ takes0
      (fun W pn xe tk _ => pss_one (ps_set (i := 3) sc__law_told.nd rfl (.inl rfl) (by exact (pe_callSD Fr (hr.mono (by omega)) (by rfl) (T.g "rewritten" (by decide)) hkp hb hds (fun σ => passAt tk σ) (pa_cons (pv 0) (pa_cons (pv 1) (pa_cons pe_str (pa_cons (pv 2) pa_nil))))))))
      (fun a oe cls d pn hz hf => told_suite T hz hf))
    (pss_one (ps_ret (pv 3))))), ?_⟩
  refine ⟨vg, rfl, vr, rfl, .ref f, rfl, vg, vr, .str "own", g, D, f, X, rfl, hg, hr1, hsh, hD, gs, hf, ?_, ?_⟩
  · intro b k B o w2 as x hit hX z H' s hz
    exact ⟨z, rfl, q1 b k B o w2 as x hit hX z H' s hz⟩
  · intro no H' s
    refine ⟨true, T.exm, fun _ a ha => ?_, fun q => Bool.noConfusion q⟩
    refine ⟨.ref a, rfl, _, _, _, true, rfl, rfl, T.x_InvalidRewrite.ex, rfl, .own _, T.isW, _, rfl, iteT ⟨.ref a, rfl, _, _, _, true, rfl, rfl, T.x_InvalidRewrite.ex, rfl, .ty _, T.isV, _, rfl, iteT ⟨.str "refused", rfl, q2 no H' s⟩⟩⟩
/-! ### _law_called -/
def spCalled (K : PySem.W.Frag) : Sp := fun vs H Q _ => ∃ (vg : V) (g : Gr) (b k : Nat) (B : Blk) (o : Option Nat) (f : Nat) (as : List Opd) (x : Str), vs = [vg, .int (b : Int), .int (k : Int), .str x] ∧ Dp K H vg g.D ∧ GSm g ∧ g.blocks[b]? = some B ∧ B.rows[k]? = some (.ap o f as) ∧
  ∀ z H', Same H H' → Dp K H' z (grCall g b k B o as x).D → Q z H'
set_option pp.maxSteps 200 in
set_option pp.maxSteps 600 in
theorem c_called (T : Txt w K mg) : Cal P w K mg base "_law_called" 1 ["_law_graph_here", "_law_b", "_law_k", "_law_name"] (spCalled K) := by
  obtain ⟨fd, F⟩ := T.d__law_called
  refine ⟨⟨fd, F.ok sc__law_called (fun vs H Q E h => by repeat (first | (obtain ⟨e, _⟩ := h; subst e; rfl) | (obtain ⟨_, h⟩ := h))) (fun cdv A outer s H vs Q E hr h => ?_), F.bindsN fun _ _ _ _ _ _ us hl => match us, hl with | [_, _, _, _], _ => rfl⟩, T.g _ (by decide), F.kp⟩
  obtain ⟨vg, g, b, k, B, o, f, as, x, rfl, hg, gs, hB, hR, q⟩ := h
  refine ⟨_, PSs.nox (pss_cons (ps_asg (pe_tup (pa_cons (pe_ix (ix_P (K := K) rfl) (pe_ix (ix_P (K := K) rfl) (pv 0) pe_int (fun _ _ => rfl)) (pv 1) (fun _ _ => rfl)) (pa_cons (pe_ix (ix_P (K := K) rfl) (pv 0) pe_int (fun _ _ => rfl)) pa_nil))) (pg_tupK (K := K) (n := 2) rfl rfl (pgs_cons (pg_tupK (K := K) (n := 2) rfl rfl (pgs_cons (pg_name (i := 4) sc__law_called.nd rfl (.inl rfl)) (pgs_cons (pg_name (i := 5) sc__law_called.nd rfl (.inl rfl)) pgs_nil))) (pgs_cons (pg_name (i := 6) sc__law_called.nd rfl (.inl rfl)) pgs_nil))))
      (pss_cons (ps_set (i := 7) sc__law_called.nd rfl (.inl rfl) (pe_tup (pa_cons pe_str (pa_cons (pe_ix (ix_P (K := K) rfl) (pe_ix (ix_P (K := K) rfl) (pv 4) (pv 2) (fun _ _ => rfl)) pe_int (fun _ _ => rfl)) (pa_cons (pv 3) (pa_cons (pe_ix (ix_P (K := K) rfl) (pe_ix (ix_P (K := K) rfl) (pv 4) (pv 2) (fun _ _ => rfl)) pe_int (fun _ _ => rfl)) pa_nil))))))
      (pss_one (ps_ret (pe_tup (pa_cons (pe_ix (ix_P (K := K) rfl) (pv 0) pe_int (fun _ _ => rfl)) (pa_cons (pe_op (op_catP (K := K) rfl) (pe_op (op_catP (K := K) rfl) (pe_slice (sl_P (K := K) rfl) (pv 6) po_none (po_some (pv 1))) (pe_tup (pa_cons (pe_tup (pa_cons (pe_op (op_catP (K := K) rfl) (pe_op (op_catP (K := K) rfl) (pe_slice (sl_P (K := K) rfl) (pv 4) po_none (po_some (pv 2))) (pe_tup (pa_cons (pv 7) pa_nil))) (pe_slice (sl_P (K := K) rfl) (pv 4) (po_some (pe_op op_add (pv 2) pe_int)) po_none)) (pa_cons (pv 5) pa_nil))) pa_nil))) (pe_slice (sl_P (K := K) rfl) (pv 6) (po_some (pe_op op_add (pv 1) pe_int)) po_none)) pa_nil))))))), ?_⟩
  have hBm : (g.blocks.map Blk.D)[b]? = some B.D := by rw [List.getElem?_map, hB]; rfl
  have hRm : (B.rows.map Rw.D)[k]? = some (Rw.ap o f as).D := by rw [List.getElem?_map, hR]; rfl
  refine ⟨vg, rfl, _, 1, _, hg, rfl, rfl, fun zb hzb => ⟨.int (b : Int), rfl, _, b, _, hzb, rfl, hBm, fun zB hzB => ⟨vg, rfl, _, 1, _, hg, rfl, rfl, fun zb2 hzb2 => ⟨(by show 2 ≤ sizeLine; decide), fun pt hpt => ?_⟩⟩⟩⟩
  cases hzB with
  | @tup a2 x2 _ sq2 ha2 =>
  cases ha2 with
  | cons k0 kr =>
  cases kr with
  | cons k1 kr1 =>
  cases kr1
  have s1 := same_new (o := .tup [.ref a2, zb2]) hpt
  have e1 : (upd H pt (.tup [.ref a2, zb2])) pt = some (.tup [.ref a2, zb2]) := upd_same
  have hg1 := dp_mono s1 _ _ hg
  have hb1 := dp_mono s1 _ _ hzb2
  have k01 := dp_mono s1 _ _ k0
  have k11 := dp_mono s1 _ _ k1
  have sq21 := sqT_same s1 sq2
  generalize upd H pt (.tup [.ref a2, zb2]) = H1 at s1 e1 hg1 hb1 k01 k11 sq21 ⊢
  refine ⟨pt, _, rfl, .inl (.inl e1), rfl, _, _, rfl, a2, _, rfl, sq21, rfl, _, _, rfl, _, _, rfl, rfl, _, _, rfl, rfl, ?_⟩
  refine ⟨_, rfl, .int (k : Int), rfl, _, k, _, k01, rfl, hRm, fun zR hzR => ⟨_, 1, _, hzR, rfl, rfl, fun z1 hz1 => ⟨.str x, rfl, _, rfl, .int (k : Int), rfl, _, k, _, k01, rfl, hRm, fun zR2 hzR2 => ⟨_, 3, _, hzR2, rfl, rfl, fun z3 hz3 => ⟨(by show 4 ≤ sizeLine; decide), fun pr hpr => ?_⟩⟩⟩⟩⟩
  have gr := dp_tupN (K := K) hpr (.cons (.str "call") (.cons hz1 (.cons (.str x) (.cons hz3 .nil))))
  have s2 := same_new (o := .tup [.str "call", z1, .str x, z3]) hpr
  have hg2 := dp_mono s2 _ _ hg1
  have hb2 := dp_mono s2 _ _ hb1
  have k02 := dp_mono s2 _ _ k01
  have k12 := dp_mono s2 _ _ k11
  have s02 := s1.trans s2
  generalize upd H1 pr (.tup [.str "call", z1, .str x, z3]) = H2 at gr s2 hg2 hb2 k02 k12 s02 ⊢
  refine ⟨vg, rfl, _, 0, _, hg2, rfl, rfl, fun z0 hz0 => ⟨_, rfl, .int (b : Int), rfl, (b : Int), rfl, _, hb2, fun zA HA sA hA => ⟨_, rfl, .int (k : Int), rfl, (k : Int), rfl, _, dp_mono sA _ _ k02, fun z4 H4 s4 h4 => ⟨.ref pr, rfl, (by show 1 ≤ sizeLine; decide), fun p5 hp5 => ?_⟩⟩⟩⟩
  rw [cutP_to] at hA h4
  have s24 := sA.trans s4
  have g5 := dp_tupN (K := K) hp5 (.cons (dp_mono s24 _ _ gr) .nil)
  have s5 := same_new (o := .tup [.ref pr]) hp5
  have hbl := gs.len
  have hrl := gs.rows B (List.mem_of_getElem? hB)
  have s25 := s24.trans s5
  refine ⟨_, _, dp_mono s5 _ _ h4, g5, ?_, fun z6 H6 s6 h6 => ?_⟩
  · rw [List.length_take, List.length_map, sizeLine_eq]
    show _ + 1 ≤ _
    omega
  have s26 := s25.trans s6
  refine ⟨_, rfl, .int (k : Int), rfl, _, _, rfl, rfl, _, rfl, _, dp_mono s26 _ _ k02, fun z7 H7 s7 h7 => ?_⟩
  rw [show ((k : Int) + 1) = ((k + 1 : Nat) : Int) by omega, cutP_from] at h7
  refine ⟨_, _, dp_mono s7 _ _ h6, h7, ?_, fun z8 H8 s8 h8 => ?_⟩
  · rw [List.length_append, List.length_take, List.length_drop, List.length_map, sizeLine_eq]
    show _ + 1 + _ ≤ _
    omega
  have s28 := s26.trans (s7.trans s8)
  refine ⟨_, rfl, (by show 2 ≤ sizeLine; decide), fun p9 hp9 => ⟨(by show 1 ≤ sizeLine; decide), fun p10 hp10 => ?_⟩⟩
  have g9 := dp_tupN (K := K) hp9 (.cons h8 (.cons (dp_mono s28 _ _ k12) .nil))
  have g10 := dp_tupN (K := K) hp10 (.cons g9 .nil)
  have s9 := s28.trans ((same_new hp9).trans (same_new (o := .tup [.ref p9]) hp10))
  have sA9 := (s4.trans s5).trans ((s6.trans (s7.trans s8)).trans ((same_new hp9).trans (same_new (o := .tup [.ref p9]) hp10)))
  refine ⟨_, _, dp_mono sA9 _ _ hA, g10, ?_, fun z11 H11 s11 h11 => ?_⟩
  · rw [List.length_take, List.length_map, sizeLine_eq]
    show _ + 1 ≤ _
    omega
  have s211 := s9.trans s11
  refine ⟨_, rfl, .int (b : Int), rfl, _, _, rfl, rfl, _, rfl, _, dp_mono s211 _ _ hb2, fun z12 H12 s12 h12 => ?_⟩
  rw [show ((b : Int) + 1) = ((b + 1 : Nat) : Int) by omega, cutP_from] at h12
  refine ⟨_, _, dp_mono s12 _ _ h11, h12, ?_, fun z13 H13 s13 h13 => ⟨(by show 2 ≤ sizeLine; decide), fun pG hpG => ?_⟩⟩
  · rw [List.length_append, List.length_take, List.length_drop, List.length_map, sizeLine_eq]
    show _ + 1 + _ ≤ _
    omega
  have s213 := s211.trans (s12.trans s13)
  have gG := dp_tupN (K := K) hpG (.cons (dp_mono s213 _ _ hz0) (.cons h13 .nil))
  refine q _ _ ((s02.trans s213).trans (same_new hpG)) ?_
  rw [grCall_D]
  exact gG
end
end K39

set_option maxHeartbeats 4000000
/-! HDT: {(..): v, ..}: a written dict whose keys are tuples of ints and texts. -/
namespace HG
open PySem PySem.Spec PyProof.Rows L2
def mergeT (kvs more : List (List Key × V)) : List (List Key × V) := more.foldl (fun acc kv => putK acc kv.1 kv.2) kvs
theorem length_mergeT : ∀ (more kvs : List (List Key × V)), (mergeT kvs more).length ≤ kvs.length + more.length
  | [], kvs => by show kvs.length ≤ kvs.length + 0; omega
  | p :: r, kvs => by
    have h1 := length_mergeT r (putK kvs p.1 p.2)
    have h2 := length_putK kvs p.1 p.2
    show (mergeT (putK kvs p.1 p.2) r).length ≤ _
    rw [List.length_cons]; omega
/-- what a display's keys are: the tuples' places and the values -/
structure KeyT where
  k : List Key
  a : Addr
  v : V
theorem carriesT {P : Program} {w : World} {H : Hp} {h : Heap} (ok : HOk P w H h) : ∀ {ks : List KeyT} {ws : List (Value × Value)}, VV (ks.map fun x => (V.ref x.a, x.v)) ws → (∀ x ∈ ks, H x.a = some (.tup (x.k.map kV))) →
    ∃ rs, CarriesH (tupleKind (mixKind P w)) h ws rs ∧ L2.KT H (ks.map fun x => (x.k, x.v)) rs
  | [], _, r, _ => by rw [List.map_nil] at r; cases r; exact ⟨[], True.intro, .nil⟩
  | p :: ks, _, r, hk => by
    rw [List.map_cons] at r
    cases r with
    | @cons a b as bs h t =>
      obtain ⟨rs, c, q⟩ := carriesT ok t fun x hx => hk x (List.mem_cons_of_mem _ hx)
      obtain ⟨b1, b2⟩ := b
      have e := hk p List.mem_cons_self
      exact ⟨(p.k, p.a, b2) :: rs, ⟨h.1, rfl, key_of ok e, c⟩, .cons ⟨rfl, e, h.2⟩ q⟩
theorem kt_merge {H : Hp} : ∀ {more : List (List Key × V)} {rs : List (List Key × Addr × Value)} {kvs : List (List Key × V)} {vs : List (List Key × Addr × Value)}, L2.KT H more rs → L2.KT H kvs vs → L2.KT H (mergeT kvs more) (storedAllH vs rs) := by
  intro more rs kvs vs r
  unfold L2.KT at r
  induction r generalizing kvs vs with
  | nil => intro q; exact q
  | @cons p q ps qs h t ih =>
    intro r0
    have e : L2.KT H (putK kvs p.1 p.2) (storedH vs q.1 q.2.1 q.2.2) := by
      have := r0.put p.1 h.2.1 h.2.2
      rw [← h.1]; exact this
    exact ih e
def tDispT (trs : List (TE × TE)) : TE := fun σ H Q => ∀ p, H p = none → tPairs trs σ (upd H p (.dT [])) fun ps H2 => H2 p = some (.dT []) ∧ ∃ ks : List KeyT, ps = ks.map (fun x => (V.ref x.a, x.v)) ∧ (∀ x ∈ ks, H2 x.a = some (.tup (x.k.map kV))) ∧ ks.length ≤ 15 ∧
  Q (.ref p) (upd H2 p (.dT (mergeT [] (ks.map fun x => (x.k, x.v)))))
theorem pe_dispT {X : Cx} {pos : Pos} {keys : List (Option Expr)} {values : List Expr} {trs : List (TE × TE)} (hu : X.A.units + 1 < cLine) (h : PPs X pos keys values trs) (hall : keys.all (·.isSome) = true) (hl : keys.length = values.length) (h0 : keys ≠ [])
    (h15 : keys.length ≤ 15) : PE X (.Dict keys values pos) (tDispT trs) := by
  refine ⟨fun pins s σ H Q I q => ?_⟩
  have hn := I.hok.fresh (Nat.le_refl s.heap.objs.size)
  have I1 := I.laid (a := s.heap.objs.size) (o := .dT []) (h' := s.heap.push { cls := .type "dict", data := .dict #[] }) (t' := s.toks) (fun _ _ q => Heap.get?_push_of_some _ q) (Nat.le_refl _) (dt_empty s.heap I.big)
  have hpl := pairTrees_length keys values X.env pos hall hl
  have hne : pairTrees keys values X.env pos ≠ [] := fun he => by
    rw [he] at hpl
    exact h0 (List.length_eq_zero_iff.mp hpl.symm)
  rw [arm_eval_Dict, zip_pairTrees keys values X.env pos hall hl, dictDisplay_pairs _ hne (by rw [hpl]; omega)]
  refine wpAny_bind (wpAny_standAt (wpAny_bind (wpAny_subDictH (knd := tupleKind (mixKind X.prog X.w)) (show X.A.units < cLine by omega) (by rw [hpl]; exact h15) (thn (h.run pins _ σ _ _ I1 (q _ hn)) fun ws s2 ⟨ps, H2, I2, rel, e, ks, ep, hk, lk, q2⟩ => ?_))))
  subst ep
  obtain ⟨rs, c, rk⟩ := carriesT (P := X.prog) (w := X.w) I2.hok rel hk
  obtain ⟨z, hd, vs0, r0, dd⟩ := dt_of I2.hok e
  cases r0
  refine ⟨rs, c, dd, fun h' tk dd' hs => wpAny_pure ⟨.ref s.heap.objs.size, _, ?_, rfl, q2⟩⟩
  have hz : (mergeT [] (ks.map fun x => (x.k, x.v))).length ≤ sizeLine := by
    have h1 := length_mergeT (ks.map fun x => (x.k, x.v)) []
    rw [List.length_nil, List.length_map] at h1
    rw [sizeLine_eq]; omega
  obtain ⟨o, es, ep, ho, h2, h3, h4, h6, h5⟩ := dd'
  refine d_write I2 (by rw [e]; exact True.intro) hs ⟨o, ho⟩ ⟨hz, hd, _, (kt_merge rk .nil).keeps fun c ys ec => ?_, o, es, ep, ho, h2, h3, h4, h5⟩
  rw [upd_ne (ne_of ec e (fun z => nomatch z))]
  exact ec
end HG

set_option maxHeartbeats 4000000
/-! HOff: t + u, t[a:b] of data that lie apart from two places (the deck). -/
namespace HG
open PySem PySem.Spec PyProof.Rows L2
section
variable {X : Cx} {K : PySem.W.Frag}
theorem off_new {d c p : Addr} {H : Hp} {o : HO} (hd : H d ≠ none) (hc : H c ≠ none) (hp : H p = none) : Same (off d c H) (off d c (upd H p o)) := fun b u e => by
  unfold off at e ⊢
  split at e
  · cases e
  · rename_i n
    rw [if_neg n]
    exact upd_get hp e
theorem off_at {d c p : Addr} {H : Hp} {o : HO} (hd : H d ≠ none) (hc : H c ≠ none) (hp : H p = none) : off d c (upd H p o) p = some o := by
  have n1 : p ≠ d := fun z => hd (by rw [← z]; exact hp)
  have n2 : p ≠ c := fun z => hc (by rw [← z]; exact hp)
  rw [off_get n1 n2, upd_same]
theorem dp_tupO {d c p : Addr} {H : Hp} {vs : List V} {ds : List PyData} (hd : H d ≠ none) (hc : H c ≠ none) (hp : H p = none) (h : DpAll K (off d c H) vs ds) : Dp K (off d c (upd H p (.tup vs))) (.ref p) (.tuple ds) :=
  .tup (.inl (.inl (off_at hd hc hp))) (dpAll_mono (off_new hd hc hp) _ _ h)
theorem dp_lstO {d c p : Addr} {H : Hp} {vs : List V} {ds : List PyData} (hd : H d ≠ none) (hc : H c ≠ none) (hp : H p = none) (h : DpAll K (off d c H) vs ds) : Dp K (off d c (upd H p (.lst vs))) (.ref p) (.list ds) :=
  .lst (.inl (.inl (off_at hd hc hp))) (dpAll_mono (off_new hd hc hp) _ _ h)
theorem sqT_off {d c a : Addr} {H : Hp} {xs : List V} (h : SqT K (off d c H) a xs) : SqT K H a xs := sqT_kt (KT.of off_same) h
def rCatO (K : PySem.W.Frag) : R2 := fun x y H Q => ∃ d c ds es, Dp K (off d c H) x (.tuple ds) ∧ Dp K (off d c H) y (.tuple es) ∧ H d ≠ none ∧ H c ≠ none ∧ ds.length + es.length ≤ sizeLine ∧ ∀ z H', Same H H' → Dp K (off d c H') z (.tuple (ds ++ es)) → Q z H'
theorem op_catO (hK : X.K = K) : OpR X (binaryOp .Add) (rCatO K) := by
  subst hK
  intro pins s σ H x y v u Q I rx ry h
  obtain ⟨d, c, ds, es, hx, hy, nd, nc, hz, q⟩ := h
  cases hx with
  | @tup a xs _ sa ha =>
    cases hy with
    | @tup b ys _ sb hb =>
      have l1 := dpAll_len ha
      have l2 := dpAll_len hb
      refine op_catA pins s σ H _ _ v u Q I rx ry ⟨a, b, xs, ys, rfl, rfl, sqT_off sa, sqT_off sb, by omega, fun e => ?_, fun _ e => ?_, fun _ _ p hp => ?_⟩
      · subst e
        cases ha
        exact q _ _ (Same.refl _) (.tup sb hb)
      · subst e
        cases hb
        rw [List.append_nil] at q
        exact q _ _ (Same.refl _) (.tup sa ha)
      · exact q _ _ (same_new hp) (dp_tupO nd nc hp (dpAll_app ha hb))
def rSlO (K : PySem.W.Frag) : V → Option Int → Option Int → Hp → VK → Prop := fun x lo hi H Q => ∃ d c ds, Dp K (off d c H) x (.tuple ds) ∧ H d ≠ none ∧ H c ≠ none ∧ ∀ z H', Same H H' → Dp K (off d c H') z (.tuple (cutP ds lo hi)) → Q z H'
theorem sl_O (hK : X.K = K) : SlR X (rSlO K) := by
  subst hK
  intro pins s σ H x v vl vu lo hi sl Q I rx hs pl pu h
  obtain ⟨d, c, ds, hx, nd, nc, q⟩ := h
  cases hx with
  | @tup a xs _ sa ha =>
    have l1 := dpAll_len ha
    refine sl_tupA pins s σ H _ v vl vu lo hi sl Q I rx hs pl pu ⟨a, xs, rfl, sqT_off sa, fun e => ?_, fun _ p hp => ?_⟩
    · rw [l1] at e
      rw [cutD_all ds lo hi e] at q
      exact q _ _ (Same.refl _) (.tup sa ha)
    · exact q _ _ (same_new hp) (dp_tupO nd nc hp (dpAll_cut lo hi ha))
theorem same_ne {H H' : Hp} (s : Same H H') {a : Addr} (h : H a ≠ none) : H' a ≠ none := by
  cases e : H a with
  | none => exact absurd e h
  | some o =>
    rw [s _ _ e]
    exact fun z => by cases z
theorem off_mono {d c : Addr} {H H' : Hp} (s : Same H H') : Same (off d c H) (off d c H') := fun b o e => by
  unfold off at e ⊢
  split at e
  · cases e
  · rename_i n
    rw [if_neg n]
    exact s _ _ e
end
end HG

set_option maxHeartbeats 4000000
namespace K39
open PySem PySem.Spec PyProof.Rows L2 HG P52
abbrev oneL : List Str := ["g", "h", "m.h", "zz", "a.b"]
abbrev oddL : List PyData := [.none, .bool true, .str "g", .list [.str "g"], .tuple [.int 1], .tuple [.str "h", .str "g"], .tuple [.str "g", .str "g"], .tuple [.none], .int (-1), .tuple [.str "A"], .tuple [.str "start"], .tuple [.str "a.b.c"]]
abbrev ansL (one : Str) (D : PyData) : List PyData := [.tuple [.str one], .tuple [.str one], .tuple [.str one], .tuple [.str "g", .str "h"], .tuple [], D, .none]
theorem okF_one {z : Str} (h : z ∈ oneL) : OkF z := by
  have : ∀ z ∈ oneL, z.length ≤ 1000 ∧ ∀ y ∈ Txt.split z ".", y.length ≤ 1000 := by decide +kernel
  exact this z h
theorem nm_one {z : Str} (h : z ∈ oneL) : Nm z := by
  have h1 : ∀ z ∈ oneL, z.length ≤ 12 := by decide +kernel
  have h2 : ∀ z ∈ oneL, ∀ c ∈ cp z, c < 128 := by decide +kernel
  exact ⟨h1 z h, h2 z h⟩
theorem nt_one {z : Str} (h : z ∈ oneL) : ntB (.tuple [.str z]) = true := by
  have : ∀ z ∈ oneL, ntB (.tuple [.str z]) = true := by decide +kernel
  exact this z h
theorem sh_one {z : Str} (h : z ∈ oneL) : SeqAt.shaped (.tuple [.str z]) = true := by
  have : ∀ z ∈ oneL, SeqAt.shaped (.tuple [.str z]) = true := by decide +kernel
  exact this z h
/-- an answer that is no function -/
def NoOne (D : PyData) : Prop := AnsOk D ∧ SeqAt.shaped D = true ∧ (ntB D = true → ∃ ds, D = .tuple ds ∧ ds.length ≠ 1)
theorem noOne_strs (zs : List Str) (h : (zs.all fun z => decide (z.length ≤ 1000) && (Txt.split z ".").all fun y => decide (y.length ≤ 1000)) = true) (hl : zs.length ≤ 1000) (hs : SeqAt.shaped (.tuple (zs.map .str)) = true) (hn : ntB (.tuple (zs.map .str)) = true → zs.length ≠ 1) : NoOne (.tuple (zs.map .str)) := by
  refine ⟨fun ds e => ?_, hs, fun h => ⟨_, rfl, by rw [List.length_map]; exact hn h⟩⟩
  cases e
  refine ⟨by rw [List.length_map]; exact hl, fun z hz => ?_⟩
  obtain ⟨y, hy, e⟩ := List.mem_map.mp hz
  cases e
  have h1 := List.all_eq_true.mp h z hy
  rw [Bool.and_eq_true, decide_eq_true_eq] at h1
  exact ⟨h1.1, fun y hy => of_decide_eq_true (List.all_eq_true.mp h1.2 y hy)⟩
theorem noOne_odd {D : PyData} (h : D ∈ oddL) : NoOne D := by
  have flat : ∀ {D : PyData}, (∀ ds, D ≠ .tuple ds) → SeqAt.shaped D = true → ntB D = false → NoOne D := fun n s t => ⟨fun ds e => absurd e (n ds), s, fun h => by rw [t] at h; cases h⟩
  simp only [oddL, List.mem_cons, List.not_mem_nil, or_false] at h
  rcases h with rfl | rfl | rfl | rfl | rfl | rfl | rfl | rfl | rfl | rfl | rfl | rfl
  · exact flat (fun _ e => by cases e) (by decide +kernel) (by decide +kernel)
  · exact flat (fun _ e => by cases e) (by decide +kernel) (by decide +kernel)
  · exact flat (fun _ e => by cases e) (by decide +kernel) (by decide +kernel)
  · exact flat (fun _ e => by cases e) (by decide +kernel) (by decide +kernel)
  · exact ⟨fun ds e => by cases e; exact ⟨by decide, fun z hz => by simp at hz⟩, by decide +kernel, fun h => absurd h (by decide +kernel)⟩
  · exact noOne_strs ["h", "g"] (by decide +kernel) (by decide) (by decide +kernel) (fun _ => by decide)
  · exact noOne_strs ["g", "g"] (by decide +kernel) (by decide) (by decide +kernel) (fun _ => by decide)
  · exact ⟨fun ds e => by cases e; exact ⟨by decide, fun z hz => by simp at hz⟩, by decide +kernel, fun h => absurd h (by decide +kernel)⟩
  · exact flat (fun _ e => by cases e) (by decide +kernel) (by decide +kernel)
  · exact noOne_strs ["A"] (by decide +kernel) (by decide) (by decide +kernel) (fun h => absurd h (by decide +kernel))
  · exact noOne_strs ["start"] (by decide +kernel) (by decide) (by decide +kernel) (fun h => absurd h (by decide +kernel))
  · exact noOne_strs ["a.b.c"] (by decide +kernel) (by decide) (by decide +kernel) (fun h => absurd h (by decide +kernel))
/-- the answer that is drawn -/
theorem ans_of {one : Str} {D E : PyData} {w : Nat} (hD : D ∈ oddL) (hw : w < 6) (h : (ansL one D)[w]? = some E) : (w < 3 → E = .tuple [.str one]) ∧ (3 ≤ w → NoOne E) := by
  match w, hw, h with
  | 0, _, h => cases h; exact ⟨fun _ => rfl, fun h => absurd h (by decide)⟩
  | 1, _, h => cases h; exact ⟨fun _ => rfl, fun h => absurd h (by decide)⟩
  | 2, _, h => cases h; exact ⟨fun _ => rfl, fun h => absurd h (by decide)⟩
  | 3, _, h => cases h; exact ⟨fun h => absurd h (by decide), fun _ => noOne_strs ["g", "h"] (by decide +kernel) (by decide) (by decide +kernel) (fun _ => by decide)⟩
  | 4, _, h => cases h; exact ⟨fun h => absurd h (by decide), fun _ => noOne_strs [] (by decide +kernel) (by decide) (by decide +kernel) (fun _ => by decide)⟩
  | 5, _, h => cases h; exact ⟨fun h => absurd h (by decide), fun _ => noOne_odd hD⟩
abbrev oV : Option Str → V
  | some x => .str x
  | none => .non
abbrev fk (one : Str) (v1 v2 v3 : V) : List (List Key × V) := mergeT [] [(kT 0, v1), (kT 2, v2), ([Sum.inr "writes_by", Sum.inl 1], v3), ([Sum.inr "result", Sum.inr one], .int 1)]
theorem fk_none (one : Str) (v1 v2 v3 : V) : valV (fk one v1 v2 v3) (kT 1) = none := by
  unfold fk mergeT
  simp only [List.foldl_cons, List.foldl_nil]
  rw [valV_put, valV_put, valV_put, valV_put, if_neg, if_neg, if_neg, if_neg]
  · rfl
  · intro h; injection h with _ h; injection h with h _; injection h with h; cases h
  · intro h; injection h with _ h; injection h with h _; injection h with h; cases h
  · intro h; injection h with h _; injection h with h; exact absurd h (by decide +kernel)
  · intro h; injection h with h _; injection h with h; exact absurd h (by decide +kernel)
theorem fk_len (one : Str) (v1 v2 v3 : V) : (fk one v1 v2 v3).length ≤ 4 := length_mergeT _ _
def spFacts (K : PySem.W.Frag) : Sp := fun vs H Q _ => ∃ (d c : Addr) (n : Nat), vs = [.ref d] ∧ n < 2 ^ 50 ∧ Deck d c n H ∧
  ∀ (t f : Addr) (X : Option Str) (H' : Hp), Deck d c (n + 3) H' → Ext d c H H' → H' t = some (.tup [.ref f, oV X]) → FaOk K H' f X → (∀ x, X = some x → Nm x) → Q (.ref t) H'
section
variable {P : Program} {w : World} {K : PySem.W.Frag} {mg : Str → Option Value} {base : Heap}
set_option pp.maxSteps 200 in
set_option pp.maxSteps 600 in
theorem c_facts (T : Txt w K mg) : Cal P w K mg base "_law_facts" 3 ["_law_deck_here"] (spFacts K) := by
  obtain ⟨fd, F⟩ := T.d__law_facts
  have C__law_pick := c_pick (P := P) (w := w) (base := base) T
  have C__law_draw := c_draw (P := P) (w := w) (base := base) T
  refine ⟨⟨fd, F.ok sc__law_facts (fun vs H Q E h => by repeat (first | (obtain ⟨e, _⟩ := h; subst e; rfl) | (obtain ⟨_, h⟩ := h))) (fun cdv A outer s H vs Q E hr h => ?_), F.bindsN fun _ _ _ _ _ _ us hl => match us, hl with | [_], _ => rfl⟩, T.g _ (by decide), F.kp⟩
  obtain ⟨d, c, n, rfl, hn, dk, q⟩ := h
  have hu := hu_of hr
  refine ⟨_, PSs.nox (pss_cons (ps_set (i := 1) sc__law_facts.nd rfl (.inl rfl) (pe_cal C__law_pick (hr.mono (by omega)) (by rfl) (pa_cons (pv 0) (pa_cons (pe_lst (pa_cons pe_str (pa_cons pe_str (pa_cons pe_str (pa_cons pe_str (pa_cons pe_str pa_nil)))))) pa_nil))))
      (pss_cons (ps_set (i := 2) sc__law_facts.nd rfl (.inl rfl) (pe_lst (pa_cons pe_non (pa_cons pe_bl (pa_cons pe_str (pa_cons (pe_lst (pa_cons pe_str pa_nil)) (pa_cons (pe_tup (pa_cons pe_int pa_nil)) (pa_cons (pe_tup (pa_cons pe_str (pa_cons pe_str pa_nil))) (pa_cons (pe_tup (pa_cons pe_str (pa_cons pe_str pa_nil))) (pa_cons (pe_tup (pa_cons pe_non pa_nil)) (pa_cons (pe_un un_neg pe_int) (pa_cons (pe_tup (pa_cons pe_str pa_nil)) (pa_cons (pe_tup (pa_cons pe_str pa_nil)) (pa_cons (pe_tup (pa_cons pe_str pa_nil)) pa_nil))))))))))))))
      (pss_cons (ps_set (i := 2) sc__law_facts.nd rfl (.inl rfl) (pe_cal C__law_pick (hr.mono (by omega)) (by rfl) (pa_cons (pv 0) (pa_cons (pv 2) pa_nil))))
      (pss_cons (ps_set (i := 3) sc__law_facts.nd rfl (.inl rfl) (pe_lst (pa_cons (pe_tup (pa_cons (pv 1) pa_nil)) (pa_cons (pe_tup (pa_cons (pv 1) pa_nil)) (pa_cons (pe_tup (pa_cons (pv 1) pa_nil)) (pa_cons (pe_tup (pa_cons pe_str (pa_cons pe_str pa_nil))) (pa_cons (pe_tup pa_nil) (pa_cons (pv 2) (pa_cons pe_non pa_nil)))))))))
      (pss_cons (ps_set (i := 4) sc__law_facts.nd rfl (.inl rfl) (pe_cal C__law_draw (hr.mono (by omega)) (by rfl) (pa_cons (pv 0) (pa_cons pe_int pa_nil))))
      (pss_cons (ps_set (i := 5) sc__law_facts.nd rfl (.inl rfl) (pe_dispT hu (pps_cons (pe_tup (pa_cons pe_str (pa_cons pe_int pa_nil))) (pe_tup (pa_cons pe_str pa_nil)) (pps_cons (pe_tup (pa_cons pe_str (pa_cons pe_int pa_nil))) (pe_tup (pa_cons pe_str pa_nil)) (pps_cons (pe_tup (pa_cons pe_str (pa_cons pe_int pa_nil))) (pe_tup pa_nil) (pps_cons (pe_tup (pa_cons pe_str (pa_cons (pv 1) pa_nil))) pe_int pps_nil)))) (by rfl) (by rfl) (fun z => by cases z) (by decide)))
      (pss_cons (ps_if (pt_cmpR op_lt (pv 4) pe_int (nomark _)) (pss_one (ps_dput hu (pv 5) (pe_tup (pa_cons pe_str (pa_cons pe_int pa_nil))) (pe_ix (ix_listK (K := K) rfl) (pv 3) (pv 4) (fun _ _ => rfl)) rfl)) pss_nil)
      (pss_one (ps_ret (pe_tup (pa_cons (pv 5) (pa_cons (pe_ifExp (pt_cmpR op_lt (pv 4) pe_int (nomark _)) (pv 1) pe_non) pa_nil)))))))))))), ?_⟩
  refine ⟨.ref d, rfl, (by show 5 ≤ sizeLine; decide), fun l1 hl1 => ?_⟩
  have nl1 := dk.has hl1
  have s1 := same_new (o := .lst (oneL.map V.str)) hl1
  refine ⟨d, c, n, .ref l1, rfl, dk.new hl1, by omega, .inr ⟨l1, oneL.map V.str, rfl, .inl (.inl (by rw [off_get nl1.1 nl1.2]; exact upd_same)), by decide, by decide, fun j y H1 hj dk1 X01 => ?_⟩⟩
  rw [List.getElem?_map] at hj
  obtain ⟨one, hone, rfl⟩ := Option.map_eq_some_iff.mp hj
  have hone := List.mem_of_getElem? hone
  have X1 : Ext d c H H1 := (off_same_mono s1).trans X01
  clear X01 hj s1 hl1 nl1 dk l1
  have ndk : ∀ {n : Nat} {H : Hp}, Deck d c n H → H d ≠ none ∧ H c ≠ none := fun D => by
    obtain ⟨ns, m, t, e1, e2, _⟩ := D.ex
    exact ⟨fun z => by (rw [e1] at z; cases z), fun z => by (rw [e2] at z; cases z)⟩
  refine ⟨(by show 1 ≤ sizeLine; decide), fun p2 hp2 => ?_⟩
  have g2 : Dp K (off d c (upd H1 p2 (.lst [.str "g"]))) (.ref p2) (.list [.str "g"]) := dp_lstO (ndk dk1).1 (ndk dk1).2 hp2 (.cons (.str _) .nil)
  have t2 : Same (off d c H1) (off d c (upd H1 p2 (.lst [.str "g"]))) := off_same_mono (same_new hp2)
  have dk2 := dk1.new (o := .lst [.str "g"]) hp2
  generalize upd H1 p2 (.lst [.str "g"]) = H2 at g2 t2 dk2 ⊢
  refine ⟨(by show 1 ≤ sizeLine; decide), fun p3 hp3 => ?_⟩
  have g3 : Dp K (off d c (upd H2 p3 (.tup [.int 1]))) (.ref p3) (.tuple [.int 1]) := dp_tupO (ndk dk2).1 (ndk dk2).2 hp3 (.cons (.int _) .nil)
  have t3 : Same (off d c H2) (off d c (upd H2 p3 (.tup [.int 1]))) := off_same_mono (same_new hp3)
  have dk3 := dk2.new (o := .tup [.int 1]) hp3
  generalize upd H2 p3 (.tup [.int 1]) = H3 at g3 t3 dk3 ⊢
  refine ⟨(by show 2 ≤ sizeLine; decide), fun p4 hp4 => ?_⟩
  have g4 : Dp K (off d c (upd H3 p4 (.tup [.str "h", .str "g"]))) (.ref p4) (.tuple [.str "h", .str "g"]) := dp_tupO (ndk dk3).1 (ndk dk3).2 hp4 (.cons (.str _) (.cons (.str _) .nil))
  have t4 : Same (off d c H3) (off d c (upd H3 p4 (.tup [.str "h", .str "g"]))) := off_same_mono (same_new hp4)
  have dk4 := dk3.new (o := .tup [.str "h", .str "g"]) hp4
  generalize upd H3 p4 (.tup [.str "h", .str "g"]) = H4 at g4 t4 dk4 ⊢
  refine ⟨(by show 2 ≤ sizeLine; decide), fun p5 hp5 => ?_⟩
  have g5 : Dp K (off d c (upd H4 p5 (.tup [.str "g", .str "g"]))) (.ref p5) (.tuple [.str "g", .str "g"]) := dp_tupO (ndk dk4).1 (ndk dk4).2 hp5 (.cons (.str _) (.cons (.str _) .nil))
  have t5 : Same (off d c H4) (off d c (upd H4 p5 (.tup [.str "g", .str "g"]))) := off_same_mono (same_new hp5)
  have dk5 := dk4.new (o := .tup [.str "g", .str "g"]) hp5
  generalize upd H4 p5 (.tup [.str "g", .str "g"]) = H5 at g5 t5 dk5 ⊢
  refine ⟨(by show 1 ≤ sizeLine; decide), fun p6 hp6 => ?_⟩
  have g6 : Dp K (off d c (upd H5 p6 (.tup [.non]))) (.ref p6) (.tuple [.none]) := dp_tupO (ndk dk5).1 (ndk dk5).2 hp6 (.cons .non .nil)
  have t6 : Same (off d c H5) (off d c (upd H5 p6 (.tup [.non]))) := off_same_mono (same_new hp6)
  have dk6 := dk5.new (o := .tup [.non]) hp6
  generalize upd H5 p6 (.tup [.non]) = H6 at g6 t6 dk6 ⊢
  refine ⟨_, rfl, ?_⟩
  refine ⟨(by show 1 ≤ sizeLine; decide), fun p7 hp7 => ?_⟩
  have g7 : Dp K (off d c (upd H6 p7 (.tup [.str "A"]))) (.ref p7) (.tuple [.str "A"]) := dp_tupO (ndk dk6).1 (ndk dk6).2 hp7 (.cons (.str _) .nil)
  have t7 : Same (off d c H6) (off d c (upd H6 p7 (.tup [.str "A"]))) := off_same_mono (same_new hp7)
  have dk7 := dk6.new (o := .tup [.str "A"]) hp7
  generalize upd H6 p7 (.tup [.str "A"]) = H7 at g7 t7 dk7 ⊢
  refine ⟨(by show 1 ≤ sizeLine; decide), fun p8 hp8 => ?_⟩
  have g8 : Dp K (off d c (upd H7 p8 (.tup [.str "start"]))) (.ref p8) (.tuple [.str "start"]) := dp_tupO (ndk dk7).1 (ndk dk7).2 hp8 (.cons (.str _) .nil)
  have t8 : Same (off d c H7) (off d c (upd H7 p8 (.tup [.str "start"]))) := off_same_mono (same_new hp8)
  have dk8 := dk7.new (o := .tup [.str "start"]) hp8
  generalize upd H7 p8 (.tup [.str "start"]) = H8 at g8 t8 dk8 ⊢
  refine ⟨(by show 1 ≤ sizeLine; decide), fun p9 hp9 => ?_⟩
  have g9 : Dp K (off d c (upd H8 p9 (.tup [.str "a.b.c"]))) (.ref p9) (.tuple [.str "a.b.c"]) := dp_tupO (ndk dk8).1 (ndk dk8).2 hp9 (.cons (.str _) .nil)
  have t9 : Same (off d c H8) (off d c (upd H8 p9 (.tup [.str "a.b.c"]))) := off_same_mono (same_new hp9)
  have dk9 := dk8.new (o := .tup [.str "a.b.c"]) hp9
  generalize upd H8 p9 (.tup [.str "a.b.c"]) = H9 at g9 t9 dk9 ⊢
  refine ⟨(by show 12 ≤ sizeLine; decide), fun l hl => ?_⟩
  have gO : DpAll K (off d c H9) [.non, .bl true, .str "g", .ref p2, .ref p3, .ref p4, .ref p5, .ref p6, .int (-1), .ref p7, .ref p8, .ref p9] oddL := (.cons .non (.cons (.bl _) (.cons (.str _) (.cons (dp_mono (t3.trans (t4.trans (t5.trans (t6.trans (t7.trans (t8.trans (t9))))))) _ _ g2) (.cons (dp_mono (t4.trans (t5.trans (t6.trans (t7.trans (t8.trans (t9)))))) _ _ g3) (.cons (dp_mono (t5.trans (t6.trans (t7.trans (t8.trans (t9))))) _ _ g4) (.cons (dp_mono (t6.trans (t7.trans (t8.trans (t9)))) _ _ g5) (.cons (dp_mono (t7.trans (t8.trans (t9))) _ _ g6) (.cons (.int _) (.cons (dp_mono (t8.trans (t9)) _ _ g7) (.cons (dp_mono (t9) _ _ g8) (.cons g9 .nil))))))))))))
  have tO : Same (off d c H1) (off d c H9) := t2.trans (t3.trans (t4.trans (t5.trans (t6.trans (t7.trans (t8.trans (t9)))))))
  clear g2 t2 g3 t3 g4 t4 g5 t5 g6 t6 g7 t7 g8 t8 g9 t9
  have nl := dk9.has hl
  have sl := same_new (o := .lst [.non, .bl true, .str "g", .ref p2, .ref p3, .ref p4, .ref p5, .ref p6, .int (-1), .ref p7, .ref p8, .ref p9]) hl
  have X9 : Ext d c H H9 := X1.trans tO
  refine ⟨.ref d, rfl, .ref l, rfl, d, c, _, .ref l, rfl, dk9.new hl, by omega, .inr ⟨l, [.non, .bl true, .str "g", .ref p2, .ref p3, .ref p4, .ref p5, .ref p6, .int (-1), .ref p7, .ref p8, .ref p9], rfl, .inl (.inl (by rw [off_get nl.1 nl.2]; exact upd_same)), (by show 0 < 12; decide), (by show 12 ≤ 1000; decide), fun j y H10 hj dk10 X010 => ?_⟩⟩
  have gO := dpAll_mono (off_same_mono sl) _ _ gO
  obtain ⟨D, hDj, hyD⟩ := dpAll_get gO hj
  have hyD := X010.dp hyD
  have hD := List.mem_of_getElem? hDj
  have X10 : Ext d c H H10 := X9.trans ((off_same_mono sl).trans X010)
  clear X010 gO hj hDj sl nl hl X9 tO X1 dk9
  refine ⟨_, rfl, (by show 1 ≤ sizeLine; decide), fun p11 hp11 => ?_⟩
  have g11 : Dp K (off d c (upd H10 p11 (.tup [.str one]))) (.ref p11) (.tuple [.str one]) := dp_tupO (ndk dk10).1 (ndk dk10).2 hp11 (.cons (.str _) .nil)
  have t11 : Same (off d c H10) (off d c (upd H10 p11 (.tup [.str one]))) := off_same_mono (same_new hp11)
  have dk11 := dk10.new (o := .tup [.str one]) hp11
  generalize upd H10 p11 (.tup [.str one]) = H11 at g11 t11 dk11 ⊢
  refine ⟨_, rfl, (by show 1 ≤ sizeLine; decide), fun p12 hp12 => ?_⟩
  have g12 : Dp K (off d c (upd H11 p12 (.tup [.str one]))) (.ref p12) (.tuple [.str one]) := dp_tupO (ndk dk11).1 (ndk dk11).2 hp12 (.cons (.str _) .nil)
  have t12 : Same (off d c H11) (off d c (upd H11 p12 (.tup [.str one]))) := off_same_mono (same_new hp12)
  have dk12 := dk11.new (o := .tup [.str one]) hp12
  generalize upd H11 p12 (.tup [.str one]) = H12 at g12 t12 dk12 ⊢
  refine ⟨_, rfl, (by show 1 ≤ sizeLine; decide), fun p13 hp13 => ?_⟩
  have g13 : Dp K (off d c (upd H12 p13 (.tup [.str one]))) (.ref p13) (.tuple [.str one]) := dp_tupO (ndk dk12).1 (ndk dk12).2 hp13 (.cons (.str _) .nil)
  have t13 : Same (off d c H12) (off d c (upd H12 p13 (.tup [.str one]))) := off_same_mono (same_new hp13)
  have dk13 := dk12.new (o := .tup [.str one]) hp13
  generalize upd H12 p13 (.tup [.str one]) = H13 at g13 t13 dk13 ⊢
  refine ⟨(by show 2 ≤ sizeLine; decide), fun p14 hp14 => ?_⟩
  have g14 : Dp K (off d c (upd H13 p14 (.tup [.str "g", .str "h"]))) (.ref p14) (.tuple [.str "g", .str "h"]) := dp_tupO (ndk dk13).1 (ndk dk13).2 hp14 (.cons (.str _) (.cons (.str _) .nil))
  have t14 : Same (off d c H13) (off d c (upd H13 p14 (.tup [.str "g", .str "h"]))) := off_same_mono (same_new hp14)
  have dk14 := dk13.new (o := .tup [.str "g", .str "h"]) hp14
  generalize upd H13 p14 (.tup [.str "g", .str "h"]) = H14 at g14 t14 dk14 ⊢
  refine ⟨(by show 0 ≤ sizeLine; decide), fun p15 hp15 => ?_⟩
  have g15 : Dp K (off d c (upd H14 p15 (.tup []))) (.ref p15) (.tuple []) := dp_tupO (ndk dk14).1 (ndk dk14).2 hp15 .nil
  have t15 : Same (off d c H14) (off d c (upd H14 p15 (.tup []))) := off_same_mono (same_new hp15)
  have dk15 := dk14.new (o := .tup []) hp15
  generalize upd H14 p15 (.tup []) = H15 at g15 t15 dk15 ⊢
  refine ⟨y, rfl, (by show 7 ≤ sizeLine; decide), fun l hl => ?_⟩
  have gA : DpAll K (off d c H15) [.ref p11, .ref p12, .ref p13, .ref p14, .ref p15, y, .non] (ansL one D) := (.cons (dp_mono (t12.trans (t13.trans (t14.trans (t15)))) _ _ g11) (.cons (dp_mono (t13.trans (t14.trans (t15))) _ _ g12) (.cons (dp_mono (t14.trans (t15)) _ _ g13) (.cons (dp_mono (t15) _ _ g14) (.cons g15 (.cons (dp_mono (t11.trans (t12.trans (t13.trans (t14.trans (t15))))) _ _ hyD) (.cons .non .nil)))))))
  have tA : Same (off d c H10) (off d c H15) := t11.trans (t12.trans (t13.trans (t14.trans (t15))))
  clear hyD g11 t11 g12 t12 g13 t13 g14 t14 g15 t15
  have nl := dk15.has hl
  have dkl := dk15.new (o := .lst [.ref p11, .ref p12, .ref p13, .ref p14, .ref p15, y, .non]) hl
  have eA : (upd H15 l (.lst [.ref p11, .ref p12, .ref p13, .ref p14, .ref p15, y, .non])) l = some (.lst [.ref p11, .ref p12, .ref p13, .ref p14, .ref p15, y, .non]) := upd_same
  have gA := dpAll_mono (off_same_mono (same_new (o := .lst [.ref p11, .ref p12, .ref p13, .ref p14, .ref p15, y, .non]) hl)) _ _ gA
  have X16 : Ext d c H (upd H15 l (.lst [.ref p11, .ref p12, .ref p13, .ref p14, .ref p15, y, .non])) := X10.trans (tA.trans (off_same_mono (same_new hl)))
  clear tA X10 hl dk15
  generalize upd H15 l (.lst [.ref p11, .ref p12, .ref p13, .ref p14, .ref p15, y, .non]) = H16 at dkl eA gA X16 ⊢
  refine ⟨.ref d, rfl, d, c, _, 7, rfl, by decide, by decide, by omega, dkl, fun r H17 r0 r1 dk17 X017 => ?_⟩
  obtain ⟨wy, rfl⟩ := Int.eq_ofNat_of_zero_le r0
  have eA17 := X017.at nl.1 nl.2 eA
  have gA17 := dpAll_mono X017 _ _ gA
  have X17 := X16.trans X017
  clear X16 dkl gA X017
  clear eA
  generalize eAV : [.ref p11, .ref p12, .ref p13, .ref p14, .ref p15, y, .non] = AV at eA17 gA17
  clear eAV
  -- the facts
  intro pd hpd
  have npd := dk17.has hpd
  have npl : pd ≠ l := fun z => by rw [z, eA17] at hpd; cases hpd
  have s18 := same_new (o := .dT []) hpd
  have e18 : (upd H17 pd (.dT [])) pd = some (.dT []) := upd_same
  have dk18 := dk17.new (o := .dT []) hpd
  generalize upd H17 pd (.dT []) = H18 at s18 e18 dk18 ⊢
  refine ⟨(by show 2 ≤ sizeLine; decide), fun k1 hk1 => ?_⟩
  have s19 := same_new (o := .tup (qT 0)) hk1
  have e19 : (upd H18 k1 (.tup (qT 0))) k1 = some (.tup (qT 0)) := upd_same
  have dk19 := dk18.new (o := .tup (qT 0)) hk1
  generalize upd H18 k1 (.tup (qT 0)) = H19 at s19 e19 dk19 ⊢
  refine ⟨(by show 1 ≤ sizeLine; decide), fun v1 hv1 => ?_⟩
  have s20 := same_new (o := .tup [.str "f"]) hv1
  have e20 : (upd H19 v1 (.tup [.str "f"])) v1 = some (.tup [.str "f"]) := upd_same
  have dk20 := dk19.new (o := .tup [.str "f"]) hv1
  generalize upd H19 v1 (.tup [.str "f"]) = H20 at s20 e20 dk20 ⊢
  refine ⟨(by show 2 ≤ sizeLine; decide), fun k2 hk2 => ?_⟩
  have s21 := same_new (o := .tup (qT 2)) hk2
  have e21 : (upd H20 k2 (.tup (qT 2))) k2 = some (.tup (qT 2)) := upd_same
  have dk21 := dk20.new (o := .tup (qT 2)) hk2
  generalize upd H20 k2 (.tup (qT 2)) = H21 at s21 e21 dk21 ⊢
  refine ⟨(by show 1 ≤ sizeLine; decide), fun v2 hv2 => ?_⟩
  have s22 := same_new (o := .tup [.str "m.h"]) hv2
  have e22 : (upd H21 v2 (.tup [.str "m.h"])) v2 = some (.tup [.str "m.h"]) := upd_same
  have dk22 := dk21.new (o := .tup [.str "m.h"]) hv2
  generalize upd H21 v2 (.tup [.str "m.h"]) = H22 at s22 e22 dk22 ⊢
  refine ⟨(by show 2 ≤ sizeLine; decide), fun k3 hk3 => ?_⟩
  have s23 := same_new (o := .tup [.str "writes_by", .int 1]) hk3
  have e23 : (upd H22 k3 (.tup [.str "writes_by", .int 1])) k3 = some (.tup [.str "writes_by", .int 1]) := upd_same
  have dk23 := dk22.new (o := .tup [.str "writes_by", .int 1]) hk3
  generalize upd H22 k3 (.tup [.str "writes_by", .int 1]) = H23 at s23 e23 dk23 ⊢
  refine ⟨(by show 0 ≤ sizeLine; decide), fun v3 hv3 => ?_⟩
  have s24 := same_new (o := .tup []) hv3
  have e24 : (upd H23 v3 (.tup [])) v3 = some (.tup []) := upd_same
  have dk24 := dk23.new (o := .tup []) hv3
  generalize upd H23 v3 (.tup []) = H24 at s24 e24 dk24 ⊢
  refine ⟨_, rfl, (by show 2 ≤ sizeLine; decide), fun k4 hk4 => ?_⟩
  have s25 := same_new (o := .tup [.str "result", .str one]) hk4
  have e25 : (upd H24 k4 (.tup [.str "result", .str one])) k4 = some (.tup [.str "result", .str one]) := upd_same
  have dk25 := dk24.new (o := .tup [.str "result", .str one]) hk4
  generalize upd H24 k4 (.tup [.str "result", .str one]) = H25 at s25 e25 dk25 ⊢
  have s18e : Same H18 H25 := s19.trans (s20.trans (s21.trans (s22.trans (s23.trans (s24.trans (s25))))))
  have e19 := (s20.trans (s21.trans (s22.trans (s23.trans (s24.trans (s25)))))) _ _ e19
  have e21 := (s22.trans (s23.trans (s24.trans (s25)))) _ _ e21
  have e23 := (s24.trans (s25)) _ _ e23
  have ep := s18e _ _ e18
  refine ⟨ep, [⟨kT 0, k1, .ref v1⟩, ⟨kT 2, k2, .ref v2⟩, ⟨[Sum.inr "writes_by", Sum.inl 1], k3, .ref v3⟩, ⟨[Sum.inr "result", Sum.inr one], k4, .int 1⟩], rfl, ?_, (by show 4 ≤ 15; decide), ?_⟩
  · intro x hx
    simp only [List.mem_cons, List.not_mem_nil, or_false] at hx
    rcases hx with rfl | rfl | rfl | rfl
    · exact e19
    · exact e21
    · exact e23
    · exact e25
  have eAl := s18e _ _ (s18 _ _ eA17)
  generalize eH : upd H25 pd _ = H26
  have eH : H26 = upd H25 pd (.dT (fk one (.ref v1) (.ref v2) (.ref v3))) := eH.symm
  have X26 : Ext d c H17 H26 := by rw [eH]; exact Ext.mut (off_same_mono (s18.trans s18e)) hpd
  have dk26 : Deck d c (n + 3) H26 := by rw [eH]; exact dk25.upd npd.1 npd.2
  have e26 : H26 pd = some (.dT (fk one (.ref v1) (.ref v2) (.ref v3))) := by rw [eH]; exact upd_same
  have eA26 : H26 l = some (.lst AV) := by rw [eH, upd_ne npl.symm]; exact eAl
  clear e19 e20 e21 e22 e23 e24 e25 s19 s20 s21 s22 s23 s24 s25 s18e e18 s18 dk18 dk19 dk20 dk21 dk22 dk23 dk24 ep eAl dk25 eH
  have fin : ∀ (X : Option Str) (kvs : List (List Key × V)) (H28 : Hp), Ext d c H17 H28 → Deck d c (n + 3) H28 → H28 pd = some (.dT kvs) →
      ((∃ v, X = some one ∧ valV kvs (kT 1) = some v ∧ Dp K (off d c H17) v (.tuple [.str one])) ∨ (X = none ∧ (valV kvs (kT 1) = none ∨ ∃ v E, valV kvs (kT 1) = some v ∧ Dp K (off d c H17) v E ∧ NoOne E))) →
      ∀ t, H28 t = none → Q (.ref t) (upd H28 t (.tup [.ref pd, oV X])) := by
    intro X kvs H28 X28 dk28 e28 hX t ht
    have s29 := same_new (o := .tup [.ref pd, oV X]) ht
    have X29 := X28.trans (off_same_mono s29)
    refine q t pd X _ (dk28.new ht) (X17.trans X29) upd_same ⟨kvs, s29 _ _ e28, ?_⟩ ?_
    · rcases hX with ⟨v, rfl, hv, hvD⟩ | ⟨rfl, hv | ⟨v, E, hv, hvD, n1, n2, n3⟩⟩
      · exact .inl ⟨one, v, rfl, hv, offD (X29.dp hvD), okF_one hone, nt_one hone, sh_one hone⟩
      · exact .inr ⟨rfl, .inl hv⟩
      · exact .inr ⟨rfl, .inr ⟨v, E, hv, offD (X29.dp hvD), n1, n2, n3⟩⟩
    · intro x hx
      rcases hX with ⟨v, rfl, _⟩ | ⟨rfl, _⟩
      · cases hx
        exact nm_one hone
      · cases hx
  refine ⟨.int (wy : Int), rfl, _, _, rfl, rfl, _, rfl, ?_⟩
  by_cases hw : wy < 6
  · rw [decide_eq_true (show ((wy : Int) < 6) by omega)]
    obtain ⟨E, hE⟩ : ∃ E, (ansL one D)[wy]? = some E := ⟨_, List.getElem?_eq_getElem (by show wy < 7; omega)⟩
    obtain ⟨v, hv, hvE⟩ := dpAll_getD gA17 hE
    obtain ⟨a1, a2⟩ := ans_of hD hw hE
    refine iteT ⟨.ref l, rfl, .int wy, rfl, l, AV, (wy : Int), v, rfl, rfl, .inl (.inl eA26), atI_nat hv, .ref pd, rfl, (by show 2 ≤ sizeLine; decide), fun kk hkk => ?_⟩
    have s27 := same_new (o := .tup (qT 1)) hkk
    have ek : (upd H26 kk (.tup (qT 1))) kk = some (.tup (qT 1)) := upd_same
    have X27 := X26.trans (off_same_mono s27)
    have dk27 := dk26.new (o := .tup (qT 1)) hkk
    have e27 := s27 _ _ e26
    generalize upd H26 kk (.tup (qT 1)) = H27 at s27 ek X27 dk27 e27 ⊢
    have hl4 := fk_len one (.ref v1) (.ref v2) (.ref v3)
    refine ⟨pd, _, rfl, DPut.t (k := kT 1) e27 ek (Nat.lt_of_le_of_lt hl4 (by decide)), ?_⟩
    have X28 : Ext d c H17 (upd H27 pd (.dT (putK (fk one (.ref v1) (.ref v2) (.ref v3)) (kT 1) v))) := X27.mut hpd
    have dk28 : Deck d c (n + 3) (upd H27 pd (.dT (putK (fk one (.ref v1) (.ref v2) (.ref v3)) (kT 1) v))) := dk27.upd npd.1 npd.2
    have vv : valV (putK (fk one (.ref v1) (.ref v2) (.ref v3)) (kT 1) v) (kT 1) = some v := by rw [valV_put, if_pos rfl]
    refine ⟨.ref pd, rfl, .int (wy : Int), rfl, _, _, rfl, rfl, _, rfl, ?_⟩
    by_cases h3 : wy < 3
    · rw [decide_eq_true (show ((wy : Int) < 3) by omega)]
      rw [a1 h3] at hvE
      exact iteT ⟨.str one, rfl, (by show 2 ≤ sizeLine; decide), fin (some one) _ _ X28 dk28 upd_same (.inl ⟨v, rfl, vv, hvE⟩)⟩
    · rw [decide_eq_false (show ¬ ((wy : Int) < 3) by omega)]
      exact iteF ⟨(by show 2 ≤ sizeLine; decide), fin none _ _ X28 dk28 upd_same (.inr ⟨rfl, .inr ⟨v, E, vv, hvE, a2 (by omega)⟩⟩)⟩
  · rw [decide_eq_false (show ¬ ((wy : Int) < 6) by omega)]
    refine iteF ⟨.ref pd, rfl, .int (wy : Int), rfl, _, _, rfl, rfl, _, rfl, ?_⟩
    rw [decide_eq_false (show ¬ ((wy : Int) < 3) by omega)]
    exact iteF ⟨(by show 2 ≤ sizeLine; decide), fin none _ _ X26 dk26 e26 (.inr ⟨rfl, .inl (fk_none one _ _ _)⟩)⟩
end
end K39

set_option maxHeartbeats 4000000
/-! HLs: lists of data, apart from the deck (two places) and from a list that is being made (a third). -/
namespace HG
open PySem PySem.Spec PyProof.Rows L2
section
variable {K : PySem.W.Frag}
structure LsD (K : PySem.W.Frag) (H : Hp) (a : Addr) (Ds : List PyData) : Prop where
  ex : ∃ vs, H a = some (.lst vs) ∧ DpAll K H vs Ds
theorem LsD.mono {H H' : Hp} {a : Addr} {Ds : List PyData} (h : LsD K H a Ds) (s : Same H H') : LsD K H' a Ds := by
  obtain ⟨vs, e, g⟩ := h.ex
  exact ⟨vs, s _ _ e, dpAll_mono s _ _ g⟩
def off3 (d c D : Addr) (H : Hp) : Hp := off D D (off d c H)
theorem off3_get {d c D b : Addr} {H : Hp} (h1 : b ≠ d) (h2 : b ≠ c) (h3 : b ≠ D) : off3 d c D H b = H b := by
  unfold off3
  rw [off_get h3 h3, off_get h1 h2]
theorem off3_same {d c D : Addr} {H : Hp} : Same (off3 d c D H) (off d c H) := off_same
theorem off3_mono {d c D : Addr} {H H' : Hp} (s : Same (off d c H) (off d c H')) : Same (off3 d c D H) (off3 d c D H') := off_mono s
theorem off3_new {d c D p : Addr} {H : Hp} {o : HO} (hp : H p = none) : Same (off3 d c D H) (off3 d c D (upd H p o)) := off_mono (off_mono (same_new hp))
theorem off3_upd {d c D : Addr} {H : Hp} {o : HO} (h1 : D ≠ d) (h2 : D ≠ c) : Same (off3 d c D H) (off3 d c D (upd H D o)) := fun b u e => by
  unfold off3 off at e ⊢
  split at e
  · cases e
  rename_i n
  have nb : b ≠ D := fun z => n (.inl z)
  rw [if_neg n]
  split at e
  · cases e
  rename_i n2
  rw [if_neg n2, upd_ne nb]
  exact e
theorem off3_in {d c D : Addr} {H H' : Hp} (hD : H D = none) (X : Ext d c H H') : Same (off d c H) (off3 d c D H') := fun b u e => by
  have nb : b ≠ D := fun z => by
    rw [z] at e
    unfold off at e
    split at e
    · cases e
    · rw [hD] at e
      cases e
  have e2 := X b u e
  unfold off3
  rw [off_get nb nb]
  exact e2
theorem dp_tup3 {d c D p : Addr} {H : Hp} {vs : List V} {ds : List PyData} (h1 : p ≠ d) (h2 : p ≠ c) (h3 : p ≠ D) (hp : H p = none) (h : DpAll K (off3 d c D H) vs ds) : Dp K (off3 d c D (upd H p (.tup vs))) (.ref p) (.tuple ds) :=
  .tup (.inl (.inl (by rw [off3_get h1 h2 h3, upd_same]))) (dpAll_mono (off3_new hp) _ _ h)
theorem dp_lst3 {d c D p : Addr} {H : Hp} {vs : List V} {ds : List PyData} (h1 : p ≠ d) (h2 : p ≠ c) (h3 : p ≠ D) (hp : H p = none) (h : DpAll K (off3 d c D H) vs ds) : Dp K (off3 d c D (upd H p (.lst vs))) (.ref p) (.list ds) :=
  .lst (.inl (.inl (by rw [off3_get h1 h2 h3, upd_same]))) (dpAll_mono (off3_new hp) _ _ h)
/-- a list that is being made at D: what it holds so far -/
structure Mk3 (K : PySem.W.Frag) (d c D : Addr) (H : Hp) (acc : List V) (Ds : List PyData) : Prop where
  at_ : H D = some (.lst acc)
  nd : D ≠ d
  nc : D ≠ c
  all : DpAll K (off3 d c D H) acc Ds
theorem Mk3.step {d c D : Addr} {H : Hp} {acc : List V} {Ds : List PyData} {v : V} {E : PyData} (h : Mk3 K d c D H acc Ds) (hv : Dp K (off3 d c D H) v E) : Mk3 K d c D (upd H D (.lst (acc ++ [v]))) (acc ++ [v]) (Ds ++ [E]) :=
  ⟨upd_same, h.nd, h.nc, dpAll_mono (off3_upd h.nd h.nc) _ _ (dpAll_app h.all (.cons hv .nil))⟩
theorem Mk3.mono {d c D : Addr} {H H' : Hp} {acc : List V} {Ds : List PyData} (h : Mk3 K d c D H acc Ds) (s : Ext d c H H') : Mk3 K d c D H' acc Ds :=
  ⟨s.at h.nd h.nc h.at_, h.nd, h.nc, dpAll_mono (off3_mono s) _ _ h.all⟩
theorem Mk3.done {d c D : Addr} {H : Hp} {acc : List V} {Ds : List PyData} (h : Mk3 K d c D H acc Ds) : LsD K (off d c H) D Ds :=
  ⟨acc, by rw [off_get h.nd h.nc]; exact h.at_, dpAll_mono off3_same _ _ h.all⟩
theorem Mk3.start {d c D : Addr} {H : Hp} (h1 : D ≠ d) (h2 : D ≠ c) : Mk3 K d c D (upd H D (.lst [])) [] [] := ⟨upd_same, h1, h2, .nil⟩
theorem offA {d c a : Addr} {H : Hp} {o : HO} (h : off d c H a = some o) : H a = some o := off_same _ _ h
variable {X : Cx}
/-- a + b, two lists of data -/
def rCatLs (K : PySem.W.Frag) : R2 := fun x y H Q => ∃ d c a b Ds Es, x = .ref a ∧ y = .ref b ∧ LsD K (off d c H) a Ds ∧ LsD K (off d c H) b Es ∧ H d ≠ none ∧ H c ≠ none ∧ Ds.length + Es.length ≤ sizeLine ∧ ∀ p H', H p = none → Same H H' → LsD K (off d c H') p (Ds ++ Es) → Q (.ref p) H'
theorem op_catLs (hK : X.K = K) : OpR X (binaryOp .Add) (rCatLs K) := by
  subst hK
  intro pins s σ H x y v u Q I rx ry h
  obtain ⟨d, c, a, b, Ds, Es, rfl, rfl, ⟨xs, ea, ga⟩, ⟨ys, eb, gb⟩, nd, nc, hz, q⟩ := h
  have l1 := dpAll_len ga
  have l2 := dpAll_len gb
  refine op_cat pins s σ H _ _ v u Q I rx ry ⟨a, b, xs, ys, rfl, rfl, offA ea, offA eb, by omega, fun p hp => ?_⟩
  exact q p _ hp (same_new hp) ⟨xs ++ ys, off_at nd nc hp, dpAll_mono (off_new nd nc hp) _ _ (dpAll_app ga gb)⟩
/-- t + u, tuples of data apart from three places -/
def rCat3 (K : PySem.W.Frag) : R2 := fun x y H Q => ∃ d c D ds es, Dp K (off3 d c D H) x (.tuple ds) ∧ Dp K (off3 d c D H) y (.tuple es) ∧ H d ≠ none ∧ H c ≠ none ∧ H D ≠ none ∧ ds.length + es.length ≤ sizeLine ∧ ∀ z H', Same H H' → Dp K (off3 d c D H') z (.tuple (ds ++ es)) → Q z H'
theorem op_cat3 (hK : X.K = K) : OpR X (binaryOp .Add) (rCat3 K) := by
  subst hK
  intro pins s σ H x y v u Q I rx ry h
  obtain ⟨d, c, D, ds, es, hx, hy, nd, nc, nD, hz, q⟩ := h
  cases hx with
  | @tup a xs _ sa ha =>
    cases hy with
    | @tup b ys _ sb hb =>
      have l1 := dpAll_len ha
      have l2 := dpAll_len hb
      refine op_catA pins s σ H _ _ v u Q I rx ry ⟨a, b, xs, ys, rfl, rfl, sqT_off (sqT_off sa), sqT_off (sqT_off sb), by omega, fun e => ?_, fun _ e => ?_, fun _ _ p hp => ?_⟩
      · subst e
        cases ha
        exact q _ _ (Same.refl _) (.tup sb hb)
      · subst e
        cases hb
        rw [List.append_nil] at q
        exact q _ _ (Same.refl _) (.tup sa ha)
      · have n1 : p ≠ d := fun z => nd (by rw [← z]; exact hp)
        have n2 : p ≠ c := fun z => nc (by rw [← z]; exact hp)
        have n3 : p ≠ D := fun z => nD (by rw [← z]; exact hp)
        exact q _ _ (same_new hp) (dp_tup3 n1 n2 n3 hp (dpAll_app ha hb))
end
end HG

set_option maxHeartbeats 4000000
/-! HJoin: several ways through an expression or a statement join in one: its reading asks for an invariant first. -/
namespace HG
open PySem PySem.Spec PyProof.Rows L2
section
variable {X : Cx}
def tJoin (t : TE) : TE := fun σ H Q => ∃ I : V → Hp → Prop, t σ H I ∧ ∀ v H', I v H' → Q v H'
theorem pe_join {e : Expr} {t : TE} (h : PE X e t) : PE X e (tJoin t) := ⟨fun pins s σ H Q I ⟨J, q, w⟩ =>
  thn (h.run pins s σ H J I q) fun u s' ⟨v, H', I', r, j⟩ => ⟨v, H', I', r, w v H' j⟩⟩
def sJoin (t : TS) : TS := fun D σ H => ∃ I : L2.St → Hp → Prop, t { D with nx := I } σ H ∧ ∀ σ' H', I σ' H' → D.nx σ' H'
theorem sp_nx {pins : List (Addr × Obj)} {D : Ends} {I : L2.St → Hp → Prop} (w : ∀ σ' H', I σ' H' → D.nx σ' H') {f : Flow} {s' : Shared} (h : SP X pins { D with nx := I } f s') : SP X pins D f s' := by
  cases f with
  | next =>
    obtain ⟨σ', H', I', j⟩ := h
    exact ⟨σ', H', I', w σ' H' j⟩
  | brk => exact h
  | cont => exact h
  | ret u => exact h
theorem ps_join {st : Stmt} {t : TS} (h : PS X st t) : PS X st (sJoin t) := ⟨fun pins s σ H D I ⟨J, q, w⟩ =>
  thn (h.run pins s σ H { D with nx := J } I q) fun f s' q' => sp_nx w q'⟩
theorem pss_join {st : List Stmt} {t : TS} (h : PSs X st t) : PSs X st (sJoin t) := ⟨fun pins s σ H D I ⟨J, q, w⟩ =>
  thn (h.run pins s σ H { D with nx := J } I q) fun f s' q' => sp_nx w q'⟩
def ttJoin (t : TT) : TT := fun σ H Q => ∃ I : Bool → Hp → Prop, t σ H I ∧ ∀ b H', I b H' → Q b H'
theorem pt_join {e : Expr} {t : TT} (h : PT X e t) : PT X e (ttJoin t) := ⟨fun pins s σ H Q I ⟨J, q, w⟩ =>
  thn (h.run pins s σ H J I q) fun u s' ⟨H', I', j⟩ => ⟨H', I', w u H' j⟩⟩
end
end HG

set_option maxHeartbeats 4000000
namespace K39
open PySem PySem.Spec PyProof.Rows L2 HG P52
abbrev plD (p : Nat × Nat) : PyData := .tuple [.int (p.1 : Int), .int (p.2 : Int)]
def PlOk (g : Gr) (p : Nat × Nat) : Prop := ∃ B o f as, g.blocks[p.1]? = some B ∧ B.rows[p.2]? = some (.ap o f as)
def NoHit (g : Gr) (D : PyData) : Prop := ∀ b k B o f as, ¬ Hit g D b k B o f as
structure OtOk (g : Gr) (D : PyData) : Prop where
  ex : ∃ ds, D = .tuple ds ∧ ds.length ≤ 3 ∧ PyData.canLayAll0 ds = true ∧ PyData.depthAll ds ≤ 3 ∧ NoHit g (.tuple (.str "devirtualize" :: ds))
structure StOk (g : Gr) (D : PyData) : Prop where
  sh : SeqAt.shaped D = true
  fm : (∃ r, D = .tuple (.str "devirtualize" :: r)) ∨ ∃ ds, D = .list ds
  no : NoHit g D
theorem sh_dv {ds : List PyData} (h : PyData.canLayAll0 ds = true) (hd : PyData.depthAll ds ≤ 3) : SeqAt.shaped (.tuple (.str "devirtualize" :: ds)) = true := by
  have e : PyData.strOk "devirtualize" = true := by decide +kernel
  unfold SeqAt.shaped
  simp only [PyData.canLay0, PyData.canLayAll0, e, h, PyData.depth, PyData.depthAll, Bool.true_and, Bool.and_self, Bool.and_true]
  exact decide_eq_true (by omega)
theorem dv_two {b k : PyData} {D2 : List PyData} (h : PyData.tuple (.str "devirtualize" :: D2) = .tuple [.str "devirtualize", b, k]) : D2 = [b, k] := by
  injection h with h
  injection h with _ h
/-- two parts: a place that holds no apply -/
theorem ot_two {g : Gr} {bD kD : PyData} (h1 : PyData.canLay0 bD = true) (h2 : PyData.canLay0 kD = true) (h3 : bD.depth ≤ 2) (h4 : kD.depth ≤ 2)
    (h : ∀ (b k : Nat) (B : Blk) (o : Option Nat) (f : Nat) (as : List Opd), bD = .int (b : Int) → kD = .int (k : Int) → g.blocks[b]? = some B → B.rows[k]? = some (.ap o f as) → False) : OtOk g (.tuple [bD, kD]) := by
  refine ⟨[bD, kD], rfl, Nat.le_of_ble_eq_true rfl, ?_, ?_, ?_⟩
  · simp only [PyData.canLayAll0, h1, h2, Bool.and_self]
  · simp only [PyData.depthAll]
    omega
  · rintro b k B o f as ⟨e, hB, hR⟩
    have e := dv_two e
    injection e with e1 e
    injection e with e2 _
    exact h b k B o f as e1 e2 hB hR
theorem ot_nil (g : Gr) : OtOk g (.tuple []) := ⟨[], rfl, Nat.zero_le _, rfl, by decide, by
  rintro b k B o f as ⟨e, _⟩
  have e := dv_two e
  cases e⟩
theorem int_nat {a b : Nat} (h : PyData.int (a : Int) = .int (b : Int)) : a = b := by
  injection h with h
  omega
theorem st_ot {g : Gr} {ds : List PyData} (h : OtOk g (.tuple ds)) : StOk g (.tuple (.str "devirtualize" :: ds)) := by
  obtain ⟨es, e, _, h1, h2, h3⟩ := h.ex
  injection e with e
  subst e
  exact ⟨sh_dv h1 h2, .inl ⟨_, rfl⟩, h3⟩
theorem st_list (g : Gr) (b k : Nat) : StOk g (.list [.str "devirtualize", .int (b : Int), .int (k : Int)]) := by
  have e : PyData.strOk "devirtualize" = true := by decide +kernel
  refine ⟨?_, .inr ⟨_, rfl⟩, ?_⟩
  · unfold SeqAt.shaped
    simp only [PyData.canLay0, PyData.canLayAll0, e, PyData.depth, PyData.depthAll, Bool.and_self, Bool.and_true]
    rfl
  · rintro b k B o f as ⟨e, _⟩
    cases e
theorem st_four (g : Gr) (b k : Nat) : StOk g (.tuple [.str "devirtualize", .int (b : Int), .int (k : Int), .int 0]) := by
  refine ⟨sh_dv rfl ?_, .inl ⟨_, rfl⟩, ?_⟩
  · simp only [PyData.depth, PyData.depthAll]
    omega
  · rintro b k B o f as ⟨e, _⟩
    have e := dv_two e
    cases e
theorem gSize_ok {N : Nat} {g : Gr} (ok : GrOk N g) : gSize g.blocks ≤ 16 * g.blocks.length := by
  have h : ∀ bs : List Blk, (∀ b ∈ bs, b.rows.length ≤ 15) → gSize bs ≤ 16 * bs.length := by
    intro bs
    induction bs with
    | nil => intro _; exact Nat.le_refl _
    | cons b r ih =>
      intro hb
      have h1 := hb b List.mem_cons_self
      have h2 := ih fun x hx => hb x (List.mem_cons_of_mem _ hx)
      unfold gSize at h2 ⊢
      rw [List.map_cons, List.sum_cons, List.length_cons]
      omega
  exact h _ fun b hb => (ok.blk b hb).len
theorem gSm {N : Nat} {g : Gr} (ok : GrOk N g) (ap : GAp g) : GSm g := by
  have h1 := gSize_ok ok
  have h2 := ok.many
  exact ⟨ap, by omega, fun B hB => by have := (ok.blk B hB).len; omega, by omega⟩
theorem pe_ifExpJ {X : Cx} {c : Expr} {a b : Expr} {pos : Pos} {t : TT} {ta tb : TE} (hc : PT X c t) (ha : PE X a ta) (hb : PE X b tb) : PE X (.IfExp c a b pos) (tJoin (tIf t ta tb)) := pe_join (pe_ifExp hc ha hb)
/-- the graph with the call is one of the graphs that are drawn -/
theorem ok_call {N : Nat} {g : Gr} {b k : Nat} {B : Blk} {o : Option Nat} {f : Nat} {as : List Opd} {x : Str} (ok : GrOk N g) (hB : g.blocks[b]? = some B) (hR : B.rows[k]? = some (.ap o f as)) (hx : Nm x) : GrOk N (grCall g b k B o as x) := by
  have hl := len_call (g := g) (b := b) (k := k) (o := o) (as := as) (x := x) hB
  have okB := ok.blk B (List.mem_of_getElem? hB)
  obtain ⟨hk, _⟩ := List.getElem?_eq_some_iff.mp hR
  refine ⟨ok.count, ok.cN, ok.small, by rw [hl]; exact ok.pos, by rw [hl]; exact ok.many, fun b2 hb2 => ?_⟩
  rw [hl]
  rcases List.mem_append.mp hb2 with h | h
  · rcases List.mem_append.mp h with h | h
    · exact ok.blk b2 (List.mem_of_mem_take h)
    · rw [List.mem_singleton.mp h]
      refine ⟨fun R hR2 => ?_, okB.stop, ?_⟩
      · rcases List.mem_append.mp hR2 with h | h
        · rcases List.mem_append.mp h with h | h
          · exact okB.rows R (List.mem_of_mem_take h)
          · rw [List.mem_singleton.mp h]
            have := okB.rows _ (List.mem_of_getElem? hR)
            exact ⟨this.1, hx, this.2.2.1, this.2.2.2⟩
        · exact okB.rows R (List.mem_of_mem_drop h)
      · have := okB.len
        simp only [List.length_append, List.length_take, List.length_drop, List.length_cons, List.length_nil]
        omega
  · exact ok.blk b2 (List.mem_of_mem_drop h)
abbrev dueD (g : Gr) (b k : Nat) (B : Blk) (o : Option Nat) (as : List Opd) : Option Str → PyData
  | some x => (grCall g b k B o as x).D
  | none => .str "refused"
theorem fn_due {N : Nat} {g : Gr} {b k : Nat} {B : Blk} {o : Option Nat} {f : Nat} {as : List Opd} {X : Option Str} (ok : GrOk N g) (hB : g.blocks[b]? = some B) (hR : B.rows[k]? = some (.ap o f as)) (hx : ∀ x, X = some x → Nm x) : P54.Fine 0 6400000 7 (dueD g b k B o as X) := by
  cases X with
  | none => exact (fnS 7 ⟨by decide +kernel, by decide +kernel⟩).up (Nat.le_refl _) (by decide) (Nat.le_refl _)
  | some x => exact fnG (ok_call ok hB hR (hx x rfl))
def spRight (K : PySem.W.Frag) : Sp := fun vs H Q _ => ∃ (d c : Addr) (n N : Nat) (vg : V) (g : Gr), vs = [.ref d, vg] ∧ n < 2 ^ 46 ∧ Deck d c n H ∧ Dp K H vg g.D ∧ GrOk N g ∧ GAp g ∧ ∀ H', Deck d c (n + 1000) H' → Ext d c H H' → Q (.bl true) H'
end K39

set_option maxHeartbeats 4000000
namespace K39
open PySem PySem.Spec PyProof.Rows L2 HG P52
section
variable {P : Program} {w : World} {K : PySem.W.Frag} {mg : Str → Option Value} {base : Heap}
theorem dI (i : Int) : (PyData.int i).depth ≤ 2 := by
  simp only [PyData.depth]
  omega
theorem log_k {k : Nat} (hk : k < 16) : ((k : Nat) : Int).natAbs.log2 < 1920 := by
  have : ∀ k < 16, ((k : Nat) : Int).natAbs.log2 < 1920 := by decide +kernel
  exact this k hk
theorem nl_rep {D : PyData} {m : Nat} (h : noL D = true) : noLAll (List.replicate m D) = true := by
  induction m with
  | zero => rfl
  | succ m ih =>
    rw [List.replicate_succ]
    simp only [noLAll, h, ih, Bool.and_self]
theorem dk_ne {d c : Addr} {n : Nat} {H : Hp} (D : Deck d c n H) : H d ≠ none ∧ H c ≠ none := by
  obtain ⟨ns, m, t, e1, e2, _⟩ := D.ex
  exact ⟨fun z => by (rw [e1] at z; cases z), fun z => by (rw [e2] at z; cases z)⟩
theorem ne_no {A B : Prop} {a b : Str} (h : a = b) (q : B) : if (!decide (V.str a = V.str b)) = true then A else B := by
  rw [h, decide_eq_true rfl]
  exact iteF q
theorem sh_str {k : Nat} (hk : k < 16) : PyData.canLay0 (.str (toString ((k : Nat) : Int))) = true := by
  have : ∀ k < 16, PyData.canLay0 (.str (toString ((k : Nat) : Int))) = true := by decide +kernel
  exact this k hk
set_option pp.maxSteps 100 in
theorem c_graph_right (T : Txt w K mg) (hP : PrgOk file P) : CalG P w K mg base "_law_graph_right" 10 ["_law_deck_here", "_law_graph_here"] (spRight K) := by
  obtain ⟨fd, F⟩ := T.d__law_graph_right
  have C__law_facts := c_facts (P := P) (w := w) (base := base) T
  have C__law_called := c_called (P := P) (w := w) (base := base) T
  have C__law_told := c_told (P := P) (w := w) (base := base) T hP
  refine ⟨⟨fd, fng_of (k := 9) F sc__law_graph_right (fun vs H Q E h => by repeat (first | (obtain ⟨e, _⟩ := h; subst e; rfl) | (obtain ⟨_, h⟩ := h))) (fun cdv A outer s H vs Q E hr hgd h => ?_), F.bindsN fun _ _ _ _ _ _ us hl => match us, hl with | [_, _], _ => rfl⟩, T.g _ (by decide), F.kp⟩
  obtain ⟨d, c, n, N, vg, g, rfl, hn, dk, hg, ok, ap, q⟩ := h
  have hu := hu_of hr
  have gs := gSm ok ap
  have hmany := ok.many
  refine ⟨_, PSs.nox (pss_cons (ps_par (i := 2) (j := 3) rfl sc__law_graph_right.nd rfl rfl (by decide) rfl rfl (pa_cons (pe_lst pa_nil) (pa_cons (pe_lst pa_nil) pa_nil)) (by rfl))
      (pss_cons (ps_for PassesOwn.never rfl (pi_enumT (by rfl) T.n_enumerate (pa_cons (pe_ix (ix_P (K := K) rfl) (pv 1) pe_int (fun _ _ => rfl)) pa_nil)) (pg_tupK (K := K) (n := 2) rfl rfl (pgs_cons (pg_name (i := 4) sc__law_graph_right.nd rfl (.inr rfl)) (pgs_cons (pg_tupK (K := K) (n := 2) rfl rfl (pgs_cons (pg_name (i := 5) sc__law_graph_right.nd rfl (.inl rfl)) (pgs_cons (pg_name (i := 6) sc__law_graph_right.nd rfl (.inl rfl)) pgs_nil))) pgs_nil))) (pss_cons (ps_set (i := 2) sc__law_graph_right.nd rfl (.inl rfl) (pe_op (op_catLs (K := K) rfl) (pv 2) (pe_lc (own := [("_law_k", 7), ("_law_row_here", 13)]) (by rfl) sc__law_graph_right.nd (pi_enumT (by rfl) T.n_enumerate (pa_cons (pv 5) pa_nil)) (blkOk_by (own := [("_law_k", 7), ("_law_row_here", 13)]) (N := N__law_graph_right) (sc := defScope s__law_graph_right) (by decide +kernel)) (fun _ _ _ _ _ => (pg_tupK (K := K) (n := 2) rfl rfl (pgs_cons (pg_name (i := 7) sc__law_graph_right.nd rfl (.inl rfl)) (pgs_cons (pg_name (i := 13) sc__law_graph_right.nd rfl (.inl rfl)) pgs_nil)))) (fun _ _ _ _ _ => pts_one (pt_cmpR op_eq (pe_ix (ix_P (K := K) rfl) (pv 13) pe_int (fun _ _ => rfl)) pe_str (nomark _))) (fun _ _ _ _ _ => (pe_tup (pa_cons (pv 4) (pa_cons (pv 7) pa_nil)))))))
      (pss_one (ps_set (i := 3) sc__law_graph_right.nd rfl (.inl rfl) (pe_op (op_catLs (K := K) rfl) (pe_op (op_catLs (K := K) rfl) (pv 3) (pe_lc (own := [("_law_k", 7), ("_law_row_here", 13)]) (by rfl) sc__law_graph_right.nd (pi_enumT (by rfl) T.n_enumerate (pa_cons (pv 5) pa_nil)) (blkOk_by (own := [("_law_k", 7), ("_law_row_here", 13)]) (N := N__law_graph_right) (sc := defScope s__law_graph_right) (by decide +kernel)) (fun _ _ _ _ _ => (pg_tupK (K := K) (n := 2) rfl rfl (pgs_cons (pg_name (i := 7) sc__law_graph_right.nd rfl (.inl rfl)) (pgs_cons (pg_name (i := 13) sc__law_graph_right.nd rfl (.inl rfl)) pgs_nil)))) (fun _ _ _ _ _ => pts_one (pt_cmpR op_ne (pe_ix (ix_P (K := K) rfl) (pv 13) pe_int (fun _ _ => rfl)) pe_str (nomark _))) (fun _ _ _ _ _ => (pe_tup (pa_cons (pv 4) (pa_cons (pv 7) pa_nil)))))) (pe_lst (pa_cons (pe_tup (pa_cons (pv 4) (pa_cons (pe_callB (lenK (K := K) rfl) (by rfl) T.n_len (by decide +kernel) (pa_cons (pv 5) pa_nil)) pa_nil))) (pa_cons (pe_tup (pa_cons (pv 4) (pa_cons (pe_un un_neg pe_int) pa_nil))) pa_nil))))))))
      (pss_cons (ps_for PassesOwn.never rfl (pi_list (pv 2)) (pg_tupK (K := K) (n := 2) rfl rfl (pgs_cons (pg_name (i := 4) sc__law_graph_right.nd rfl (.inr rfl)) (pgs_cons (pg_name (i := 7) sc__law_graph_right.nd rfl (.inr rfl)) pgs_nil))) (pss_cons (ps_asg (pe_cal C__law_facts (hr.mono (by omega)) (by rfl) (pa_cons (pv 0) pa_nil)) (pg_tupK (K := K) (n := 2) rfl rfl (pgs_cons (pg_name (i := 8) sc__law_graph_right.nd rfl (.inr rfl)) (pgs_cons (pg_name (i := 9) sc__law_graph_right.nd rfl (.inl rfl)) pgs_nil))))
      (pss_cons (ps_set (i := 10) sc__law_graph_right.nd rfl (.inl rfl) (pe_ifExpJ (pt_cmpR op_isN (pv 9) pe_non (nomark _)) pe_str (pe_cal C__law_called (hr.mono (by omega)) (by rfl) (pa_cons (pv 1) (pa_cons (pv 4) (pa_cons (pv 7) (pa_cons (pv 9) pa_nil)))))))
      (pss_cons (ps_setLc (i := 11) (own := [("_law_again", 14)]) (by rfl) sc__law_graph_right.nd rfl rfl (sw_true rfl rfl rfl (by decide +kernel)) (pi_range1 (by rfl) T.n_range (pa_cons pe_int pa_nil)) (blkOk_by (own := [("_law_again", 14)]) (N := N__law_graph_right) (sc := defScope s__law_graph_right) (by decide +kernel)) (fun _ _ _ _ _ => (pg_name (i := 14) sc__law_graph_right.nd rfl (.inl rfl))) (fun _ _ _ _ _ => pts_nil) (fun _ _ _ _ _ => (pe_cal C__law_told (hr.mono (by omega)) (by rfl) (pa_cons (pv 1) (pa_cons (pe_tup (pa_cons pe_str (pa_cons (pv 4) (pa_cons (pv 7) pa_nil)))) (pa_cons (pv 8) pa_nil))))))
      (pss_cons (ps_if (pt_cmpR op_ne (pe_callB (id := "repr") (call_reprK (K := K) rfl hgd (hr.mono (Nat.zero_le _))) (by rfl) T.n_repr (by decide +kernel) (pa_cons (pv 11) pa_nil)) (pe_callB (id := "repr") (call_reprK (K := K) rfl hgd (hr.mono (Nat.zero_le _))) (by rfl) T.n_repr (by decide +kernel) (pa_cons (pe_lst (pa_cons (pv 10) (pa_cons (pv 10) pa_nil))) pa_nil)) (nomark _)) (pss_one (ps_ret pe_bl)) pss_nil)
      (pss_one (ps_set (i := 3) sc__law_graph_right.nd rfl (.inl rfl) (pe_op (op_catLs (K := K) rfl) (pv 3) (pe_lst (pa_cons (pe_tup (pa_cons pe_bl (pa_cons (pv 7) pa_nil))) (pa_cons (pe_tup (pa_cons (pv 4) (pa_cons (pe_callTy call_str_int (by rfl) T.n_str (by decide +kernel) (pa_cons (pv 7) pa_nil)) pa_nil))) (pa_cons (pe_tup (pa_cons pe_non (pa_cons (pv 7) pa_nil))) (pa_cons (pe_tup (pa_cons (pv 4) (pa_cons (pe_lst (pa_cons (pv 7) pa_nil)) pa_nil))) (pa_cons (pe_tup (pa_cons (pe_op op_sub (pv 4) (pe_callB (lenK (K := K) rfl) (by rfl) T.n_len (by decide +kernel) (pa_cons (pe_ix (ix_P (K := K) rfl) (pv 1) pe_int (fun _ _ => rfl)) pa_nil))) (pa_cons (pv 7) pa_nil))) (pa_cons (pe_tup (pa_cons (pv 4) (pa_cons (pe_tup (pa_cons (pv 7) pa_nil)) pa_nil))) pa_nil)))))))))))))))
      (pss_cons (ps_setLc (i := 12) (own := [("_law_place", 15)]) (by rfl) sc__law_graph_right.nd rfl rfl (sw_true rfl rfl rfl (by decide +kernel)) (pi_list (pe_op (op_catLs (K := K) rfl) (pv 3) (pe_lst (pa_cons (pe_tup (pa_cons (pe_callB (lenK (K := K) rfl) (by rfl) T.n_len (by decide +kernel) (pa_cons (pe_ix (ix_P (K := K) rfl) (pv 1) pe_int (fun _ _ => rfl)) pa_nil)) (pa_cons pe_int pa_nil))) (pa_cons (pe_tup (pa_cons (pe_un un_neg pe_int) (pa_cons pe_int pa_nil))) (pa_cons (pe_tup pa_nil) pa_nil)))))) (blkOk_by (own := [("_law_place", 15)]) (N := N__law_graph_right) (sc := defScope s__law_graph_right) (by decide +kernel)) (fun _ _ _ _ _ => (pg_name (i := 15) sc__law_graph_right.nd rfl (.inl rfl))) (fun _ _ _ _ _ => pts_nil) (fun _ _ _ _ _ => (pe_op (op_cat3 (K := K) rfl) (pe_tup (pa_cons pe_str pa_nil)) (pv 15))))
      (pss_cons (ps_set (i := 12) sc__law_graph_right.nd rfl (.inl rfl) (pe_op (op_catLs (K := K) rfl) (pe_op (op_catLs (K := K) rfl) (pv 12) (pe_lc (own := [("_law_b", 4), ("_law_k", 7)]) (by rfl) sc__law_graph_right.nd (pi_list (pv 2)) (blkOk_by (own := [("_law_b", 4), ("_law_k", 7)]) (N := N__law_graph_right) (sc := defScope s__law_graph_right) (by decide +kernel)) (fun _ _ _ _ _ => (pg_tupK (K := K) (n := 2) rfl rfl (pgs_cons (pg_name (i := 4) sc__law_graph_right.nd rfl (.inl rfl)) (pgs_cons (pg_name (i := 7) sc__law_graph_right.nd rfl (.inl rfl)) pgs_nil)))) (fun _ _ _ _ _ => pts_nil) (fun _ _ _ _ _ => (pe_lst (pa_cons pe_str (pa_cons (pv 4) (pa_cons (pv 7) pa_nil))))))) (pe_lc (own := [("_law_b", 4), ("_law_k", 7)]) (by rfl) sc__law_graph_right.nd (pi_list (pv 2)) (blkOk_by (own := [("_law_b", 4), ("_law_k", 7)]) (N := N__law_graph_right) (sc := defScope s__law_graph_right) (by decide +kernel)) (fun _ _ _ _ _ => (pg_tupK (K := K) (n := 2) rfl rfl (pgs_cons (pg_name (i := 4) sc__law_graph_right.nd rfl (.inl rfl)) (pgs_cons (pg_name (i := 7) sc__law_graph_right.nd rfl (.inl rfl)) pgs_nil)))) (fun _ _ _ _ _ => pts_nil) (fun _ _ _ _ _ => (pe_tup (pa_cons pe_str (pa_cons (pv 4) (pa_cons (pv 7) (pa_cons pe_int pa_nil)))))))))
      (pss_one (ps_ret (pe_cmpR (op_eqDK (K := K) rfl hr.units) (pe_lc (own := [("_law_step", 16)]) (by rfl) sc__law_graph_right.nd (pi_list (pv 12)) (blkOk_by (own := [("_law_step", 16)]) (N := N__law_graph_right) (sc := defScope s__law_graph_right) (by decide +kernel)) (fun _ _ _ _ _ => (pg_name (i := 16) sc__law_graph_right.nd rfl (.inl rfl))) (fun _ _ _ _ _ => pts_one (pt_cmpR op_ne (pe_cal C__law_told (hr.mono (by omega)) (by rfl) (pa_cons (pv 1) (pa_cons (pv 16) (pa_cons (pe_dispT hu (pps_cons (pe_tup (pa_cons pe_str (pa_cons pe_int pa_nil))) (pe_tup (pa_cons pe_str pa_nil)) pps_nil) (by rfl) (by rfl) (fun z => by cases z) (by decide)) pa_nil)))) pe_str (nomark _))) (fun _ _ _ _ _ => (pv 16))) (pe_lst pa_nil) (nomark _))))))))), ?_⟩
  refine ⟨Nat.zero_le _, fun pl0 hpl0 => ⟨Nat.zero_le _, fun ol0 hol0 => ⟨_, _, rfl, ?_⟩⟩⟩
  have npl := dk.has hpl0
  have dkp := dk.new (o := .lst []) hpl0
  have nol := dkp.has hol0
  have s1 := (same_new (o := .lst []) hpl0).trans (same_new (o := .lst []) hol0)
  have dk1 := dkp.new (o := .lst []) hol0
  have lp1 : LsD K (off d c (upd (upd H pl0 (.lst [])) ol0 (.lst []))) pl0 [] := ⟨[], by rw [off_get npl.1 npl.2]; exact upd_get hol0 upd_same, .nil⟩
  have lo1 : LsD K (off d c (upd (upd H pl0 (.lst [])) ol0 (.lst []))) ol0 [] := ⟨[], by rw [off_get nol.1 nol.2]; exact upd_same, .nil⟩
  have X1 : Ext d c H (upd (upd H pl0 (.lst [])) ol0 (.lst [])) := off_same_mono s1
  have hg1 := dp_mono s1 _ _ hg
  generalize upd (upd H pl0 (.lst [])) ol0 (.lst []) = H1 at s1 dk1 lp1 lo1 X1 hg1 ⊢
  clear hpl0 hol0 dkp s1
  refine ⟨vg, rfl, _, 1, _, hg1, rfl, rfl, fun zb hzb => ?_⟩
  cases hzb with
  | @tup ab xb _ sqb hab =>
  have hlb := dpAll_len hab
  rw [List.length_map] at hlb
  refine ⟨ab, xb, rfl, sqb, ?_⟩
  refine for_it (walk_enumT (xs := xb)) (fun i σ H3 => ∃ pl ol x4 x5 x6 ps os, σ = [some (.ref d), some vg, some (.ref pl), some (.ref ol), x4, x5, x6, none, none, none, none, none, none, none, none, none, none] ∧
    LsD K (off d c H3) pl (ps.map plD) ∧ (∀ p ∈ ps, PlOk g p) ∧ ps.length ≤ 15 * i ∧ LsD K (off d c H3) ol os ∧ (∀ D ∈ os, OtOk g D) ∧ os.length ≤ 17 * i ∧ Deck d c n H3 ∧ Ext d c H1 H3)
    ⟨pl0, ol0, _, _, _, [], [], rfl, lp1, (fun _ h => nomatch h), Nat.zero_le _, lo1, (fun _ h => nomatch h), Nat.zero_le _, dk1, Ext.refl _⟩ ?_ ?_ ?_
  · rintro i σ H3 _ ⟨pl, ol, x4, x5, x6, ps, os, rfl, _, _, _, _, _, _, dk3, X3⟩
    exact sqT_kt (ext_kt dk1 X3) sqb
  · rintro i x σ H3 H4 hi ⟨pl, ol, x4, x5, x6, ps, os, rfl, lp3, hps, hpl3, lo3, hos, hol3, dk3, X3⟩ ⟨T1, y1, y2, rfl, hT1, rfl, e1, e2⟩
    injection e1 with e1
    subst e1
    obtain ⟨bk, hbk, hy2⟩ := dpAll_map_get hab e2
    have okb := ok.blk bk (List.mem_of_getElem? hbk)
    have hrl := okb.len
    have sT := same_new (o := .tup [.int (i : Nat), y2]) hT1
    have k3 := ext_kt dk1 X3
    have k4 := k3.trans (KT.of sT)
    have gy := dp_kt k4 _ _ (nlB bk) hy2
    cases gy with
    | @tup a2 x2 _ sq2 ha2 =>
    cases ha2 with
    | cons k0 kr =>
    cases kr with
    | cons k1 kr1 =>
    cases kr1
    cases k0 with
    | @tup ar xr _ sqr har =>
    have hlr := dpAll_len har
    rw [List.length_map] at hlr
    refine ⟨T1, _, rfl, .inl (.inl upd_same), rfl, _, _, rfl, _, _, rfl, a2, _, rfl, sq2, rfl, _, _, rfl, _, _, rfl, rfl, rfl, ?_⟩
    have dk4 := dk3.same sT
    have X4 := X3.trans (off_same_mono sT)
    have lp4 := lp3.mono (off_same_mono sT)
    have lo4 := lo3.mono (off_same_mono sT)
    generalize upd H3 T1 (.tup [.int (i : Nat), .ref a2]) = H4 at k4 sq2 k1 sqr har dk4 X4 lp4 lo4 ⊢
    clear dk3 X3 lp3 lo3 sT hT1 k3
    -- places
    refine ⟨.ref pl, rfl, .ref ar, rfl, ar, xr, rfl, sqr, fun D hD => ?_⟩
    have nD := dk4.has hD
    refine lc_it (walk_enumT (xs := xr)) (fun m H5 => ∃ acc qs, Mk3 K d c D H5 acc (qs.map plD) ∧ (∀ p ∈ qs, PlOk g p) ∧ qs.length ≤ m ∧ Deck d c n H5 ∧ Ext d c H4 H5) ⟨[], [], .start nD.1 nD.2, (fun _ h => nomatch h), Nat.zero_le _, dk4.new hD, Ext.new hD⟩ ?_ ?_ ?_
    · rintro m H5 _ ⟨acc, qs, _, _, _, dk5, X5⟩
      exact sqT_kt (ext_kt dk4 X5) sqr
    · rintro m x H5 H6 hm ⟨acc, qs, mk, hqs, hql, dk5, X5⟩ ⟨T2, z1, z2, rfl, hT2, rfl, e1, e3⟩
      injection e1 with e1
      subst e1
      obtain ⟨R, hR, hz2⟩ := dpAll_map_get har e3
      have sT := same_new (o := .tup [.int (m : Nat), z2]) hT2
      have gz := dp_kt ((ext_kt dk4 X5).trans (KT.of sT)) _ _ (nlR R) hz2
      have mk6 := mk.mono (off_same_mono sT)
      have dk6 := dk5.same sT
      have X6 := X5.trans (off_same_mono sT)
      refine ⟨T2, _, rfl, .inl (.inl upd_same), rfl, _, _, rfl, _, _, rfl, rfl, rfl, z2, rfl, _, 0, _, gz, rfl, rfl, fun zw hzw => ?_⟩
      cases hzw
      generalize upd H5 T2 (.tup [.int (m : Nat), z2]) = H6 at mk6 dk6 X6 ⊢
      refine ⟨rfl, _, rfl, ?_⟩
      show if decide (V.str R.word = V.str "apply") = true then _ else _
      rw [str_dec]
      cases hw : decide (R.word = "apply") with
      | false => exact iteF ⟨acc, qs, mk6, hqs, Nat.le_succ_of_le hql, dk6, X6⟩
      | true =>
        obtain ⟨o, f, as, rfl⟩ := ap_word (of_decide_eq_true hw)
        refine iteT ⟨_, rfl, _, rfl, (by show 2 ≤ sizeLine; decide), fun pt hpt => ⟨acc, upd_get hpt mk6.at_, ?_, acc ++ [.ref pt], qs ++ [(i, m)], ?_, ?_, ?_, (dk6.new hpt).upd nD.1 nD.2, ?_⟩⟩
        · have := dpAll_len mk6.all
          rw [List.length_map] at this
          exact small_line (by omega)
        · rw [List.map_append]
          have npt := dk6.has hpt
          have nptD : pt ≠ D := fun z => by rw [z, mk6.at_] at hpt; cases hpt
          exact (mk6.mono (Ext.new hpt)).step (dp_tup3 npt.1 npt.2 nptD hpt (.cons (.int _) (.cons (.int _) .nil)))
        · intro p hp
          rcases List.mem_append.mp hp with h | h
          · exact hqs p h
          · rw [List.mem_singleton.mp h]
            exact ⟨bk, o, f, as, hbk, hR⟩
        · rw [List.length_append]
          exact Nat.succ_le_succ hql
        · exact (X6.trans (Ext.new hpt)).mut hD
    rintro H7 ⟨acc, qs, mk, hqs, hql, dk7, X7⟩
    have lp7 := lp4.mono X7
    have lo7 := lo4.mono X7
    have lq := mk.done
    refine ⟨d, c, pl, D, ps.map plD, qs.map plD, rfl, rfl, lp7, lq, (dk_ne dk7).1, (dk_ne dk7).2, ?_, fun pl8 H8 hp8 s8 lp8 => ?_⟩
    · rw [List.length_map, List.length_map, sizeLine_eq]
      omega
    rw [← List.map_append] at lp8
    have dk8 := dk7.same s8
    have X8 := X7.trans (off_same_mono s8)
    have lo8 := lo7.mono (off_same_mono s8)
    have sqr8 := sqT_kt (ext_kt dk4 X8) sqr
    have har8 : DpAll K H8 xr (bk.rows.map Rw.D) := dpAll_kt (ext_kt dk4 X8) _ _ (nlRs bk.rows) har
    have X18 := X4.trans X8
    clear mk lp7 lo7 lq s8 X7 dk7 hp8 acc hD nD D lp4 lo4 X4 X8 dk4 sqr har k4 sq2 k1
    -- others
    refine ⟨.ref ol, rfl, .ref ar, rfl, ar, xr, rfl, sqr8, fun D hD => ?_⟩
    have nD := dk8.has hD
    refine lc_it (walk_enumT (xs := xr)) (fun m H5 => ∃ acc rs, Mk3 K d c D H5 acc rs ∧ (∀ D ∈ rs, OtOk g D) ∧ rs.length ≤ m ∧ Deck d c n H5 ∧ Ext d c H8 H5) ⟨[], [], .start nD.1 nD.2, (fun _ h => nomatch h), Nat.zero_le _, dk8.new hD, Ext.new hD⟩ ?_ ?_ ?_
    · rintro m H5 _ ⟨acc, qs, _, _, _, dk5, X5⟩
      exact sqT_kt (ext_kt dk8 X5) sqr8
    · rintro m x H5 H6 hm ⟨acc, rs, mk, hrs, hrl2, dk5, X5⟩ ⟨T2, z1, z2, rfl, hT2, rfl, e1, e3⟩
      injection e1 with e1
      subst e1
      obtain ⟨R, hR, hz2⟩ := dpAll_map_get har8 e3
      have sT := same_new (o := .tup [.int (m : Nat), z2]) hT2
      have gz := dp_kt ((ext_kt dk8 X5).trans (KT.of sT)) _ _ (nlR R) hz2
      have mk6 := mk.mono (off_same_mono sT)
      have dk6 := dk5.same sT
      have X6 := X5.trans (off_same_mono sT)
      refine ⟨T2, _, rfl, .inl (.inl upd_same), rfl, _, _, rfl, _, _, rfl, rfl, rfl, z2, rfl, _, 0, _, gz, rfl, rfl, fun zw hzw => ?_⟩
      cases hzw
      generalize upd H5 T2 (.tup [.int (m : Nat), z2]) = H6 at mk6 dk6 X6 ⊢
      refine ⟨rfl, _, rfl, ?_⟩
      show if (!decide (V.str R.word = V.str "apply")) = true then _ else _
      rw [str_dec]
      cases hw : decide (R.word = "apply") with
      | true => exact iteF ⟨acc, rs, mk6, hrs, Nat.le_succ_of_le hrl2, dk6, X6⟩
      | false =>
        have hno : R.word ≠ "apply" := of_decide_eq_false hw
        refine iteT ⟨_, rfl, _, rfl, (by show 2 ≤ sizeLine; decide), fun pt hpt => ⟨acc, upd_get hpt mk6.at_, ?_, acc ++ [.ref pt], rs ++ [plD (i, m)], ?_, ?_, ?_, (dk6.new hpt).upd nD.1 nD.2, ?_⟩⟩
        · have := dpAll_len mk6.all
          exact small_line (by omega)
        · have npt := dk6.has hpt
          have nptD : pt ≠ D := fun z => by rw [z, mk6.at_] at hpt; cases hpt
          exact (mk6.mono (Ext.new hpt)).step (dp_tup3 npt.1 npt.2 nptD hpt (.cons (.int _) (.cons (.int _) .nil)))
        · intro p hp
          rcases List.mem_append.mp hp with h | h
          · exact hrs p h
          · rw [List.mem_singleton.mp h]
            refine ot_two rfl rfl (dI _) (dI _) fun b2 k2 B2 o f as eb ek hB2 hR2 => ?_
            have e1 := int_nat eb
            have e2 := int_nat ek
            dsimp only at e1 e2
            subst e1 e2
            rw [hbk] at hB2
            cases hB2
            rw [hR] at hR2
            cases hR2
            exact hno rfl
        · rw [List.length_append]
          exact Nat.succ_le_succ hrl2
        · exact (X6.trans (Ext.new hpt)).mut hD
    rintro H9 ⟨acc, rs, mk, hrs, hrl2, dk9, X9⟩
    have lo9 := lo8.mono X9
    have lp9 := lp8.mono X9
    have lr := mk.done
    refine ⟨d, c, ol, D, os, rs, rfl, rfl, lo9, lr, (dk_ne dk9).1, (dk_ne dk9).2, (by rw [sizeLine_eq]; omega), fun ol10 H10 hp10 s10 lo10 => ?_⟩
    have dk10 := dk9.same s10
    have X10 := X9.trans (off_same_mono s10)
    have lp10 := lp9.mono (off_same_mono s10)
    have sqr10 := sqT_kt (ext_kt dk8 X10) sqr8
    clear lo9 lp9 lr mk acc hD nD D dk9 X9 hp10 s10
    refine ⟨.int (i : Nat), rfl, .ref ar, rfl, .ref ar, xr.length, rfl, .inr ⟨xr, sqr10, rfl⟩, (by show 2 ≤ sizeLine; decide), fun t1 ht1 => ⟨.int (i : Nat), rfl, _, rfl, (by show 2 ≤ sizeLine; decide), fun t2 ht2 => ⟨(by show 2 ≤ sizeLine; decide), fun l hl => ?_⟩⟩⟩
    have ne10 := dk_ne dk10
    have g1 : Dp K (off d c (upd H10 t1 (.tup [.int (i : Nat), .int (xr.length : Nat)]))) (.ref t1) (plD (i, xr.length)) := dp_tupO ne10.1 ne10.2 ht1 (.cons (.int _) (.cons (.int _) .nil))
    have u1 := same_new (o := .tup [.int (i : Nat), .int (xr.length : Nat)]) ht1
    have dk11 := dk10.same u1
    have ne11 := dk_ne dk11
    have g2 : Dp K (off d c (upd (upd H10 t1 (.tup [.int (i : Nat), .int (xr.length : Nat)])) t2 (.tup [.int (i : Nat), .int (-1)]))) (.ref t2) (.tuple [.int (i : Nat), .int (-1)]) := dp_tupO ne11.1 ne11.2 ht2 (.cons (.int _) (.cons (.int _) .nil))
    have u2 := same_new (o := .tup [.int (i : Nat), .int (-1)]) ht2
    have dk12 := dk11.same u2
    have nl := dk12.has hl
    have u3 := same_new (o := .lst [.ref t1, .ref t2]) hl
    have ll : LsD K (off d c (upd (upd (upd H10 t1 (.tup [.int (i : Nat), .int (xr.length : Nat)])) t2 (.tup [.int (i : Nat), .int (-1)])) l (.lst [.ref t1, .ref t2]))) l [plD (i, xr.length), .tuple [.int (i : Nat), .int (-1)]] :=
      ⟨_, by rw [off_get nl.1 nl.2]; exact upd_same, .cons (dp_mono (off_same_mono (u2.trans u3)) _ _ g1) (.cons (dp_mono (off_same_mono u3) _ _ g2) .nil)⟩
    have dk13 := dk12.same u3
    have u := u1.trans (u2.trans u3)
    have lo13 := lo10.mono (off_same_mono u)
    have lp13 := lp10.mono (off_same_mono u)
    have X13 := X10.trans (off_same_mono u)
    generalize upd (upd (upd H10 t1 (.tup [.int (i : Nat), .int (xr.length : Nat)])) t2 (.tup [.int (i : Nat), .int (-1)])) l (.lst [.ref t1, .ref t2]) = H13 at ll dk13 lo13 lp13 X13 ⊢
    refine ⟨d, c, ol10, l, os ++ rs, [plD (i, xr.length), .tuple [.int (i : Nat), .int (-1)]], rfl, rfl, lo13, ll, (dk_ne dk13).1, (dk_ne dk13).2, (by rw [List.length_append, sizeLine_eq]; show _ + 2 ≤ _; omega), fun ol14 H14 hp14 s14 lo14 => ?_⟩
    refine ⟨pl8, ol14, _, _, _, ps ++ qs, (os ++ rs) ++ [plD (i, xr.length), .tuple [.int (i : Nat), .int (-1)]], rfl, lp13.mono (off_same_mono s14), ?_, ?_, lo14, ?_, ?_, dk13.same s14, X18.trans (X13.trans (off_same_mono s14))⟩
    · intro p hp
      rcases List.mem_append.mp hp with h | h
      · exact hps p h
      · exact hqs p h
    · rw [List.length_append]
      omega
    · intro D hD
      rcases List.mem_append.mp hD with h | h
      · rcases List.mem_append.mp h with h | h
        · exact hos D h
        · exact hrs D h
      · simp only [List.mem_cons, List.not_mem_nil, or_false] at h
        rcases h with rfl | rfl
        · refine ot_two rfl rfl (dI _) (dI _) fun b2 k2 B2 o f as eb ek hB2 hR2 => ?_
          have e1 := int_nat eb
          have e2 := int_nat ek
          dsimp only at e1 e2
          subst e1 e2
          rw [hbk] at hB2
          cases hB2
          have := (List.getElem?_eq_some_iff.mp hR2).1
          omega
        · refine ot_two rfl rfl (dI _) (dI _) fun b2 k2 B2 o f as eb ek hB2 hR2 => ?_
          injection ek with ek
          omega
    · rw [List.length_append, List.length_append]
      show _ + 2 ≤ _
      omega
  rintro σ H2 ⟨pl, ol, x4, x5, x6, ps, os, rfl, lp2, hps, hpl2, lo2, hos, hol2, dk2, X2⟩
  rw [hlb] at hpl2 hol2
  have hg2 := dp_kt (ext_kt dk1 X2) _ _ (nlG g) hg1
  have X02 := X1.trans X2
  have hpl2 : ps.length ≤ 135 := by omega
  have hol2 : os.length ≤ 153 := by omega
  clear hab sqb hlb dk1 hg1 X1 X2 lp1 lo1 npl nol dk hg
  obtain ⟨pvs, epl, hpv⟩ := lp2.ex
  have hpvl := dpAll_len hpv
  rw [List.length_map] at hpvl
  refine ⟨.ref pl, rfl, pl, rfl, ⟨_, .inl (.inl (offA epl))⟩, ?_⟩
  refine for_list (xs := pvs) (fun j σ H3 => ∃ ol x4 x7 x8 x9 x10 x11 os, σ = [some (.ref d), some vg, some (.ref pl), some (.ref ol), x4, x5, x6, x7, x8, x9, x10, x11, none, none, none, none, none] ∧ LsD K (off d c H3) ol os ∧ (∀ D ∈ os, OtOk g D) ∧ os.length ≤ 153 + 6 * j ∧ Deck d c (n + 3 * j) H3 ∧ Ext d c H2 H3)
    ⟨ol, _, _, _, _, _, _, os, rfl, lo2, hos, by omega, dk2, Ext.refl _⟩ ?_ ?_ ?_
  · rintro j σ H3 _ ⟨ol3, x4, x7, x8, x9, x10, x11, os3, rfl, _, _, _, _, X3⟩
    exact .inl (.inl (offA (X3 _ _ epl)))
  · rintro j x σ H3 hx ⟨ol3, x4, x7, x8, x9, x10, x11, os3, rfl, lo3, hos3, hol3, dk3, X3⟩
    obtain ⟨⟨b, k⟩, hp, hxp⟩ := dpAll_map_get hpv hx
    have hj : j < 135 := by
      have := (List.getElem?_eq_some_iff.mp hx).1
      omega
    obtain ⟨B, o, f, as, hB, hR⟩ := hps (b, k) (List.mem_of_getElem? hp)
    dsimp only at hB hR
    have hbl := (List.getElem?_eq_some_iff.mp hB).1
    have hkl := (List.getElem?_eq_some_iff.mp hR).1
    have hBl := (ok.blk B (List.mem_of_getElem? hB)).len
    have hk16 : k < 16 := by omega
    have hxp := offD (X3.dp hxp)
    cases hxp with
    | @tup ax xx _ sqx hax =>
    cases hax with
    | cons y0 r0 =>
    cases r0 with
    | cons y1 r1 =>
    cases r1
    cases y0
    cases y1
    dsimp only at sqx
    refine ⟨ax, _, rfl, sqx, rfl, _, _, rfl, _, _, rfl, rfl, ?_⟩
    refine ⟨.ref d, rfl, d, c, _, rfl, by omega, dk3, fun t fa X H4 dk4 X4 et hfa hnm => ⟨t, _, rfl, .inl (.inl et), rfl, _, _, rfl, _, _, rfl, rfl, ?_⟩⟩
    have hg4 := dp_kt (ext_kt dk2 (X3.trans X4)) _ _ (nlG g) hg2
    -- what is due
    refine ⟨fun v H' => Same H4 H' ∧ Dp K H' v (dueD g b k B o as X), ?_, fun vd H5 hd => ?_⟩
    · refine ⟨oV X, rfl, rfl, _, rfl, ?_⟩
      cases X with
      | none => exact iteT ⟨Same.refl _, .str _⟩
      | some x => exact iteF ⟨vg, rfl, .int (b : Int), rfl, .int (k : Int), rfl, .str x, rfl, vg, g, b, k, B, o, f, as, x, rfl, hg4, gs, hB, hR, fun z H' s hz => ⟨s, hz⟩⟩
    obtain ⟨s5, hd5⟩ := hd
    have hg5 := dp_mono s5 _ _ hg4
    have hfa5 := hfa.mono s5
    have nlD : noL (dueD g b k B o as X) = true := by
      cases X with
      | none => rfl
      | some x => exact nlG _
    -- told twice
    refine ⟨_, rfl, by decide, by decide, fun D hD => ?_⟩
    refine lc_range (lo := 0) (n := (2 : Int).toNat) (fun m H6 => ∃ acc, H6 D = some (.lst acc) ∧ DpAll K H6 acc (List.replicate m (dueD g b k B o as X)) ∧ Same H5 H6) ⟨[], upd_same, .nil, same_new hD⟩ ?_ ?_
    · rintro m H6 hm ⟨acc, e6, h6, s6⟩
      have hm : m < 2 := hm
      refine ⟨rfl, tyes ⟨vg, rfl, .int (b : Int), rfl, .int (k : Int), rfl, (by show 3 ≤ sizeLine; decide), fun tp htp => ⟨.ref fa, rfl, vg, .ref tp, g, .tuple [.str "devirtualize", .int (b : Int), .int (k : Int)], fa, X, rfl, dp_mono (s6.trans (same_new htp)) _ _ hg5, dp_tupN htp (.cons (.str _) (.cons (.int _) (.cons (.int _) .nil))), sh_dv rfl (by simp only [PyData.depth, PyData.depthAll]; omega), .inl ⟨_, rfl⟩, gs, hfa5.mono (s6.trans (same_new htp)), ?_, ?_⟩⟩⟩
      all_goals
        have turn : ∀ (z : V) (H' : Hp), Same (upd H6 tp (.tup [.str "devirtualize", .int (b : Int), .int (k : Int)])) H' → Dp K H' z (dueD g b k B o as X) → ∃ acc', H' D = some (.lst acc') ∧ acc'.length < sizeLine ∧ ∃ acc2, (upd H' D (.lst (acc' ++ [z]))) D = some (.lst acc2) ∧ DpAll K (upd H' D (.lst (acc' ++ [z]))) acc2 (List.replicate (m + 1) (dueD g b k B o as X)) ∧ Same H5 (upd H' D (.lst (acc' ++ [z]))) := by
          intro z H' s hz
          have s7 := (same_new (o := .tup [.str "devirtualize", .int (b : Int), .int (k : Int)]) htp).trans s
          have e7 := s7 _ _ e6
          have hl := dpAll_len h6
          rw [List.length_replicate] at hl
          have ke := KT.lst (o := .lst (acc ++ [z])) e7
          refine ⟨acc, e7, small_line (by omega), acc ++ [z], upd_same, ?_, fun b o h => ?_⟩
          · rw [List.replicate_succ']
            refine dpAll_app (dpAll_kt ke _ _ ?_ (dpAll_mono s7 _ _ h6)) (.cons (dp_kt ke _ _ nlD hz) .nil)
            exact nl_rep nlD
          · rw [upd_ne (ne_of_none h hD)]
            exact s7 _ _ (s6 _ _ h)
      · intro b2 k2 B2 o2 f2 as2 x hit hX z H' s hz
        obtain ⟨e, hB2, hR2⟩ := hit
        have e := dv_two e
        injection e with e1 e
        injection e with e2 _
        have e1 := int_nat e1
        have e2 := int_nat e2
        subst e1 e2
        rw [hB] at hB2
        cases hB2
        rw [hR] at hR2
        cases hR2
        subst hX
        exact turn z H' s hz
      · intro no H' s
        have e := no b k B o f as ⟨rfl, hB, hR⟩
        subst e
        exact turn (.str "refused") H' s (.str _)
    rintro H6 ⟨acc, e6, h6, s6⟩
    have h6 : DpAll K H6 acc [dueD g b k B o as X, dueD g b k B o as X] := h6
    have hd6 := dp_mono s6 _ _ hd5
    have hg6 := dp_mono s6 _ _ hg5
    have fD := fn_due ok hB hR hnm
    have fL : P54.Fine 0 (5 + 2 * (6400000 + 2)) 8 (.list [dueD g b k B o as X, dueD g b k B o as X]) := (P54.Fine.tupN (n := 2) (ds := [dueD g b k B o as X, dueD g b k B o as X]) (fun e he => by
      simp only [List.mem_cons, List.not_mem_nil, or_false] at he
      rcases he with rfl | rfl <;> exact fD) (Nat.le_refl 2)).lst
    have sh := P54.shown_len (by decide) fL.sm
    have shl : (PyData.list [dueD g b k B o as X, dueD g b k B o as X]).shown.length ≤ sizeLine := by
      have h1 := sh.2
      have h2 := fL.wt
      rw [sizeLine_eq]
      omega
    have shd : (PyData.list [dueD g b k B o as X, dueD g b k B o as X]).depth ≤ 150 := by
      have := fL.dp
      omega
    refine ⟨.ref D, rfl, .ref D, .list [dueD g b k B o as X, dueD g b k B o as X], rfl, .lst (.inl (.inl e6)) h6, sh.1, shd, shl, vd, rfl, vd, rfl, (by show 2 ≤ sizeLine; decide), fun lq hlq => ⟨.ref lq, .list [dueD g b k B o as X, dueD g b k B o as X], rfl, dp_lstN hlq (.cons hd6 (.cons hd6 .nil)), sh.1, shd, shl, rfl, _, rfl, ne_no rfl ?_⟩⟩
    have s7 := s5.trans (s6.trans (same_new (o := .lst [vd, vd]) hlq))
    have X7 := X4.trans (off_same_mono s7)
    have dk7 := dk4.same s7
    have lo7 := lo3.mono X7
    have hg7 := dp_mono (same_new (o := .lst [vd, vd]) hlq) _ _ hg6
    generalize upd H6 lq (.lst [vd, vd]) = H7 at s7 X7 dk7 lo7 hg7 ⊢
    have X37 := X3.trans X7
    clear hlq hd6 hg6 h6 e6 s6 s5 hd5 hg5 hfa5 hfa hg4 et X4 dk4 X7 s7 lo3 dk3
    -- others
    refine ⟨.ref ol3, rfl, ?_⟩
    refine ⟨.int (k : Int), rfl, (by show 2 ≤ sizeLine; decide), fun t1 ht1 => ?_⟩
    have g_t1 : Dp K (off d c (upd H7 t1 (.tup [.bl true, .int (k : Int)]))) (.ref t1) (.tuple [.bool true, .int (k : Int)]) := dp_tupO (dk_ne dk7).1 (dk_ne dk7).2 ht1 (.cons (.bl _) (.cons (.int _) .nil))
    have u_t1 := same_new (o := .tup [.bl true, .int (k : Int)]) ht1
    have dk_t1 := dk7.same u_t1
    have hg_t1 := dp_mono u_t1 _ _ hg7
    generalize upd H7 t1 (.tup [.bl true, .int (k : Int)]) = H7t1 at g_t1 u_t1 dk_t1 hg_t1 ⊢
    refine ⟨.int (b : Int), rfl, .int (k : Int), rfl, (k : Int), rfl, log_k hk16, (by show 2 ≤ sizeLine; decide), fun t2 ht2 => ?_⟩
    have g_t2 : Dp K (off d c (upd H7t1 t2 (.tup [.int (b : Int), .str (toString (k : Int))]))) (.ref t2) (.tuple [.int (b : Int), .str (toString (k : Int))]) := dp_tupO (dk_ne dk_t1).1 (dk_ne dk_t1).2 ht2 (.cons (.int _) (.cons (.str _) .nil))
    have u_t2 := same_new (o := .tup [.int (b : Int), .str (toString (k : Int))]) ht2
    have dk_t2 := dk_t1.same u_t2
    have hg_t2 := dp_mono u_t2 _ _ hg_t1
    generalize upd H7t1 t2 (.tup [.int (b : Int), .str (toString (k : Int))]) = H7t2 at g_t2 u_t2 dk_t2 hg_t2 ⊢
    refine ⟨.int (k : Int), rfl, (by show 2 ≤ sizeLine; decide), fun t3 ht3 => ?_⟩
    have g_t3 : Dp K (off d c (upd H7t2 t3 (.tup [.non, .int (k : Int)]))) (.ref t3) (.tuple [.none, .int (k : Int)]) := dp_tupO (dk_ne dk_t2).1 (dk_ne dk_t2).2 ht3 (.cons .non (.cons (.int _) .nil))
    have u_t3 := same_new (o := .tup [.non, .int (k : Int)]) ht3
    have dk_t3 := dk_t2.same u_t3
    have hg_t3 := dp_mono u_t3 _ _ hg_t2
    generalize upd H7t2 t3 (.tup [.non, .int (k : Int)]) = H7t3 at g_t3 u_t3 dk_t3 hg_t3 ⊢
    refine ⟨.int (b : Int), rfl, .int (k : Int), rfl, (by show 1 ≤ sizeLine; decide), fun i4 hi4 => ?_⟩
    have g_i4 : Dp K (off d c (upd H7t3 i4 (.lst [.int (k : Int)]))) (.ref i4) (.list [.int (k : Int)]) := dp_lstO (dk_ne dk_t3).1 (dk_ne dk_t3).2 hi4 (.cons (.int _) .nil)
    have u_i4 := same_new (o := .lst [.int (k : Int)]) hi4
    have dk_i4 := dk_t3.same u_i4
    have hg_i4 := dp_mono u_i4 _ _ hg_t3
    generalize upd H7t3 i4 (.lst [.int (k : Int)]) = H7i4 at g_i4 u_i4 dk_i4 hg_i4 ⊢
    refine ⟨(by show 2 ≤ sizeLine; decide), fun t4 ht4 => ?_⟩
    have g_t4 : Dp K (off d c (upd H7i4 t4 (.tup [.int (b : Int), .ref i4]))) (.ref t4) (.tuple [.int (b : Int), .list [.int (k : Int)]]) := dp_tupO (dk_ne dk_i4).1 (dk_ne dk_i4).2 ht4 (.cons (.int _) (.cons g_i4 .nil))
    have u_t4 := same_new (o := .tup [.int (b : Int), .ref i4]) ht4
    have dk_t4 := dk_i4.same u_t4
    have hg_t4 := dp_mono u_t4 _ _ hg_i4
    generalize upd H7i4 t4 (.tup [.int (b : Int), .ref i4]) = H7t4 at g_t4 u_t4 dk_t4 hg_t4 ⊢
    refine ⟨.int (b : Int), rfl, vg, rfl, _, 1, _, hg_t4, rfl, rfl, fun zb hzb => ?_⟩
    cases hzb with
    | @tup ab xb _ sqb hab =>
    have hlb := dpAll_len hab
    rw [List.length_map] at hlb
    refine ⟨.ref ab, xb.length, rfl, .inr ⟨xb, sqb, rfl⟩, _, _, rfl, rfl, ?_⟩
    refine ⟨.int (k : Int), rfl, (by show 2 ≤ sizeLine; decide), fun t5 ht5 => ?_⟩
    have g_t5 : Dp K (off d c (upd H7t4 t5 (.tup [.int ((b : Int) - (xb.length : Int)), .int (k : Int)]))) (.ref t5) (.tuple [.int ((b : Int) - (xb.length : Int)), .int (k : Int)]) := dp_tupO (dk_ne dk_t4).1 (dk_ne dk_t4).2 ht5 (.cons (.int _) (.cons (.int _) .nil))
    have u_t5 := same_new (o := .tup [.int ((b : Int) - (xb.length : Int)), .int (k : Int)]) ht5
    have dk_t5 := dk_t4.same u_t5
    have hg_t5 := dp_mono u_t5 _ _ hg_t4
    generalize upd H7t4 t5 (.tup [.int ((b : Int) - (xb.length : Int)), .int (k : Int)]) = H7t5 at g_t5 u_t5 dk_t5 hg_t5 ⊢
    refine ⟨.int (b : Int), rfl, .int (k : Int), rfl, (by show 1 ≤ sizeLine; decide), fun i6 hi6 => ?_⟩
    have g_i6 : Dp K (off d c (upd H7t5 i6 (.tup [.int (k : Int)]))) (.ref i6) (.tuple [.int (k : Int)]) := dp_tupO (dk_ne dk_t5).1 (dk_ne dk_t5).2 hi6 (.cons (.int _) .nil)
    have u_i6 := same_new (o := .tup [.int (k : Int)]) hi6
    have dk_i6 := dk_t5.same u_i6
    have hg_i6 := dp_mono u_i6 _ _ hg_t5
    generalize upd H7t5 i6 (.tup [.int (k : Int)]) = H7i6 at g_i6 u_i6 dk_i6 hg_i6 ⊢
    refine ⟨(by show 2 ≤ sizeLine; decide), fun t6 ht6 => ?_⟩
    have g_t6 : Dp K (off d c (upd H7i6 t6 (.tup [.int (b : Int), .ref i6]))) (.ref t6) (.tuple [.int (b : Int), .tuple [.int (k : Int)]]) := dp_tupO (dk_ne dk_i6).1 (dk_ne dk_i6).2 ht6 (.cons (.int _) (.cons g_i6 .nil))
    have u_t6 := same_new (o := .tup [.int (b : Int), .ref i6]) ht6
    have dk_t6 := dk_i6.same u_t6
    have hg_t6 := dp_mono u_t6 _ _ hg_i6
    generalize upd H7i6 t6 (.tup [.int (b : Int), .ref i6]) = H7t6 at g_t6 u_t6 dk_t6 hg_t6 ⊢
    have uA := u_t1.trans (u_t2.trans (u_t3.trans (u_i4.trans (u_t4.trans (u_t5.trans (u_i6.trans (u_t6)))))))
    have gA : DpAll K (off d c H7t6) [.ref t1, .ref t2, .ref t3, .ref t4, .ref t5, .ref t6] [.tuple [.bool true, .int (k : Int)], .tuple [.int (b : Int), .str (toString (k : Int))], .tuple [.none, .int (k : Int)], .tuple [.int (b : Int), .list [.int (k : Int)]], .tuple [.int ((b : Int) - (xb.length : Int)), .int (k : Int)], .tuple [.int (b : Int), .tuple [.int (k : Int)]]] := (.cons (dp_mono (off_same_mono (u_t2.trans (u_t3.trans (u_i4.trans (u_t4.trans (u_t5.trans (u_i6.trans (u_t6)))))))) _ _ g_t1) (.cons (dp_mono (off_same_mono (u_t3.trans (u_i4.trans (u_t4.trans (u_t5.trans (u_i6.trans (u_t6))))))) _ _ g_t2) (.cons (dp_mono (off_same_mono (u_i4.trans (u_t4.trans (u_t5.trans (u_i6.trans (u_t6)))))) _ _ g_t3) (.cons (dp_mono (off_same_mono (u_t5.trans (u_i6.trans (u_t6)))) _ _ g_t4) (.cons (dp_mono (off_same_mono (u_i6.trans (u_t6))) _ _ g_t5) (.cons g_t6 .nil))))))
    refine ⟨(by show 6 ≤ sizeLine; decide), fun l hl => ?_⟩
    have nl := dk_t6.has hl
    have uL := same_new (o := .lst [.ref t1, .ref t2, .ref t3, .ref t4, .ref t5, .ref t6]) hl
    have ll : LsD K (off d c (upd H7t6 l (.lst [.ref t1, .ref t2, .ref t3, .ref t4, .ref t5, .ref t6]))) l [.tuple [.bool true, .int (k : Int)], .tuple [.int (b : Int), .str (toString (k : Int))], .tuple [.none, .int (k : Int)], .tuple [.int (b : Int), .list [.int (k : Int)]], .tuple [.int ((b : Int) - (xb.length : Int)), .int (k : Int)], .tuple [.int (b : Int), .tuple [.int (k : Int)]]] := ⟨_, by rw [off_get nl.1 nl.2]; exact upd_same, dpAll_mono (off_same_mono uL) _ _ gA⟩
    have dk8 := dk_t6.same uL
    have u8 := uA.trans uL
    have lo8 := lo7.mono (off_same_mono u8)
    have X8 := X37.trans (off_same_mono u8)
    generalize upd H7t6 l (.lst [.ref t1, .ref t2, .ref t3, .ref t4, .ref t5, .ref t6]) = H8 at ll dk8 lo8 X8 ⊢
    refine ⟨d, c, ol3, l, os3, [.tuple [.bool true, .int (k : Int)], .tuple [.int (b : Int), .str (toString (k : Int))], .tuple [.none, .int (k : Int)], .tuple [.int (b : Int), .list [.int (k : Int)]], .tuple [.int ((b : Int) - (xb.length : Int)), .int (k : Int)], .tuple [.int (b : Int), .tuple [.int (k : Int)]]], rfl, rfl, lo8, ll, (dk_ne dk8).1, (dk_ne dk8).2, (by rw [sizeLine_eq]; show _ + 6 ≤ _; omega), fun ol9 H9 hp9 s9 lo9 => ?_⟩
    refine ⟨ol9, _, _, _, _, _, _, os3 ++ [.tuple [.bool true, .int (k : Int)], .tuple [.int (b : Int), .str (toString (k : Int))], .tuple [.none, .int (k : Int)], .tuple [.int (b : Int), .list [.int (k : Int)]], .tuple [.int ((b : Int) - (xb.length : Int)), .int (k : Int)], .tuple [.int (b : Int), .tuple [.int (k : Int)]]], rfl, lo9, ?_, (by rw [List.length_append]; show _ + 6 ≤ _; omega), (dk8.same s9).up (by omega), X8.trans (off_same_mono s9)⟩
    intro D hD
    rcases List.mem_append.mp hD with h | h
    · exact hos3 D h
    simp only [List.mem_cons, List.not_mem_nil, or_false] at h
    rcases h with rfl | rfl | rfl | rfl | rfl | rfl
    · exact ot_two rfl rfl (by simp only [PyData.depth]; omega) (dI _) fun b2 k2 B2 o f as eb ek hB2 hR2 => by cases eb
    · exact ot_two rfl (sh_str hk16) (dI _) (by simp only [PyData.depth]; omega) fun b2 k2 B2 o f as eb ek hB2 hR2 => by cases ek
    · exact ot_two rfl rfl (by simp only [PyData.depth]; omega) (dI _) fun b2 k2 B2 o f as eb ek hB2 hR2 => by cases eb
    · exact ot_two rfl rfl (dI _) (by simp only [PyData.depth, PyData.depthAll]; omega) fun b2 k2 B2 o f as eb ek hB2 hR2 => by cases ek
    · refine ot_two rfl rfl (dI _) (dI _) fun b2 k2 B2 o f as eb ek hB2 hR2 => ?_
      injection eb with eb
      omega
    · exact ot_two rfl rfl (dI _) (by simp only [PyData.depth, PyData.depthAll]; omega) fun b2 k2 B2 o f as eb ek hB2 hR2 => by cases ek
  rintro σ H3 ⟨ol3, x4, x7, x8, x9, x10, x11, os3, rfl, lo3, hos3, hol3, dk3, X3⟩
  have hg3 := dp_kt (ext_kt dk2 X3) _ _ (nlG g) hg2
  have hpv3 := dpAll_mono X3 _ _ hpv
  have epl3 := X3 _ _ epl
  have X03 := X02.trans X3
  have dk3 := dk3.up (show n + 3 * pvs.length ≤ n + 1000 by omega)
  have hol3 : os3.length ≤ 963 := by omega
  clear lo2 dk2 hg2 hpv epl X02 X3 hos hol2
  -- steps
  refine ⟨.ref ol3, rfl, vg, rfl, _, 1, _, hg3, rfl, rfl, fun zb hzb => ?_⟩
  cases hzb with
  | @tup ab xb _ sqb hab =>
  have hlb := dpAll_len hab
  rw [List.length_map] at hlb
  refine ⟨.ref ab, xb.length, rfl, .inr ⟨xb, sqb, rfl⟩, (by show 2 ≤ sizeLine; decide), fun t1 ht1 => ?_⟩
  have g1 : Dp K (off d c (upd H3 t1 (.tup [.int (xb.length : Nat), .int 0]))) (.ref t1) (.tuple [.int (xb.length : Nat), .int 0]) := dp_tupO (dk_ne dk3).1 (dk_ne dk3).2 ht1 (.cons (.int _) (.cons (.int _) .nil))
  have u1 := same_new (o := .tup [.int (xb.length : Nat), .int 0]) ht1
  have d1 := dk3.same u1
  generalize upd H3 t1 (.tup [.int (xb.length : Nat), .int 0]) = G1 at g1 u1 d1 ⊢
  refine ⟨_, rfl, (by show 2 ≤ sizeLine; decide), fun t2 ht2 => ?_⟩
  have g2 : Dp K (off d c (upd G1 t2 (.tup [.int (-1), .int 0]))) (.ref t2) (.tuple [.int (-1), .int 0]) := dp_tupO (dk_ne d1).1 (dk_ne d1).2 ht2 (.cons (.int _) (.cons (.int _) .nil))
  have u2 := same_new (o := .tup [.int (-1), .int 0]) ht2
  have d2 := d1.same u2
  generalize upd G1 t2 (.tup [.int (-1), .int 0]) = G2 at g2 u2 d2 ⊢
  refine ⟨(by show 0 ≤ sizeLine; decide), fun t3 ht3 => ?_⟩
  have g3 : Dp K (off d c (upd G2 t3 (.tup []))) (.ref t3) (.tuple []) := dp_tupO (dk_ne d2).1 (dk_ne d2).2 ht3 .nil
  have u3 := same_new (o := .tup []) ht3
  have d3 := d2.same u3
  generalize upd G2 t3 (.tup []) = G3 at g3 u3 d3 ⊢
  refine ⟨(by show 3 ≤ sizeLine; decide), fun l hl => ?_⟩
  have nl := d3.has hl
  have uL := same_new (o := .lst [.ref t1, .ref t2, .ref t3]) hl
  have ll : LsD K (off d c (upd G3 l (.lst [.ref t1, .ref t2, .ref t3]))) l [.tuple [.int (xb.length : Nat), .int 0], .tuple [.int (-1), .int 0], .tuple []] :=
    ⟨_, by rw [off_get nl.1 nl.2]; exact upd_same, .cons (dp_mono (off_same_mono (u2.trans (u3.trans uL))) _ _ g1) (.cons (dp_mono (off_same_mono (u3.trans uL)) _ _ g2) (.cons (dp_mono (off_same_mono uL) _ _ g3) .nil))⟩
  have uA := u1.trans (u2.trans (u3.trans uL))
  have dk4 := dk3.same uA
  have lo4 := lo3.mono (off_same_mono uA)
  have X4 : Ext d c H3 (upd G3 l (.lst [.ref t1, .ref t2, .ref t3])) := off_same_mono uA
  generalize upd G3 l (.lst [.ref t1, .ref t2, .ref t3]) = H4 at ll dk4 lo4 X4 ⊢
  clear uA uL u1 u2 u3 g1 g2 g3 d1 d2 d3 hl nl ht1 ht2 ht3 lo3
  refine ⟨d, c, ol3, l, os3, [.tuple [.int (xb.length : Nat), .int 0], .tuple [.int (-1), .int 0], .tuple []], rfl, rfl, lo4, ll, (dk_ne dk4).1, (dk_ne dk4).2, (by rw [sizeLine_eq]; show _ + 3 ≤ _; omega), fun o5 H5 hp5 s5 lo5 => ?_⟩
  have hos5 : ∀ D ∈ os3 ++ ([.tuple [.int (xb.length : Nat), .int 0], .tuple [.int (-1), .int 0], .tuple []] : List PyData), OtOk g D := by
    intro D hD
    rcases List.mem_append.mp hD with h | h
    · exact hos3 D h
    simp only [List.mem_cons, List.not_mem_nil, or_false] at h
    rcases h with rfl | rfl | rfl
    · refine ot_two rfl rfl (dI _) (dI _) fun b2 k2 B2 o f as eb ek hB2 hR2 => ?_
      have e1 := int_nat eb
      have := (List.getElem?_eq_some_iff.mp hB2).1
      omega
    · refine ot_two rfl rfl (dI _) (dI _) fun b2 k2 B2 o f as eb ek hB2 hR2 => ?_
      injection eb with eb
      omega
    · exact ot_nil g
  have hl5 : (os3 ++ ([.tuple [.int (xb.length : Nat), .int 0], .tuple [.int (-1), .int 0], .tuple []] : List PyData)).length ≤ 966 := by
    rw [List.length_append]
    show _ + 3 ≤ _
    omega
  generalize os3 ++ ([.tuple [.int (xb.length : Nat), .int 0], .tuple [.int (-1), .int 0], .tuple []] : List PyData) = os5 at lo5 hos5 hl5
  have dk5 := dk4.same s5
  have X5 := X4.trans (off_same_mono s5)
  clear lo4 ll dk4 X4 hp5 s5 sqb hab hlb hos3 hol3
  obtain ⟨ov, eo, go⟩ := lo5.ex
  have hov := dpAll_len go
  refine ⟨o5, rfl, ⟨ov, .inl (.inl (offA eo))⟩, fun D hD => ?_⟩
  have nD := dk5.has hD
  refine lc_list (xs := ov) (fun m H6 => ∃ acc rs, Mk3 K d c D H6 acc rs ∧ (∀ D ∈ rs, StOk g D) ∧ rs.length ≤ m ∧ Deck d c (n + 1000) H6 ∧ Ext d c H5 H6) ⟨[], [], .start nD.1 nD.2, (fun _ h => nomatch h), Nat.zero_le _, dk5.new hD, Ext.new hD⟩ ?_ ?_ ?_
  · rintro m H6 _ ⟨acc, rs, _, _, _, _, X6⟩
    exact .inl (.inl (offA (X6 _ _ eo)))
  · rintro m x H6 hx ⟨acc, rs, mk, hrs, hrl, dk6, X6⟩
    obtain ⟨E, hE, hxE⟩ := dpAll_get go hx
    have hm := (List.getElem?_eq_some_iff.mp hx).1
    have oE := hos5 E (List.mem_of_getElem? hE)
    have hxE := dp_mono (off3_in hD X6) _ _ hxE
    obtain ⟨ds, rfl, hdl, _⟩ := id oE.ex
    have nD6 : H6 D ≠ none := by rw [mk.at_]; exact fun z => by cases z
    refine ⟨rfl, tyes ⟨(by show 1 ≤ sizeLine; decide), fun tq htq => ?_⟩⟩
    have ntq := dk6.has htq
    have ntD : tq ≠ D := fun z => nD6 (by rw [← z]; exact htq)
    have uq := same_new (o := .tup [.str "devirtualize"]) htq
    refine ⟨x, rfl, d, c, D, [.str "devirtualize"], ds, dp_tup3 ntq.1 ntq.2 ntD htq (.cons (.str _) .nil), dp_mono (off3_new htq) _ _ hxE, (dk_ne (dk6.same uq)).1, (dk_ne (dk6.same uq)).2, same_ne uq nD6, (by rw [sizeLine_eq]; show 1 + _ ≤ _; omega), fun z H7 s7 hz => ?_⟩
    have s67 := uq.trans s7
    have mk7 := mk.mono (off_same_mono s67)
    have hal := dpAll_len mk7.all
    refine ⟨acc, mk7.at_, small_line (by omega), acc ++ [z], rs ++ [.tuple (.str "devirtualize" :: ds)], mk7.step hz, ?_, ?_, (dk6.same s67).upd nD.1 nD.2, (X6.trans (off_same_mono s67)).mut hD⟩
    · intro D hD
      rcases List.mem_append.mp hD with h | h
      · exact hrs D h
      · rw [List.mem_singleton.mp h]
        exact st_ot oE
    · rw [List.length_append]
      exact Nat.succ_le_succ hrl
  rintro H6 ⟨acc, rs, mk, hrs, hrl, dk6, X6⟩
  have ls6 := mk.done
  have X36 := X5.trans X6
  clear mk acc nD hD go eo lo5 dk5 X5 X6
  -- lists
  refine ⟨.ref D, rfl, .ref pl, rfl, pl, rfl, ⟨_, .inl (.inl (offA (X36 _ _ epl3)))⟩, fun D2 hD2 => ?_⟩
  have nD2 := dk6.has hD2
  refine lc_list (xs := pvs) (fun m H7 => ∃ acc qs, Mk3 K d c D2 H7 acc qs ∧ (∀ D ∈ qs, StOk g D) ∧ qs.length ≤ m ∧ Deck d c (n + 1000) H7 ∧ Ext d c H6 H7) ⟨[], [], .start nD2.1 nD2.2, (fun _ h => nomatch h), Nat.zero_le _, dk6.new hD2, Ext.new hD2⟩ ?_ ?_ ?_
  · rintro m H7 _ ⟨acc, qs, _, _, _, _, X7⟩
    exact .inl (.inl (offA ((X36.trans X7) _ _ epl3)))
  · rintro m x H7 hx ⟨acc, qs, mk, hqs, hql, dk7, X7⟩
    obtain ⟨⟨b, k⟩, hp, hxp⟩ := dpAll_map_get hpv3 hx
    have hm := (List.getElem?_eq_some_iff.mp hx).1
    have hxp := offD ((X36.trans X7).dp hxp)
    cases hxp with
    | @tup ax xx _ sqx hax =>
    cases hax with
    | cons y0 r0 =>
    cases r0 with
    | cons y1 r1 =>
    cases r1
    cases y0
    cases y1
    dsimp only at sqx
    refine ⟨ax, _, rfl, sqx, rfl, _, _, rfl, _, _, rfl, rfl, rfl, tyes ⟨.int (b : Int), rfl, .int (k : Int), rfl, (by show 3 ≤ sizeLine; decide), fun p hp => ?_⟩⟩
    have np := dk7.has hp
    have npD : p ≠ D2 := fun z => by rw [z, mk.at_] at hp; cases hp
    have up := same_new (o := .lst [.str "devirtualize", .int (b : Int), .int (k : Int)]) hp
    have mk8 := mk.mono (off_same_mono up)
    have hal := dpAll_len mk8.all
    refine ⟨acc, mk8.at_, small_line (by omega), acc ++ [.ref p], qs ++ [.list [.str "devirtualize", .int (b : Int), .int (k : Int)]], mk8.step (dp_lst3 np.1 np.2 npD hp (.cons (.str _) (.cons (.int _) (.cons (.int _) .nil)))), ?_, ?_, (dk7.same up).upd nD2.1 nD2.2, (X7.trans (off_same_mono up)).mut hD2⟩
    · intro D hD
      rcases List.mem_append.mp hD with h | h
      · exact hqs D h
      · rw [List.mem_singleton.mp h]
        exact st_list g b k
    · rw [List.length_append]
      exact Nat.succ_le_succ hql
  rintro H7 ⟨acc, qs, mk, hqs, hql, dk7, X7⟩
  have ls7 := ls6.mono X7
  have lq7 := mk.done
  refine ⟨d, c, D, D2, rs, qs, rfl, rfl, ls7, lq7, (dk_ne dk7).1, (dk_ne dk7).2, (by rw [sizeLine_eq]; omega), fun s8 H8 hp8 u8 ls8 => ?_⟩
  have dk8 := dk7.same u8
  have X38 := X36.trans (X7.trans (off_same_mono u8))
  have hst8 : ∀ D ∈ rs ++ qs, StOk g D := by
    intro D hD
    rcases List.mem_append.mp hD with h | h
    · exact hrs D h
    · exact hqs D h
  have hl8 : (rs ++ qs).length ≤ 1101 := by
    rw [List.length_append]
    omega
  generalize rs ++ qs = st8 at ls8 hst8 hl8
  clear mk ls7 lq7 ls6 hqs hrs hql hrl dk7 dk6 X7 X36 acc hD2 nD2 hp8 u8
  -- four parts
  refine ⟨.ref pl, rfl, pl, rfl, ⟨_, .inl (.inl (offA (X38 _ _ epl3)))⟩, fun D3 hD3 => ?_⟩
  have nD3 := dk8.has hD3
  refine lc_list (xs := pvs) (fun m H9 => ∃ acc qs, Mk3 K d c D3 H9 acc qs ∧ (∀ D ∈ qs, StOk g D) ∧ qs.length ≤ m ∧ Deck d c (n + 1000) H9 ∧ Ext d c H8 H9) ⟨[], [], .start nD3.1 nD3.2, (fun _ h => nomatch h), Nat.zero_le _, dk8.new hD3, Ext.new hD3⟩ ?_ ?_ ?_
  · rintro m H9 _ ⟨acc, qs, _, _, _, _, X9⟩
    exact .inl (.inl (offA ((X38.trans X9) _ _ epl3)))
  · rintro m x H9 hx ⟨acc, qs, mk, hqs, hql, dk9, X9⟩
    obtain ⟨⟨b, k⟩, hp, hxp⟩ := dpAll_map_get hpv3 hx
    have hm := (List.getElem?_eq_some_iff.mp hx).1
    have hxp := offD ((X38.trans X9).dp hxp)
    cases hxp with
    | @tup ax xx _ sqx hax =>
    cases hax with
    | cons y0 r0 =>
    cases r0 with
    | cons y1 r1 =>
    cases r1
    cases y0
    cases y1
    dsimp only at sqx
    refine ⟨ax, _, rfl, sqx, rfl, _, _, rfl, _, _, rfl, rfl, rfl, tyes ⟨.int (b : Int), rfl, .int (k : Int), rfl, (by show 4 ≤ sizeLine; decide), fun p hp => ?_⟩⟩
    have np := dk9.has hp
    have npD : p ≠ D3 := fun z => by rw [z, mk.at_] at hp; cases hp
    have up := same_new (o := .tup [.str "devirtualize", .int (b : Int), .int (k : Int), .int 0]) hp
    have mk8 := mk.mono (off_same_mono up)
    have hal := dpAll_len mk8.all
    refine ⟨acc, mk8.at_, small_line (by omega), acc ++ [.ref p], qs ++ [.tuple [.str "devirtualize", .int (b : Int), .int (k : Int), .int 0]], mk8.step (dp_tup3 np.1 np.2 npD hp (.cons (.str _) (.cons (.int _) (.cons (.int _) (.cons (.int _) .nil))))), ?_, ?_, (dk9.same up).upd nD3.1 nD3.2, (X9.trans (off_same_mono up)).mut hD3⟩
    · intro D hD
      rcases List.mem_append.mp hD with h | h
      · exact hqs D h
      · rw [List.mem_singleton.mp h]
        exact st_four g b k
    · rw [List.length_append]
      exact Nat.succ_le_succ hql
  rintro H9 ⟨acc, qs, mk, hqs, hql, dk9, X9⟩
  have ls9 := ls8.mono X9
  have lq9 := mk.done
  refine ⟨d, c, s8, D3, st8, qs, rfl, rfl, ls9, lq9, (dk_ne dk9).1, (dk_ne dk9).2, (by rw [sizeLine_eq]; omega), fun sA HA hpA uA lsA => ?_⟩
  have dkA := dk9.same uA
  have X3A := X38.trans (X9.trans (off_same_mono uA))
  have hstA : ∀ D ∈ st8 ++ qs, StOk g D := by
    intro D hD
    rcases List.mem_append.mp hD with h | h
    · exact hst8 D h
    · exact hqs D h
  generalize st8 ++ qs = stA at lsA hstA
  clear mk ls9 lq9 ls8 hst8 hqs hql dk9 dk8 X9 X38 acc hD3 nD3 hpA uA
  have hgA := dp_kt (ext_kt dk3 X3A) _ _ (nlG g) hg3
  obtain ⟨av, ea, ga⟩ := lsA.ex
  -- none is made
  refine ⟨.ref sA, rfl, sA, rfl, ⟨av, .inl (.inl (offA ea))⟩, fun D hD => ?_⟩
  refine lc_list (xs := av) (fun m H5 => H5 D = some (.lst []) ∧ Same HA H5) ⟨upd_same, same_new hD⟩ ?_ ?_ ?_
  · rintro m H5 _ ⟨_, s5⟩
    exact .inl (.inl (s5 _ _ (offA ea)))
  · rintro m x H5 hx ⟨e5, s5⟩
    obtain ⟨E, hE, hxE⟩ := dpAll_get ga hx
    have oE := hstA E (List.mem_of_getElem? hE)
    have hxE := dp_mono s5 _ _ (offD hxE)
    refine ⟨rfl, vg, rfl, x, rfl, fun pd hpd => ⟨(by show 2 ≤ sizeLine; decide), fun k1 hk1 => ⟨(by show 1 ≤ sizeLine; decide), fun v1 hv1 => ?_⟩⟩⟩
    have w1 := same_new (o := .dT []) hpd
    have w2 := same_new (o := .tup (qT 1)) hk1
    have w3 := same_new (o := .tup [.str "g"]) hv1
    have epd : (upd (upd (upd H5 pd (.dT [])) k1 (.tup (qT 1))) v1 (.tup [.str "g"])) pd = some (.dT []) := w3 _ _ (w2 _ _ upd_same)
    have ek1 : (upd (upd (upd H5 pd (.dT [])) k1 (.tup (qT 1))) v1 (.tup [.str "g"])) k1 = some (.tup (qT 1)) := w3 _ _ upd_same
    have ev1 : (upd (upd (upd H5 pd (.dT [])) k1 (.tup (qT 1))) v1 (.tup [.str "g"])) v1 = some (.tup [.str "g"]) := upd_same
    have w := w1.trans (w2.trans w3)
    generalize upd (upd (upd H5 pd (.dT [])) k1 (.tup (qT 1))) v1 (.tup [.str "g"]) = H6 at epd ek1 ev1 w ⊢
    refine ⟨epd, [⟨kT 1, k1, .ref v1⟩], rfl, (fun x hx => by rw [List.mem_singleton.mp hx]; exact ek1), (by show 1 ≤ 15; decide), ?_⟩
    generalize eH : upd H6 pd _ = H7
    have eH : H7 = upd H6 pd (.dT (putK [] (kT 1) (.ref v1))) := eH.symm
    have s57 : Same H5 H7 := fun b o h => by rw [eH, upd_ne (ne_of_none h hpd)]; exact w _ _ h
    have e7 : H7 pd = some (.dT (putK [] (kT 1) (.ref v1))) := by rw [eH]; exact upd_same
    have nv : v1 ≠ pd := fun z => by rw [z, epd] at ev1; cases ev1
    have ev7 : H7 v1 = some (.tup [.str "g"]) := by rw [eH, upd_ne nv]; exact ev1
    have hone : ("g" : Str) ∈ oneL := List.mem_cons_self
    refine ⟨vg, x, g, E, pd, some "g", rfl, dp_mono (s5.trans s57) _ _ hgA, dp_mono s57 _ _ hxE, oE.sh, oE.fm, gs, ⟨_, e7, .inl ⟨"g", .ref v1, rfl, (by rw [valV_put, if_pos rfl]), .tup (.inl (.inl ev7)) (.cons (.str _) .nil), okF_one hone, nt_one hone, sh_one hone⟩⟩, ?_, ?_⟩
    · intro b2 k2 B2 o2 f2 as2 x2 hit
      exact (oE.no _ _ _ _ _ _ hit).elim
    · intro _ H' s'
      exact ⟨rfl, _, rfl, ne_no rfl ⟨s' _ _ (s57 _ _ e5), s5.trans (s57.trans s')⟩⟩
  rintro H5 ⟨e5, s5⟩
  refine ⟨Nat.zero_le _, fun l hl => ?_⟩
  have sl := same_new (o := .lst []) hl
  refine ⟨.list [], .list [], .lst (.inl (.inl (sl _ _ e5))) .nil, .lst (.inl (.inl upd_same)) .nil, by decide, by decide, ?_⟩
  exact q _ (dkA.same (s5.trans sl)) (X03.trans (X3A.trans (off_same_mono (s5.trans sl))))
end
end K39

set_option maxHeartbeats 4000000
namespace K39
open PySem PySem.Spec PyProof.Rows L2 HG P52
def spLaw (K : PySem.W.Frag) : Sp := fun vs H Q _ => ∃ (a : Addr) (ns : List Int), vs = [.ref a] ∧ SqL K H a (ns.map V.int) ∧ ns.length ≤ 63 ∧ ∀ H', Q (.bl true) H'
section
variable {P : Program} {w : World} {K : PySem.W.Frag} {mg : Str → Option Value} {base : Heap}
set_option pp.maxSteps 100 in
theorem ok_law (T : Txt w K mg) (hP : PrgOk file P) {fd : FuncData} (F : FunD K "law" "law" (defArgs s_law) (defBody s_law) (defScope s_law) [] [] (He.ga K "law") fd) : FnG P w K mg base CX0 12 (He.ga K "law") fd ["_law_script"] (spLaw K) := by
  have C__law_deck := c_deck (P := P) (w := w) (base := base) T
  have C__law_draw := c_draw (P := P) (w := w) (base := base) T
  have C__law_graph := c_graph (P := P) (w := w) (base := base) T
  have C__law_graph_right := c_graph_right (P := P) (w := w) (base := base) T hP
  refine fng_of (k := 11) F sc_law (fun vs H Q E h => by repeat (first | (obtain ⟨e, _⟩ := h; subst e; rfl) | (obtain ⟨_, h⟩ := h))) (fun cdv A outer s H vs Q E hr hgd h => ?_)
  obtain ⟨a, ns, rfl, hS, hn, q⟩ := h
  refine ⟨_, PSs.nox (pss_cons (ps_set (i := 1) sc_law.nd rfl (.inl rfl) (pe_cal C__law_deck (hr.mono (by omega)) (by rfl) (pa_cons (pv 0) pa_nil)))
      (pss_cons (ps_for PassesOwn.never rfl (pi_range1 (by rfl) T.n_range (pa_cons pe_int pa_nil)) (pg_name (i := 2) sc_law.nd rfl (.inl rfl)) (pss_cons (ps_set (i := 3) sc_law.nd rfl (.inl rfl) (pe_cal C__law_graph (hr.mono (by omega)) (by rfl) (pa_cons (pv 1) (pa_cons pe_int (pa_cons (pe_cal C__law_draw (hr.mono (by omega)) (by rfl) (pa_cons (pv 1) (pa_cons pe_int pa_nil))) pa_nil)))))
      (pss_cons (ps_set (i := 4) sc_law.nd rfl (.inl rfl) (pe_callB (id := "repr") (call_reprK (K := K) rfl hgd (hr.mono (Nat.zero_le _))) (by rfl) T.n_repr (by decide +kernel) (pa_cons (pv 3) pa_nil)))
      (pss_one (ps_if (PW.pt (pw_or (pt_not (pt_val (pe_calG C__law_graph_right (hr.mono (by omega)) hgd (by rfl) (pa_cons (pv 1) (pa_cons (pv 3) pa_nil))))) (pw_or1 (pt_cmpR op_ne (pe_callB (id := "repr") (call_reprK (K := K) rfl hgd (hr.mono (Nat.zero_le _))) (by rfl) T.n_repr (by decide +kernel) (pa_cons (pv 3) pa_nil)) (pv 4) (nomark _))))) (pss_one (ps_ret pe_bl)) pss_nil)))))
      (pss_one (ps_ret pe_bl)))), ?_⟩
  refine ⟨.ref a, rfl, a, ns, rfl, hS, hn, fun d c H1 s1 dk1 => ?_⟩
  refine ⟨6, rfl, by decide, by decide, for_range (lo := 0) (n := (6 : Int).toNat) (fun j σ H2 => ∃ x2 x3 x4, σ = [some (.ref a), some (.ref d), x2, x3, x4] ∧ Deck d c (4000 * j) H2) ⟨_, _, _, rfl, dk1⟩ ?_ (fun σ H2 _ => q H2)⟩
  rintro j σ H2 hj ⟨x2, x3, x4, rfl, dk2⟩
  have hj : j < 6 := hj
  refine ⟨.ref d, rfl, .ref d, rfl, d, c, _, 4, rfl, by decide, by decide, by omega, dk2, fun r H3 r0 r1 dk3 X3 => ?_⟩
  obtain ⟨cnt, rfl⟩ := Int.eq_ofNat_of_zero_le r0
  refine ⟨d, c, _, 6, cnt, rfl, by decide, by decide, by omega, by omega, dk3, fun vg g N H4 dk4 X4 hg ok ap => ?_⟩
  have fG := fnG ok
  have sh := P54.shown_len (by decide) fG.sm
  have shl : g.D.shown.length ≤ sizeLine := by
    have h1 := sh.2
    have h2 := fG.wt
    rw [sizeLine_eq]
    omega
  have shd : g.D.depth ≤ 150 := by
    have := fG.dp
    omega
  refine ⟨vg, rfl, vg, g.D, rfl, hg, sh.1, shd, shl, ?_⟩
  refine ⟨.ref d, rfl, vg, rfl, d, c, _, N, vg, g, rfl, by omega, dk4, hg, ok, ap, fun H5 dk5 X5 => ⟨_, rfl, iteF ?_⟩⟩
  have hg5 := dp_kt (ext_kt dk4 X5) _ _ (nlG g) hg
  exact ⟨vg, rfl, vg, g.D, rfl, hg5, sh.1, shd, shl, _, rfl, rfl, _, rfl, ne_no rfl ⟨_, _, _, rfl, dk5.up (by omega)⟩⟩
end
end K39

set_option maxHeartbeats 0
open PySem PySem.W PySem.Calls PyProof.Rows
theorem PySem.Challenge.cw_wholeapart_k39_applies_with_one_target_holds : PySem.Challenge.rw_wholeapart_k39_applies_with_one_target.Holds := by
  w_on; o_law
  refine HandSHeadRun.head_any (r := OpenLaw.row PySem.Challenge.rw_wholeapart_k39_applies_with_one_target) (q := view (OpenLaw.row PySem.Challenge.rw_wholeapart_k39_applies_with_one_target).prog [136]) (H := K39.hk) (ob := K39.ob) (M := 6000) (loose := K39.loose) (d := HandSHeadRun.topDef (OpenLaw.row PySem.Challenge.rw_wholeapart_k39_applies_with_one_target).prog 136) (kwd := []) K39.ob_eq
    (by kernel_rfl) (fun s => by kernel_rfl) K39.run (by kernel_rfl) (by kernel_rfl) (by kernel_rfl) (by rfl) (by first | assumption | decide +kernel) (by decide +kernel) ⟨rfl, rfl, rfl, rfl, rfl, by decide +kernel⟩ ?hw ?hc
  case hw => w_witness2
  case hc =>
    refine HG.walkG (l := PySem.Challenge.rw_wholeapart_k39_applies_with_one_target) (n := 63) (k := 12) (x := "_law_script") (CX := L2.CX0) rfl (by decide) (by kernel_rfl) ⟨rfl, by decide, by decide⟩ ?F (fun _ _ _ _ z => z)
    intro w mg fa h Y G hmg0
    obtain ⟨K, KX, c⟩ := Y
    have hmg : mg ("law" : PySem.Str) = some (.ref fa) := by
      have e : (HandSHeadRun.topDef (OpenLaw.row PySem.Challenge.rw_wholeapart_k39_applies_with_one_target).prog 136).name = ("law" : PySem.Str) := by kernel_rfl
      rw [← e]
      exact hmg0
    have T := K39.txt KX G c
    have efa : fa = He.ga K "law" := by
      have e := hmg.symm.trans (T.g "law" (by decide))
      cases e
      rfl
    subst efa
    obtain ⟨fd, F⟩ := T.d_law
    refine ⟨K, fd, K39.spLaw K, KX, fun s u => (L2.FunD.bindsA (ps := ["_law_script"]) F fun _ _ _ _ _ _ us hl => match us, hl with | [_], _ => rfl) s [u] rfl, fun H a ns hl _ _ hS => ⟨a, ns, rfl, hS, hl, fun _ => rfl⟩, fun base _ _ => ?_⟩
    exact K39.ok_law T ⟨by kernel_rfl, by kernel_rfl⟩ F
