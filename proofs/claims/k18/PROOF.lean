import PyProof.Rows.All
import Wide.All
import OpenK.AllK
import Wide.FinOn
import HandS.ForMost
import HandS.WordsExc
import HandS.Defaults
import HandS.HeadEnd
import HandS.EndBits
import HandS.IsInst
import HandS.Wide
import HandS.HeadHook1
import HandS.HeadHook2
import HandS.More
import HandS.HeadHook3
import HandS.Walk
import HandS.Style
import HandS.NoneIn
import KE.KStateDown
import Lean
import HandS.Head0
import HandS.Head1
import HandS.Head2
import HandS.Strs
import HandS.SetBool
import PyProof.StrBlock2
import HandS.TupLe
import HandS.DictTup
import HandS.Keys
import KE.KSortTupAny
import KE.KDictCopyH
import HandS.TupAny
import HandS.Nested
import HandS.EndTab
import HandS.Sort
import PyProof.Rows.IntBool
import HandS.RaiseMore
import KE.KTupTabMore
import HandS.Dict
import HandS.Codes
import HandS.Text
import PyProof.NeKinds
import KE.GoesMore
import HandS.Zip
import KE.GoesZip
import KE.KDictZip
import PyProof.ListNew
import HandS.DictComp
import HandS.Comp
import HandS.Star
import HandS.Small
import HandS.TryOnly
import HandS.Words
import PySem.Challenge.RW_wholeapart_k18_images_executed
set_option Elab.async false
set_option linter.all false
set_option maxRecDepth 100000
set_option maxHeartbeats 4000000
/-! HG: defs that are called where no repr is under way (the guards are known to be none), and repr of data. -/
namespace HG
open PySem PySem.Spec PyProof.Rows L2

structure FnG (P : Program) (w : World) (K : PySem.W.Frag) (mg : Str → Option Value) (base : Heap)
    (CX : CXT) (k : Nat) (f : Addr) (fd : FuncData) (ps : List Str) (sp : Sp) : Prop where
  sized : ∀ vs H Q E, sp vs H Q E → vs.length = ps.length
  goes : ∀ (A : Around) (outer : List Env) (s : Shared) (H : Hp) (args : Args) (us : List Value) (vs : List V) (Q : VK) (E : XK),
    Room k A → A.guards = some [] → Env0 P w K mg base A outer s H → BindsTo s fd args (ps.zip us) → Vals vs us →
    sp vs H Q E → codeAny (model P w) A (.call (.ref f) args) (CR CX outer P w H s Q E) s

section
variable {P : Program} {w : World} {K : PySem.W.Frag} {mg : Str → Option Value} {base : Heap} {CX : CXT} {k : Nat} {f : Addr} {fd : FuncData} {ps : List Str} {sp : Sp}

theorem FnG.of (F : FnOk P w K mg base CX k f fd ps sp) : FnG P w K mg base CX k f fd ps sp :=
  ⟨F.len, fun A outer s H args us vs Q E r _ => F.run A outer s H args us vs Q E r⟩

theorem FnG.up {j : Nat} (F : FnG P w K mg base CX j f fd ps sp) (h : j ≤ k) : FnG P w K mg base CX k f fd ps sp :=
  ⟨F.sized, fun A outer s H args us vs Q E r => F.goes A outer s H args us vs Q E (r.mono h)⟩

/-- a def of the text, by its body -/
theorem fng_of {x qual : Str} {params : Arguments} {body : List Stmt} {scope : Scope} {dvs : List V} {kws : List (Str × V)} {N : List Str}
    (F : FunD K x qual params body scope dvs kws f fd) (S : FnScope N ps scope) (len : ∀ vs H Q E, sp vs H Q E → vs.length = ps.length)
    (hbody : ∀ (cdv : Value) (A : Around) (outer : List Env) (s : Shared) (H : Hp) (vs : List V) (Q : VK) (E : XK),
      Room k (A.deeper (envOfC qual scope s.heap.objs.size f cdv)) → A.guards = some [] → sp vs H Q E →
      ∃ t, PSs (cxOf CX P w K mg base N qual scope f cdv A outer s H E) body t ∧
        t { nx := fun _ H' => Q .non H', rt := Q } (start N vs) H) : FnG P w K mg base CX (k + 1) f fd ps sp := by
  obtain ⟨oc, od, dV, kV, doc, pm, an, cdv, ct, osl, rfl, lk, hcd, _, _⟩ := F.ex
  constructor
  · exact len
  intro A outer s H args us vs Q E hr hg e0 hb r hsp
  have X1 : K.In s.heap := e0.mod.kin.keeps fun b o e => (e0.bs b o e).1
  have X2 : s.heap.NoLimit := e0.mod.nolimit.keeps fun b o e => (e0.bs b o e).1
  obtain ⟨t, ht, hq⟩ := hbody cdv A outer s H vs Q E (hr.deeper _) hg hsp
  refine codeAny_call_function hr.depth (X1 _ _ lk) rfl S.co S.gen rfl (PySem.W.codeRec_of X1 hcd) (hb _ _ _ _ ?_)
  have kinds : ∀ y ∈ ps.zip us, scope.names.lookup y.1 = some .local ∨
      (scope.names.lookup y.1 = some .cell ∧ ((cellsFrom (s.heap.objs.size + 1) scope.names []).lookup y.1).isSome = true) := by
    rintro ⟨n, v⟩ hy
    have hn := (List.of_mem_zip hy).1
    rcases S.par n hn with q | q
    · left; exact q
    · right; exact ⟨q, PySem.W.cellsFrom_some _ _ _ (.inl q)⟩
  refine wpAny_newFunctionEnv_cells S.kind kinds ?_
  intro env he s1 x
  subst he
  refine ⟨X2.keeps x.toInCall.keep, codeAny_func ?_⟩
  have I := inv_start (CX := CX) (E := E) S hr.hd e0 (len _ _ _ _ hsp) r x
  refine wpAny_mono (ht.run [] s1 (start N vs) H _ I hq) ?_ (fun e s' hs => hs)
  intro fl s' hs
  cases fl with
  | next =>
    obtain ⟨σ', H', J, q⟩ := hs
    exact ⟨V.non, H', J.os, J.bare, J.base, J.hok, rfl, q⟩
  | ret u =>
    obtain ⟨v, σ', H', J, rv, q⟩ := hs
    exact ⟨v, H', J.os, J.bare, J.base, J.hok, rv, q⟩
  | brk => exact hs.elim fun _ z => z.elim fun _ z => z.2.elim
  | cont => exact hs.elim fun _ z => z.elim fun _ z => z.2.elim
end

/-! ### calls of such defs -/
section
variable {X : Cx} {CX : CXT} {k : Nat} {f : Addr} {fd : FuncData} {ps ks : List Str} {sp : Sp} {dvs : List V} {ds : List Value}
  {E : XK} {x : Str} {p pos : Pos} {e : Expr} {es : List Expr} {t tk : TA} {kws : List Keyword}
  {g : List Value → List Value → List Value} {gV : List V → List V → List V}

theorem fin_call {pins : List (Addr × Obj)} {σ : L2.St} {H : Hp} {s s' : Shared} {Q : VK} {r : Result} (hx : Passes CX X E)
    (I : Inv X pins σ H s) (h : CR CX X.stack X.prog X.w H s Q E r s') : callEnd (EP X pins σ Q) X.xe r s' := by
  cases r with
  | error e => exact hx pins σ H s e s' I h
  | ok fl =>
    cases fl with
    | ret u => exact I.after h
    | next => exact h.elim
    | brk => exact h.elim
    | cont => exact h.elim

theorem pe_callG (F : FnG X.prog X.w X.K X.mg X.base CX k f fd ps sp) (hr : Room k X.A) (hgd : X.A.guards = some []) (hg : Gl X x) (hm : X.mg x = some (.ref f))
    (hk : PySem.W.keepIn X.K (.ref f) = true) (hb : Binds X.K fd ps ds) (hd : Vals dvs ds) (hx : Passes CX X E) (ha : PA X (e :: es) t)
    (hdb : (x == ("__debug__" : Str)) = false := by decide)
    (he : starEach (e :: es) X.env = (false, eval e X.env) :: starEach es X.env := by rfl)
    (hpl : (backTo pos (starEach es X.env)).any (·.1) = false := by rfl) : PE X (.Call (.Name x p) (e :: es) [] pos) (tCall sp dvs E t) := by
  constructor
  intro pins s σ H Q I h
  refine wpAny_Call_Name_kw (ld_glob I hg hm ?_ hdb)
  refine PySem.W.callWith_K (h₀ := X.base) I.ok.mod.kin hk (thn (ha.run pos pins s σ H _ I h) ?_) he hpl
  rintro us s1 ⟨vs, H1, I1, r, q⟩
  have rr : Vals (vs ++ dvs) (us ++ ds) := r.append hd
  have hl : (us ++ ds).length = ps.length := rr.length.symm.trans (F.sized _ _ _ _ q)
  refine ⟨I1.kIn, wpAny_call (codeAny_mono (F.goes X.A X.stack s1 H1 ⟨us, []⟩ _ _ Q E hr hgd I1.env0 (hb s1 us I1.kIn hl) rr q) fun r s' hq => ?_)⟩
  exact fin_call hx I1 hq

end

/-! ### repr of data -/
mutual
theorem dp_nodict {K : PySem.W.Frag} {H : Hp} : ∀ (d : PyData) (v : V), Dp K H v d → d.hasDict = false
  | .none, _, _ => by simp only [PyData.hasDict]
  | .bool _, _, _ => by simp only [PyData.hasDict]
  | .int _, _, _ => by simp only [PyData.hasDict]
  | .str _, _, _ => by simp only [PyData.hasDict]
  | .list ds, _, h => by
    cases h with
    | lst _ ha =>
      simp only [PyData.hasDict]
      exact dpAll_nodict ds _ ha
  | .tuple ds, _, h => by
    cases h with
    | tup _ ha =>
      simp only [PyData.hasDict]
      exact dpAll_nodict ds _ ha
  | .dict _, _, h => by cases h
theorem dpAll_nodict {K : PySem.W.Frag} {H : Hp} : ∀ (ds : List PyData) (vs : List V), DpAll K H vs ds → PyData.hasDictAll ds = false
  | [], _, _ => by simp only [PyData.hasDictAll]
  | d :: ds, _, h => by
    cases h with
    | cons h1 h2 => simp only [PyData.hasDictAll, dp_nodict d _ h1, dpAll_nodict ds _ h2, Bool.or_self]
end

def rRepr (K : PySem.W.Frag) : List V → Hp → VK → Prop := fun xs H Q =>
  ∃ x d, xs = [x] ∧ Dp K H x d ∧ d.showable = true ∧ d.depth ≤ 150 ∧ d.shown.length ≤ sizeLine ∧ Q (.str d.shown) H

theorem call_repr {X : Cx} {k : Nat} (hgd : X.A.guards = some []) (hr : Room k X.A) : CallR X (.builtin "repr") (rRepr X.K) := by
  intro pins s σ H xs us Q I r h
  obtain ⟨x, d, rfl, hd, hs, hdep, hsz, q⟩ := h
  obtain ⟨u, rfl, ru⟩ := vals1 r
  obtain ⟨as, rd⟩ := Dp.reads I d x u hd ru
  have hu := hr.un
  cases rd with
  | none => 
    simp only [PyData.shown] at q
    exact PySem.P.repr_of_none ⟨.str _, H, I.tok _, ⟨_, rfl⟩, q⟩
  | bool b =>
    simp only [PyData.shown] at q
    exact PySem.P.repr_of_bool ⟨.str _, H, I.tok _, ⟨_, rfl⟩, q⟩
  | int i t =>
    simp only [PyData.shown] at q
    exact PySem.P.repr_of_int (by simpa [PyData.showable] using hs) ⟨.str _, H, I.tok _, ⟨_, rfl⟩, q⟩
  | str y t =>
    simp only [PyData.shown] at q hsz
    exact PySem.P.repr_of_str ⟨.str _, H, I.tok _, ⟨_, rfl⟩, q⟩ hsz
  | list h1 h2 h3 h4 =>
    have nd := dp_nodict _ _ hd
    refine repr_of_reads' (.list h1 h2 h3 h4) hs (fun z => ?_) hgd (by omega) (fun _ _ e => e) (fun h' u tk hk => ⟨.str _, H, I.kept hk, ⟨_, rfl⟩, q⟩) hsz
    rw [nd] at z; cases z
  | tuple h1 h2 h3 h4 =>
    have nd := dp_nodict _ _ hd
    refine repr_of_reads' (.tuple h1 h2 h3 h4) hs (fun z => ?_) hgd (by omega) (fun _ _ e => e) (fun h' u tk hk => ⟨.str _, H, I.kept hk, ⟨_, rfl⟩, q⟩) hsz
    rw [nd] at z; cases z
  | dict h1 h2 h3 h4 h5 => cases hd

/-! ### the law's own call -/
section
variable {P : Program} {w : World} {K : PySem.W.Frag} {mg mb : Str → Option Value} {CX : CXT} {k : Nat} {fa a : Addr} {fd : FuncData} {x : Str} {sp : Sp} {s1 : Shared} {vs : List Value} {ns : List Int}

/-- from an abstract heap H that tracks the script at most -/
theorem law_core (KX : K.In s1.heap) (hns : s1.heap.Ns mainGlobals mg) (hb : s1.heap.Ns builtinsNs mb)
    (hbb : ∀ x : Str, x ≠ "__name__" → mb x = bootBuiltins x) (hlim : s1.heap.NoLimit) (hg : s1.gens = #[])
    (ha : s1.heap.get? a = some { cls := .type "list", data := .seq vs.toArray }) (hr : Room k callerA)
    (F : ∀ base : Heap, K.In base → base.Ns mainGlobals mg → FnG P w K mg base CX k fa fd [x] sp)
    (hbind : ∀ (s : Shared) (u : Value), BindsTo s fd ⟨[u], []⟩ [(x, u)])
    {H : Hp} (only : Only H) (hok : HOk P w H s1.heap) (hA : ∀ b, H b ≠ none → b = a) (hK : H a ≠ none → K.lookup a = none)
    (hsp : sp [.ref a] H (fun v _ => v = .bl true) fun _ _ _ => False)
    (hCX : ∀ e s', CX [] H s1 (fun _ _ _ => False) e s' → False) :
    codeAny (model P w) callerA (.call (.ref fa) ⟨[.ref a], []⟩)
      (fun r s' => r = .ok (.ret (.bool true)) ∧ OldK s1.heap s'.heap ∧ s'.os = s1.os ∧ AllBare s'.gens) s1 := by
  have tracked : ∀ {b : Addr} {u : HO}, H b = some u → b = a := fun {b u} q => hA b (by simp [q])
  have dictFree : ∀ {b : Addr} {o : Obj} {es : Array DictEntry} {ep : Nat}, s1.heap.get? b = some o → o.data = .dict es ep → H b = none := by
    intro b o es ep e d
    cases q : H b with
    | none => rfl
    | some u =>
      rw [tracked q, ha] at e
      cases e
      cases d
  have nsK : ∀ {b : Addr} {m : Str → Option Value}, s1.heap.Ns b m → (hidT s1.heap H).Ns b m := by
    rintro b m ⟨o, es, ep, e, d, r⟩
    exact ⟨o, es, ep, hidT_get e (dictFree e d), d, r⟩
  have kin : K.In (hidT s1.heap H) := by
    intro b o e
    refine hidT_get (KX b o e) ?_
    cases q : H b with
    | none => rfl
    | some u =>
      have eb := tracked q
      subst eb
      rw [hK (by simp [q])] at e
      cases e
  have md : Mod K mg (hidT s1.heap H) := by
    obtain ⟨mc, l1, l2⟩ := hlim
    exact ⟨kin, nsK hns, ⟨mb, nsK hb, hbb⟩, ⟨mc, nsK l1, l2⟩⟩
  have e0 : Env0 P w K mg (hidT s1.heap H) callerA [] s1 H :=
    { frames := rfl, mod := md, bs := fun b o e => of_hidT e, bsz := Nat.le_of_eq (hidT_size _ _), funs := trivial,
      frf := fun b z => absurd (show b ∈ ([] : List Addr) from z) List.not_mem_nil, hok := hok, bare := .of_eq hg }
  have go := (F _ kin (nsK hns)).goes callerA [] s1 H ⟨[.ref a], []⟩ [.ref a] [.ref a] _ _ hr rfl e0 (hbind s1 (.ref a)) (.cons rfl .nil) hsp
  refine codeAny_mono go fun r s' h => ?_
  cases r with
  | error e => exact (hCX e s' h).elim
  | ok fl =>
    cases fl with
    | next => exact h.elim
    | brk => exact h.elim
    | cont => exact h.elim
    | ret u =>
      obtain ⟨v, H', os, bare, un, hok', r', q⟩ := h
      have ev : v = .bl true := q
      subst ev
      have eu : u = Value.bool true := r'
      subst eu
      refine ⟨rfl, OldK.of_keep fun b o e => ?_, os, bare⟩
      rcases only b with z | ⟨ob, xs, z⟩
      · exact un.keep b o e z (fun y => absurd (show b ∈ ([] : List Addr) from y) List.not_mem_nil) List.not_mem_nil
      · obtain ⟨e1, _⟩ := hok b _ z
        obtain ⟨e2, _⟩ := hok' b _ (un.frzs b ob _ z)
        rw [e1] at e
        cases e
        exact e2

theorem law_callG (KX : K.In s1.heap) (hns : s1.heap.Ns mainGlobals mg) (hb : s1.heap.Ns builtinsNs mb)
    (hbb : ∀ x : Str, x ≠ "__name__" → mb x = bootBuiltins x) (hlim : s1.heap.NoLimit) (hg : s1.gens = #[])
    (ha : s1.heap.get? a = some { cls := .type "list", data := .seq vs.toArray }) (hi : IntsAre vs ns) (hl : ns.length ≤ sizeLine) (hr : Room k callerA)
    (F : ∀ base : Heap, K.In base → base.Ns mainGlobals mg → FnG P w K mg base CX k fa fd [x] sp)
    (hbind : ∀ (s : Shared) (u : Value), BindsTo s fd ⟨[u], []⟩ [(x, u)])
    (hsp : ∀ H : Hp, Only H → SqL K H a (ns.map V.int) → sp [.ref a] H (fun v _ => v = .bl true) fun _ _ _ => False)
    (hCX : ∀ H e s', CX [] H s1 (fun _ _ _ => False) e s' → False) :
    codeAny (model P w) callerA (.call (.ref fa) ⟨[.ref a], []⟩)
      (fun r s' => r = .ok (.ret (.bool true)) ∧ OldK s1.heap s'.heap ∧ s'.os = s1.os ∧ AllBare s'.gens) s1 := by
  have rv := vals_ints hi
  cases hk : K.lookup a with
  | some o =>
    have e := KX a o hk
    rw [ha] at e
    cases e
    have on : Only (fun _ => none) := fun _ => .inl rfl
    refine law_core KX hns hb hbb hlim hg ha hr F hbind on (fun b u z => by cases z) (fun b z => absurd rfl z) (fun z => absurd rfl z) (hsp _ on (.inr ?_)) (hCX _)
    exact ⟨_, vs.toArray, _, hk, rfl, rfl, rfl, by rw [List.size_toArray, hi.length]; exact hl, by simpa using rv⟩
  | none =>
    let o : Obj := { cls := .type "list", data := .seq vs.toArray }
    let H : Hp := upd (fun _ => none) a (.frz o (.lst (ns.map V.int)))
    have hH : H a = some (.frz o (.lst (ns.map V.int))) := upd_same
    have hN : ∀ b, b ≠ a → H b = none := fun b z => upd_ne z
    have on : Only H := by
      intro b
      by_cases e : b = a
      · subst e; exact .inr ⟨_, _, hH⟩
      · exact .inl (hN b e)
    refine law_core KX hns hb hbb hlim hg ha hr F hbind on (fun b u z => ?_) (fun b z => ?_) (fun _ => hk) (hsp H on (.inl (.inr ⟨o, hH⟩))) (hCX _)
    · by_cases e : b = a
      · subst e
        rw [hH] at z
        cases z
        exact ⟨ha, by rw [List.length_map]; exact hl, vs, _, rv, ha⟩
      · rw [hN b e] at z; cases z
    · by_cases e : b = a
      · exact e
      · exact absurd (hN b e) z
end

/-- the walk that a head by facts asks for, with the script's bits -/
theorem walkG {l : PySem.W.OpenLaw} {n k : Nat} {q : Program} {loose : List Str} {XP : (Str → Option Value) → Heap → Prop} {YP : World → Heap → Prop} {d : DefRec} {CX : CXT} {x : Str}
    (hn : l.most = some n) (hn2 : n ≤ sizeLine) (hdf : d.params.defaults = []) (hr : Room k callerA)
    (F : ∀ (w : World) (mg : Str → Option Value) (fa : Addr) (h : Heap), YP w h → h.Ns mainGlobals mg → mg d.name = some (.ref fa) →
      ∃ (K : PySem.W.Frag) (fd : FuncData) (sp : Sp), K.In h ∧ (∀ (s : Shared) (u : Value), BindsTo s fd ⟨[u], []⟩ [(x, u)]) ∧
        (∀ (H : Hp) (a : Addr) (ns : List Int), ns.length ≤ n → (∀ z ∈ ns, Builtin.Int.intBits z ≤ 1048576) → Only H → SqL K H a (ns.map V.int) →
          sp [.ref a] H (fun v _ => v = .bl true) fun _ _ _ => False) ∧
        ∀ base : Heap, K.In base → base.Ns mainGlobals mg → FnG l.prog w K mg base CX k fa fd [x] sp)
    (hCX : ∀ (H : Hp) (s : Shared) (e : Value) (s' : Shared), CX [] H s (fun _ _ _ => False) e s' → False) :
    PySem.W.WalkO q loose XP YP l.row.toRowW d [] (fun f vs => PySem.call f vs) := by
  refine Att.attach_callB hn hdf ?_
  intro w s₀ s₁ mg mb fa o pm cd doc a vs ns G Y ho hd hcd hmg hobj hints hlen hbits hg
  obtain ⟨K, fd, sp, KX, hb, hsp, hF⟩ := F w mg fa _ Y G.T.g hmg
  exact law_callG KX G.T.g G.T.b G.T.builtins G.T.nolimit hg hobj hints (Nat.le_trans hlen hn2) hr hF hb (fun H hO hS => hsp H a ns hlen hbits hO hS) (fun H e s' => hCX H s₁ e s')
end HG

set_option maxHeartbeats 4000000
/-! HW: short words over HG: defs called by name (Cal), data, frames. -/
namespace HG
open PySem PySem.Spec PyProof.Rows L2

/-! ### a def of the top, ready to be called -/
structure Cal (P : Program) (w : World) (K : PySem.W.Frag) (mg : Str → Option Value) (base : Heap) (x : Str) (k : Nat) (ps : List Str) (sp : Sp) : Prop where
  ex : ∃ fd, FnOk P w K mg base CX0 k (He.ga K x) fd ps sp ∧ Binds K fd ps []
  gl : mg x = some (.ref (He.ga K x))
  kp : PySem.W.keepIn K (.ref (He.ga K x)) = true
structure CalG (P : Program) (w : World) (K : PySem.W.Frag) (mg : Str → Option Value) (base : Heap) (x : Str) (k : Nat) (ps : List Str) (sp : Sp) : Prop where
  ex : ∃ fd, FnG P w K mg base CX0 k (He.ga K x) fd ps sp ∧ Binds K fd ps []
  gl : mg x = some (.ref (He.ga K x))
  kp : PySem.W.keepIn K (.ref (He.ga K x)) = true
/-- called by keywords alone -/
structure CalK (P : Program) (w : World) (K : PySem.W.Frag) (mg : Str → Option Value) (base : Heap) (x : Str) (k : Nat) (ks ps : List Str) (gV : List V → List V) (sp : Sp) : Prop where
  ex : ∃ fd g, FnOk P w K mg base CX0 k (He.ga K x) fd ps sp ∧ KBn K fd ps 0 ks g (fun _ zs => gV zs)
  gl : mg x = some (.ref (He.ga K x))
  kp : PySem.W.keepIn K (.ref (He.ga K x)) = true
section
variable {X : Cx} {k : Nat} {ps ks : List Str} {sp : Sp} {x : Str} {p pos : Pos} {e : Expr} {es : List Expr} {t tk : TA} {kws : List Keyword} {gV : List V → List V}
theorem pe_cal (C : Cal X.prog X.w X.K X.mg X.base x k ps sp) (hr : Room k X.A) (hg : Gl X x) (ha : PA X (e :: es) t)
    (hdb : (x == ("__debug__" : Str)) = false := by decide)
    (he : starEach (e :: es) X.env = (false, eval e X.env) :: starEach es X.env := by rfl)
    (hpl : (backTo pos (starEach es X.env)).any (·.1) = false := by rfl) : PE X (.Call (.Name x p) (e :: es) [] pos) (tCall sp [] E0 t) := by
  obtain ⟨fd, F, b⟩ := C.ex
  exact pe_call F hr hg C.gl C.kp b .nil pass0 ha hdb he hpl
theorem pe_calG (C : CalG X.prog X.w X.K X.mg X.base x k ps sp) (hr : Room k X.A) (hgd : X.A.guards = some []) (hg : Gl X x) (ha : PA X (e :: es) t)
    (hdb : (x == ("__debug__" : Str)) = false := by decide)
    (he : starEach (e :: es) X.env = (false, eval e X.env) :: starEach es X.env := by rfl)
    (hpl : (backTo pos (starEach es X.env)).any (·.1) = false := by rfl) : PE X (.Call (.Name x p) (e :: es) [] pos) (tCall sp [] E0 t) := by
  obtain ⟨fd, F, b⟩ := C.ex
  exact pe_callG F hr hgd hg C.gl C.kp b .nil pass0 ha hdb he hpl
def tCalK (m : Nat) (sp : Sp) (gV : List V → List V) (tk : TA) : TE := fun σ H Q => tk σ H fun zs H1 => zs.length = m ∧ sp (gV zs) H1 Q E0
theorem pe_calK (C : CalK X.prog X.w X.K X.mg X.base x k ks ps gV sp) (hr : Room k X.A) (hg : Gl X x) (hkw : PK X kws tk)
    (hall : (backToKw pos (keywordEach kws X.env)).all (·.1.isSome) = true := by rfl)
    (hks : (backToKw pos (keywordEach kws X.env)).filterMap (·.1) = ks := by rfl)
    (hdb : (x == ("__debug__" : Str)) = false := by decide)
    (hpl : ((backTo pos (starEach [] X.env)).any (·.1) || (backToKw pos (keywordEach kws X.env)).any (·.1.isNone)) = false := by rfl) :
    PE X (.Call (.Name x p) [] kws pos) (tCalK ks.length sp gV tk) := by
  obtain ⟨fd, g, F, b⟩ := C.ex
  constructor
  intro pins s σ H Q I h
  refine wpAny_Call_Name_kw (ld_glob I hg C.gl ?_ hdb)
  refine PySem.W.callWith_KW0 (h₀ := X.base) I.ok.mod.kin C.kp hall (thn (hkw.run pos pins s σ H _ I h) ?_) hpl
  rintro ws s2 ⟨zs, H2, I2, rz, l2, q2⟩
  rw [hks]
  exact ⟨I2.kIn, run_fnN (us := []) (vs := []) F hr b pass0 I2 .nil rz rfl l2 q2⟩
theorem pe_globI {i : Int} (h : ∃ t, X.mg x = some (.int i t)) (hg : Gl X x) (hd : (x == ("__debug__" : Str)) = false := by decide) : PE X (.Name x pos) (tC (.int i)) := by
  obtain ⟨t, h⟩ := h
  exact pe_glob hg h ⟨t, rfl⟩ hd
theorem pe_globS {z : Str} (h : ∃ t, X.mg x = some (.str z t)) (hg : Gl X x) (hd : (x == ("__debug__" : Str)) = false := by decide) : PE X (.Name x pos) (tC (.str z)) := by
  obtain ⟨t, h⟩ := h
  exact pe_glob hg h ⟨t, rfl⟩ hd
end

/-! ### data -/
def tyN : PyData → String
  | .none => "NoneType"
  | .bool _ => "bool"
  | .int _ => "int"
  | .str _ => "str"
  | .list _ => "list"
  | .tuple _ => "tuple"
  | .dict _ => "dict"
theorem dp_ty {K : PySem.W.Frag} {H : Hp} {v : V} {d : PyData} (h : Dp K H v d) : TyX K H v (.type (tyN d)) := by
  cases h with
  | non => exact .base .non
  | bl b => exact .base (.bl b)
  | int i => exact .base (.int i)
  | str x => exact .base (.str x)
  | lst s _ =>
    rcases s with (e | ⟨o, e⟩) | ⟨o, _, _, e, c, _⟩
    · exact .base (.lst e)
    · exact .base (.frz e)
    · exact .kList e c
  | tup s _ =>
    rcases s with (e | ⟨o, e⟩) | ⟨o, _, _, e, c, _⟩
    · exact .base (.tup e)
    · exact .fTuple e
    · exact .kTuple e c
theorem isi_of {K : PySem.W.Frag} {H : Hp} {v : V} {d : PyData} {n : String} {b : Bool} {Q : VK} (h : Dp K H v d) (hk : kitB (tyN d) n = some b) (q : Q (.bl b) H) : rIsi K [v, .ty n] H Q :=
  ⟨v, .ty n, _, _, b, rfl, .ty n, dp_ty h, kit_ty hk, q⟩
def isI : PyData → Bool
  | .int _ => true
  | .bool _ => true
  | _ => false
def isB : PyData → Bool
  | .bool _ => true
  | _ => false
def isS : PyData → Bool
  | .str _ => true
  | _ => false
def isL : PyData → Bool
  | .list _ => true
  | _ => false
def isT : PyData → Bool
  | .tuple _ => true
  | _ => false
theorem kit_int : ∀ d : PyData, kitB (tyN d) "int" = some (isI d)
  | .none => (by decide +kernel : kitB "NoneType" "int" = some false)
  | .bool _ => (by decide +kernel : kitB "bool" "int" = some true)
  | .int _ => (by decide +kernel : kitB "int" "int" = some true)
  | .str _ => (by decide +kernel : kitB "str" "int" = some false)
  | .list _ => (by decide +kernel : kitB "list" "int" = some false)
  | .tuple _ => (by decide +kernel : kitB "tuple" "int" = some false)
  | .dict _ => (by decide +kernel : kitB "dict" "int" = some false)
theorem kit_bool : ∀ d : PyData, kitB (tyN d) "bool" = some (isB d)
  | .none => (by decide +kernel : kitB "NoneType" "bool" = some false)
  | .bool _ => (by decide +kernel : kitB "bool" "bool" = some true)
  | .int _ => (by decide +kernel : kitB "int" "bool" = some false)
  | .str _ => (by decide +kernel : kitB "str" "bool" = some false)
  | .list _ => (by decide +kernel : kitB "list" "bool" = some false)
  | .tuple _ => (by decide +kernel : kitB "tuple" "bool" = some false)
  | .dict _ => (by decide +kernel : kitB "dict" "bool" = some false)
theorem kit_str : ∀ d : PyData, kitB (tyN d) "str" = some (isS d)
  | .none => (by decide +kernel : kitB "NoneType" "str" = some false)
  | .bool _ => (by decide +kernel : kitB "bool" "str" = some false)
  | .int _ => (by decide +kernel : kitB "int" "str" = some false)
  | .str _ => (by decide +kernel : kitB "str" "str" = some true)
  | .list _ => (by decide +kernel : kitB "list" "str" = some false)
  | .tuple _ => (by decide +kernel : kitB "tuple" "str" = some false)
  | .dict _ => (by decide +kernel : kitB "dict" "str" = some false)
theorem kit_list : ∀ d : PyData, kitB (tyN d) "list" = some (isL d)
  | .none => (by decide +kernel : kitB "NoneType" "list" = some false)
  | .bool _ => (by decide +kernel : kitB "bool" "list" = some false)
  | .int _ => (by decide +kernel : kitB "int" "list" = some false)
  | .str _ => (by decide +kernel : kitB "str" "list" = some false)
  | .list _ => (by decide +kernel : kitB "list" "list" = some true)
  | .tuple _ => (by decide +kernel : kitB "tuple" "list" = some false)
  | .dict _ => (by decide +kernel : kitB "dict" "list" = some false)
theorem kit_tuple : ∀ d : PyData, kitB (tyN d) "tuple" = some (isT d)
  | .none => (by decide +kernel : kitB "NoneType" "tuple" = some false)
  | .bool _ => (by decide +kernel : kitB "bool" "tuple" = some false)
  | .int _ => (by decide +kernel : kitB "int" "tuple" = some false)
  | .str _ => (by decide +kernel : kitB "str" "tuple" = some false)
  | .list _ => (by decide +kernel : kitB "list" "tuple" = some false)
  | .tuple _ => (by decide +kernel : kitB "tuple" "tuple" = some true)
  | .dict _ => (by decide +kernel : kitB "dict" "tuple" = some false)

mutual
theorem dp_mono {K : PySem.W.Frag} {H H' : Hp} (e : Same H H') : ∀ (d : PyData) (v : V), Dp K H v d → Dp K H' v d
  | .none, _, h => by cases h; exact .non
  | .bool b, _, h => by cases h; exact .bl b
  | .int i, _, h => by cases h; exact .int i
  | .str x, _, h => by cases h; exact .str x
  | .list ds, _, h => by
    cases h with
    | lst s a =>
      refine .lst ?_ (dpAll_mono e ds _ a)
      rcases s with (s | ⟨o, s⟩) | s
      · exact .inl (.inl (e _ _ s))
      · exact .inl (.inr ⟨o, e _ _ s⟩)
      · exact .inr s
  | .tuple ds, _, h => by
    cases h with
    | tup s a =>
      refine .tup ?_ (dpAll_mono e ds _ a)
      rcases s with (s | ⟨o, s⟩) | s
      · exact .inl (.inl (e _ _ s))
      · exact .inl (.inr ⟨o, e _ _ s⟩)
      · exact .inr s
  | .dict _, _, h => by cases h
theorem dpAll_mono {K : PySem.W.Frag} {H H' : Hp} (e : Same H H') : ∀ (ds : List PyData) (vs : List V), DpAll K H vs ds → DpAll K H' vs ds
  | [], _, h => by cases h; exact .nil
  | d :: ds, _, h => by
    cases h with
    | cons a b => exact .cons (dp_mono e d _ a) (dpAll_mono e ds _ b)
end
theorem dpAll_len {K : PySem.W.Frag} {H : Hp} : ∀ {vs : List V} {ds : List PyData}, DpAll K H vs ds → vs.length = ds.length
  | _, _, .nil => rfl
  | _, _, .cons _ h => congrArg (· + 1) (dpAll_len h)
theorem dpAll_app {K : PySem.W.Frag} {H : Hp} : ∀ {vs us : List V} {ds es : List PyData}, DpAll K H vs ds → DpAll K H us es → DpAll K H (vs ++ us) (ds ++ es)
  | _, _, _, _, .nil, h => h
  | _, _, _, _, .cons a b, h => .cons a (dpAll_app b h)
theorem dpAll_get {K : PySem.W.Frag} {H : Hp} : ∀ {vs : List V} {ds : List PyData} {i : Nat} {v : V}, DpAll K H vs ds → vs[i]? = some v → ∃ d, ds[i]? = some d ∧ Dp K H v d
  | _, _, _, _, .nil, h => by simp at h
  | _, _, 0, _, .cons a _, h => by
    simp at h
    subst h
    exact ⟨_, rfl, a⟩
  | _, _, i + 1, _, .cons _ b, h => by
    obtain ⟨d, e, q⟩ := dpAll_get (i := i) b (by simpa using h)
    exact ⟨d, by simpa using e, q⟩

theorem dpInts {K : PySem.W.Frag} {H : Hp} : ∀ ns : List Int, DpAll K H (ns.map V.int) (ns.map PyData.int)
  | [] => .nil
  | n :: ns => .cons (.int n) (dpInts ns)
theorem canLay_ints : ∀ ns : List Int, PyData.canLayAll0 (ns.map PyData.int) = true
  | [] => by simp only [List.map_nil, PyData.canLayAll0]
  | n :: ns => by simp only [List.map_cons, PyData.canLayAll0, PyData.canLay0, canLay_ints ns, Bool.and_self]
theorem depth_ints : ∀ ns : List Int, PyData.depthAll (ns.map PyData.int) ≤ 1
  | [] => by simp only [List.map_nil, PyData.depthAll]; omega
  | n :: ns => by
    have := depth_ints ns
    simp only [List.map_cons, PyData.depthAll, PyData.depth]
    omega
theorem shaped_ints (ns : List Int) : SeqAt.shaped (.list (ns.map PyData.int)) = true := by
  have h := depth_ints ns
  have h2 : (PyData.list (ns.map PyData.int)).depth ≤ 64 := by
    simp only [PyData.depth]
    omega
  unfold SeqAt.shaped
  simp only [PyData.canLay0, canLay_ints ns, Bool.true_and]
  exact decide_eq_true h2
theorem upd_get {H : Hp} {p b : Addr} {o u : HO} (hp : H p = none) (h : H b = some u) : upd H p o b = some u := by
  rw [upd_ne (ne_of_none h hp)]
  exact h

/-! ### heaps but for two places -/
def off (d c : Addr) (H : Hp) : Hp := fun b => if b = d ∨ b = c then none else H b
theorem off_same {d c : Addr} {H : Hp} : Same (off d c H) H := fun b o h => by
  unfold off at h
  split at h
  · cases h
  · exact h
theorem off_get {d c b : Addr} {H : Hp} (h1 : b ≠ d) (h2 : b ≠ c) : off d c H b = H b := if_neg (fun z => z.elim h1 h2)
def Ext (d c : Addr) (H H' : Hp) : Prop := Same (off d c H) (off d c H')
theorem Ext.refl {d c : Addr} (H : Hp) : Ext d c H H := fun _ _ h => h
theorem Ext.trans {d c : Addr} {H H1 H2 : Hp} (a : Ext d c H H1) (b : Ext d c H1 H2) : Ext d c H H2 := fun x o h => b x o (a x o h)
theorem Ext.d {d c : Addr} {H : Hp} {o : HO} : Ext d c H (upd H d o) := fun b u h => by
  unfold off at h ⊢
  split at h
  · cases h
  · rename_i n
    rw [if_neg n, upd_ne (fun z => n (.inl z))]
    exact h
theorem Ext.c {d c : Addr} {H : Hp} {o : HO} : Ext d c H (upd H c o) := fun b u h => by
  unfold off at h ⊢
  split at h
  · cases h
  · rename_i n
    rw [if_neg n, upd_ne (fun z => n (.inr z))]
    exact h
theorem Ext.new {d c p : Addr} {H : Hp} {o : HO} (hp : H p = none) : Ext d c H (upd H p o) := fun b u h => by
  unfold off at h ⊢
  split at h
  · cases h
  · rename_i n
    rw [if_neg n, upd_ne (ne_of_none h hp)]
    exact h
/-- an object that was not there may change -/
theorem Ext.mut {d c p : Addr} {H H' : Hp} {o : HO} (e : Ext d c H H') (hp : H p = none) : Ext d c H (upd H' p o) := fun b u h => by
  have h1 := e b u h
  unfold off at h h1 ⊢
  split at h
  · cases h
  · rename_i n
    rw [if_neg n] at h1
    rw [if_neg n, upd_ne (ne_of_none h hp)]
    exact h1
theorem Ext.at {d c b : Addr} {H H' : Hp} {o : HO} (e : Ext d c H H') (h1 : b ≠ d) (h2 : b ≠ c) (h : H b = some o) : H' b = some o := by
  have := e b o ((off_get h1 h2).trans h)
  rw [off_get h1 h2] at this
  exact this
/-- of H' what H had not -/
def news (H H' : Hp) : Hp := fun b => if (H b).isSome = true then none else H' b
theorem news_get {H H' : Hp} {b : Addr} {o : HO} : news H H' b = some o ↔ H b = none ∧ H' b = some o := by
  unfold news
  cases h : H b with
  | none => simp
  | some u => simp
theorem news_same {H H' : Hp} : Same (news H H') H' := fun b o h => (news_get.mp h).2
theorem Ext.sqL {K : PySem.W.Frag} {d c : Addr} {H H' : Hp} {a : Addr} {xs : List V} (e : Ext d c H H') (h : SqL K (off d c H) a xs) : SqL K (off d c H') a xs := Same.seq e h
theorem offL {K : PySem.W.Frag} {d c : Addr} {H : Hp} {a : Addr} {xs : List V} (h : SqL K (off d c H) a xs) : SqL K H a xs := Same.seq off_same h
theorem offD {K : PySem.W.Frag} {d c : Addr} {H : Hp} {v : V} {D : PyData} (h : Dp K (off d c H) v D) : Dp K H v D := dp_mono off_same D v h
theorem Ext.dp {K : PySem.W.Frag} {d c : Addr} {H H' : Hp} {v : V} {D : PyData} (e : Ext d c H H') (h : Dp K (off d c H) v D) : Dp K (off d c H') v D := dp_mono e D v h
theorem tyes {σ : L2.St} {H : Hp} {A B : Hp → Prop} (h : A H) : tYes σ H fun b H3 => if b = true then A H3 else B H3 := by
  show if true = true then A H else B H
  exact iteT h
/-! ### texts -/
abbrev cp (z : Str) : List Nat := z.cps.toList
theorem cp_len (z : Str) : (cp z).length = z.length := by unfold cp; simp [Str.length]
theorem cp_app (a b : Str) : cp (a ++ b) = cp a ++ cp b := by
  unfold cp
  rw [Str.cps_append, Array.toList_append]
theorem cp_ext {a b : Str} (h : cp a = cp b) : a = b := Str.ext' (Array.toList_inj.mp h)
structure OkS (m : Nat) (z : Str) : Prop where
  len : z.length ≤ m
  cps : ∀ c ∈ cp z, c < 128
theorem OkS.up {m n : Nat} {z : Str} (h : OkS m z) (hn : m ≤ n) : OkS n z := ⟨Nat.le_trans h.len hn, h.cps⟩
theorem OkS.app {m n : Nat} {a b : Str} (h : OkS m a) (g : OkS n b) : OkS (m + n) (a ++ b) := by
  refine ⟨?_, fun c hc => ?_⟩
  · rw [Str.length_append]
    have := h.len
    have := g.len
    omega
  · rw [cp_app] at hc
    rcases List.mem_append.mp hc with q | q
    · exact h.cps c q
    · exact g.cps c q
theorem OkS.cut {m : Nat} {z : Str} (h : OkS m z) (lo hi : Option Int) : OkS m (cutS z lo hi) := by
  have e : cp (cutS z lo hi) = ((cp z).drop (HT.sIx z.length 0 lo)).take (HT.sIx z.length z.length hi - HT.sIx z.length 0 lo) := by
    unfold cutS cp
    simp
  refine ⟨?_, fun c hc => ?_⟩
  · rw [← cp_len, e, List.length_take, List.length_drop, cp_len]
    have := h.len
    omega
  · rw [e] at hc
    exact h.cps c (List.mem_of_mem_drop (List.mem_of_mem_take hc))
theorem OkS.one {c : Nat} (h : c < 128) : OkS 1 ⟨#[c]⟩ := ⟨by simp [Str.length], fun x hx => by simp [cp] at hx; omega⟩
theorem OkS.repr {m : Nat} {z : Str} (h : OkS m z) : (reprText z).length ≤ 10 * m + 2 := by
  have h1 := StrLaws.reprText_len z (fun c hc => Nat.lt_of_lt_of_le (h.cps c hc) (by decide))
  have := h.len
  omega
theorem cp_join0 : ∀ l : List Str, cp (Str.join "" l) = (l.map cp).flatten
  | [] => rfl
  | [x] => by
    show cp x = _
    simp
  | x :: y :: r => by
    show cp (x ++ "" ++ Str.join "" (y :: r)) = _
    rw [cp_app, cp_app, cp_join0 (y :: r)]
    have e : cp ("" : Str) = [] := rfl
    rw [e]
    simp
theorem cp_joinT (l : List Str) : cp (Txt.join "" l) = (l.map cp).flatten := by
  rw [eq_of_beq (join_plain_closes "" l)]
  exact cp_join0 l
end HG

set_option maxHeartbeats 4000000
/-! HH: a head's facts by a Hook with one more Bool; written dicts with text keys; written tuples. -/
namespace HG
open PySem PySem.Spec PyProof.Rows L2

/-! ### the Hook -/
abbrev AlB : Type := He.AlT × Bool
def obsB (fa : List He.Fa) (fn : List He.DefD) (ts : List He.Tab) (bx : PySem.W.Frag → Bool) (K : PySem.W.Frag) : AlB := (He.obsT fa fn ts K, bx K)
def obsBG (n : Nat) (fa : List He.Fa) (fn : List He.DefD) (ts : List He.Tab) (bx : PySem.W.Frag → Bool) (g : Addr → Option Obj) : AlB := obsB fa fn ts bx (He.frG g (He.asD g n))
def SaysB (fa : List He.Fa) (fn : List He.DefD) (ts : List He.Tab) (bx : PySem.W.Frag → Bool) (w : World) (K : PySem.W.Frag) : Prop := obsB fa fn ts bx K = (He.valT fn ts w, true)
def hookB (n : Nat) (fa : List He.Fa) (fn : List He.DefD) (ts : List He.Tab) (bx : PySem.W.Frag → Bool) : PySem.W.Hook where
  α := AlB
  obs := fun s => obsBG n fa fn ts bx s.heap.get?
  val := fun w => (He.valT fn ts w, true)
  says := fun w h => ∃ K : PySem.W.Frag, K.In h ∧ SaysB fa fn ts bx w K
  of := fun _ _ e => ⟨_, He.frG_in, e⟩
  keeps := fun _ _ _ ⟨K, hK, c⟩ k => ⟨K, PySem.W.Frag.In.keeps hK k, c⟩
theorem obsBG_eq {n : Nat} {fa : List He.Fa} {fn : List He.DefD} {ts : List He.Tab} {bx : PySem.W.Frag → Bool} {g : Addr → Option Obj} {s : Shared} (h : ∀ a, g a = s.heap.get? a) :
    obsBG n fa fn ts bx g = (hookB n fa fn ts bx).obs s := by
  have e : g = s.heap.get? := funext h
  rw [e]
  rfl
section
variable {fa : List He.Fa} {fn : List He.DefD} {ts : List He.Tab} {bx : PySem.W.Frag → Bool} {w : World} {K : PySem.W.Frag}
theorem SaysB.t (c : SaysB fa fn ts bx w K) : He.SaysT fa fn ts w K := congrArg (fun z : AlB => z.1) c
theorem SaysB.d (c : SaysB fa fn ts bx w K) : He.SaysD fa fn K := c.t.d
theorem SaysB.b (c : SaysB fa fn ts bx w K) : bx K = true := congrArg (fun z : AlB => z.2) c
end

/-! ### a written dict with text keys -/
structure KTab (K : PySem.W.Frag) (w : World) (a : Addr) (kvs : List (Str × V)) : Prop where
  dict : ∃ es n, KDict K w a es n
  hit : ∀ q ∈ kvs, ∃ u, PySem.W.nsIn K a q.1 = some (some u) ∧ RelV q.2 u
  miss : ∀ z : Str, z ∉ kvs.map (·.1) → PySem.W.nsIn K a z = some none
theorem keys_mem {P : Params} : ∀ {l : List DictEntry} {ks : List Str}, l.map He.keyOf = He.keysIn P ks → ∀ e ∈ l, ∃ x t, e.key = .str x t ∧ x ∈ ks
  | [], _, _, e, he => nomatch he
  | e :: r, [], h, _, _ => by cases h
  | e :: r, k :: ks, h, d, hd => by
    have h1 : He.keyOf e :: r.map He.keyOf = some (k, PyData.keyHash P k) :: He.keysIn P ks := h
    injection h1 with h2 h3
    rcases List.mem_cons.mp hd with rfl | hd
    · unfold He.keyOf at h2
      split at h2
      · rename_i x t q
        have h4 := Option.some.inj h2
        obtain ⟨h5, h6⟩ := Prod.mk.inj h4
        exact ⟨x, t, q, by rw [h5]; exact List.mem_cons_self⟩
      · cases h2
    · obtain ⟨x, t, q, hx⟩ := keys_mem h3 d hd
      exact ⟨x, t, q, List.mem_cons_of_mem _ hx⟩
theorem ns_miss {K : PySem.W.Frag} {P : Params} {a : Addr} {ks : List Str} (h : He.dicW K a = some (He.keysIn P ks)) {z : Str} (hz : z ∉ ks) : PySem.W.nsIn K a z = some none := by
  unfold He.dicW at h
  cases q : K.lookup a with
  | none =>
    rw [q] at h
    cases h
  | some o =>
    obtain ⟨oc, od, dt, osl⟩ := o
    rw [q] at h
    cases oc with
    | type c =>
      cases od with
      | none =>
        cases dt with
        | dict es n =>
          have h1 : (match decide (c = "dict") && (osl.isEmpty && !(a == sysModules)) with
            | true => some (es.toList.map He.keyOf)
            | false => none) = some (He.keysIn P ks) := h
          have h2 : es.toList.map He.keyOf = He.keysIn P ks := by
            cases y : decide (c = "dict") && (osl.isEmpty && !(a == sysModules)) with
            | false =>
              rw [y] at h1
              cases h1
            | true =>
              rw [y] at h1
              exact Option.some.inj h1
          have hk := keys_mem h2
          unfold PySem.W.nsIn
          rw [q]
          have e1 : es.toList.find? (·.key.isStr z) = none := by
            rw [List.find?_eq_none]
            intro e he
            obtain ⟨x, t, ex, hx⟩ := hk e he
            rw [ex]
            show ¬ (Value.str x t).isStr z = true
            intro hs
            have : x = z := by
              first
                | exact (beq_iff_eq.mp hs)
                | exact of_decide_eq_true hs
                | (simp [Value.isStr] at hs; exact hs)
            exact hz (this ▸ hx)
          have e2 : es.toList.any (·.refKey) = false := by
            rw [List.any_eq_false]
            intro e he
            obtain ⟨x, t, ex, hx⟩ := hk e he
            unfold DictEntry.refKey
            rw [ex]
            simp
          show (match es.toList.find? (·.key.isStr z) with
            | some e => some (some e.val)
            | none => if es.toList.any (·.refKey) then none else some none) = some none
          rw [e1, e2]
          rfl
        | _ => cases h
      | some b => cases dt <;> cases h
    | _ => cases od <;> cases dt <;> cases h
theorem ktab_mk {fa : List He.Fa} {fn : List He.DefD} {ts : List He.Tab} {bx : PySem.W.Frag → Bool} {w : World} {K : PySem.W.Frag} (c : SaysB fa fn ts bx w K) (i : Nat) {t : He.Tab} {kvs : List (Str × He.Dv)}
    (h : ts[i]? = some t) (hk : t.2 = kvs.map (·.1)) (hv : He.valsB K (t.1 K) kvs = true) : KTab K w (t.1 K) (kvs.map fun q => (q.1, q.2.v K)) := by
  have e : ts.map (fun t => He.dicW K (t.1 K)) = ts.map fun t => some (He.keysIn w.params t.2) := congrArg (fun z : He.AlT => z.2) c.t
  have e2 : (ts.map fun t => He.dicW K (t.1 K))[i]? = (ts.map fun t => some (He.keysIn w.params t.2))[i]? := by rw [e]
  rw [List.getElem?_map, List.getElem?_map, h] at e2
  have e3 := Option.some.inj e2
  refine ⟨He.dicW_ok e3, fun q hq => ?_, fun z hz => ns_miss e3 ?_⟩
  · obtain ⟨p, hp, rfl⟩ := List.mem_map.mp hq
    exact He.valsB_ok hv hp
  · rw [hk]
    rw [List.map_map] at hz
    exact hz
def tabGet (kvs : List (Str × V)) (z : Str) : Option V := (kvs.find? fun q => decide (q.1 = z)).map (·.2)
section
variable {X : Cx} {a : Addr} {kvs : List (Str × V)}
theorem ktab_get {K : PySem.W.Frag} {w : World} (T : KTab K w a kvs) (z : Str) : (∃ v u, tabGet kvs z = some v ∧ PySem.W.nsIn K a z = some (some u) ∧ RelV v u) ∨ (tabGet kvs z = none ∧ PySem.W.nsIn K a z = some none) := by
  unfold tabGet
  cases e : kvs.find? fun q => decide (q.1 = z) with
  | none =>
    refine .inr ⟨rfl, T.miss z fun hz => ?_⟩
    obtain ⟨q, hq, rfl⟩ := List.mem_map.mp hz
    have := List.find?_eq_none.mp e q hq
    simp at this
  | some q =>
    have h1 : q.1 = z := by simpa using List.find?_some e
    obtain ⟨u, h2, h3⟩ := T.hit q (List.mem_of_find?_eq_some e)
    rw [h1] at h2
    exact .inl ⟨q.2, u, rfl, h2, h3⟩
/-- z in TABLE -/
theorem op_in_tab (T : KTab X.K X.w a kvs) : OpR X (compareOp .In) (fun x y H Q => ∃ z : Str, x = .str z ∧ y = .ref a ∧ Q (.bl (tabGet kvs z).isSome) H) := by
  obtain ⟨es, n, D⟩ := T.dict
  intro pins s σ H x y v u Q I rx ry h
  obtain ⟨z, rfl, rfl, q⟩ := h
  rcases ktab_get T z with ⟨v0, u0, e1, e2, _⟩ | ⟨e1, e2⟩
  · rw [e1] at q
    exact op_in_kd D pins s σ H _ _ v u Q I rx ry ⟨z, _, rfl, rfl, e2, q⟩
  · rw [e1] at q
    exact op_in_kd D pins s σ H _ _ v u Q I rx ry ⟨z, _, rfl, rfl, e2, q⟩
theorem op_notIn_tab (T : KTab X.K X.w a kvs) : OpR X (compareOp .NotIn) (fun x y H Q => ∃ z : Str, x = .str z ∧ y = .ref a ∧ Q (.bl (!(tabGet kvs z).isSome)) H) := by
  obtain ⟨es, n, D⟩ := T.dict
  intro pins s σ H x y v u Q I rx ry h
  obtain ⟨z, rfl, rfl, q⟩ := h
  rcases ktab_get T z with ⟨v0, u0, e1, e2, _⟩ | ⟨e1, e2⟩
  · rw [e1] at q
    exact op_notIn_kd D pins s σ H _ _ v u Q I rx ry ⟨z, _, rfl, rfl, e2, q⟩
  · rw [e1] at q
    exact op_notIn_kd D pins s σ H _ _ v u Q I rx ry ⟨z, _, rfl, rfl, e2, q⟩
/-- TABLE[z] -/
theorem ix_tab (T : KTab X.K X.w a kvs) : IxR X (fun x y H Q => ∃ (z : Str) (v : V), x = .ref a ∧ y = .str z ∧ tabGet kvs z = some v ∧ Q v H) := by
  intro value slice pins s σ H x y v u Q I rx ry h hs
  obtain ⟨z, v1, rfl, rfl, e, q⟩ := h
  obtain ⟨es, n, D⟩ := T.dict
  rcases ktab_get T z with ⟨v0, u0, e1, e2, e3⟩ | ⟨e1, e2⟩
  · rw [e] at e1
    cases e1
    exact ix_kdict value slice pins s σ H _ _ v u Q I rx ry ⟨a, z, v1, rfl, rfl, ⟨es, n, u0, D.at_, D.lit, e2, e3⟩, q⟩ hs
  · rw [e] at e1
    cases e1
end

/-! ### a written tuple of plain things -/
def tupB (K : PySem.W.Frag) (x : Str) (ds : List He.Dv) : Bool := match K.lookup (He.ga K x) with
  | some ⟨.type "tuple", _, .seq its _, _⟩ => He.relAll (ds.map (He.Dv.v K)) its.toList && decide (its.size ≤ 1000)
  | _ => false
theorem tupB_ok {K : PySem.W.Frag} {x : Str} {ds : List He.Dv} (h : tupB K x ds = true) (H : Hp) : SqT K H (He.ga K x) (ds.map (He.Dv.v K)) := by
  unfold tupB at h
  split at h
  · rename_i od its n sl q
    obtain ⟨h1, h2⟩ := He.ba h
    exact .inr ⟨_, its, n, q, rfl, rfl, Nat.le_trans (of_decide_eq_true h2) (by decide), He.relAll_ok h1⟩
  · cases h
end HG

set_option maxHeartbeats 0
namespace K18
open PySem PySem.Spec PyProof.Rows L2 HG
def top (i : Nat) : Stmt := PySem.Challenge.pw_wholeapart_k18_images_executed.main.body.getD i (.Pass ⟨0, 0, 0, 0⟩)
def dd (x : Str) (i : Nat) : He.DefD := ⟨(x, none), x, x, defArgs (top i), defBody (top i), defScope (top i), [], []⟩
def dm (C m q : Str) (i j : Nat) : He.DefD := ⟨(C, some m), m, q, defArgs (inClass (top i) j), defBody (inClass (top i) j), defScope (inClass (top i) j), [], []⟩
def fn : List He.DefD := [dd "computed" 5, dd "outcome" 9, dd "loaded" 11, ⟨("execute", none), "execute", "execute", defArgs (top 12), defBody (top 12), defScope (top 12), [], [("steps", .int 1000)]⟩, dd "_law_deck" 14, dd "_law_draw" 15, dd "_law_pick" 16, dd "_law_operand" 17, dd "_law_callee" 18, dd "_law_data_row" 19, dd "_law_call_row" 20, dd "_law_row" 21, dd "_law_code" 22, dd "_law_image" 23, dd "_law_entered" 24, dd "_law_begun" 25, dd "_law_worth" 26, dd "_law_computed" 27, dd "_law_left" 28, dd "_law_array" 29, dd "_law_step" 30, dd "_law_run" 31, dd "_law_right" 32, dd "law" 33, dm "Frame" "__init__" "Frame.__init__" 7 0, dm "Frame" "value" "Frame.value" 7 1, dm "Process" "__init__" "Process.__init__" 8 0, dm "Process" "begin" "Process.begin" 8 1, dm "Process" "enter" "Process.enter" 8 2, dm "Process" "step" "Process.step" 8 3, dm "Process" "call" "Process.call" 8 4, dm "Process" "leave" "Process.leave" 8 5, dm "Process" "go" "Process.go" 8 6, dm "Process" "write" "Process.write" 8 7, dm "Process" "assign" "Process.assign" 8 8, dm "Process" "read" "Process.read" 8 9]
def fa : List He.Fa := [.meth "Frame" "value", .cls "Frame", .mkr "Frame", .noat "Frame" "code", .noat "Frame" "variables", .noat "Frame" "target", .noat "Frame" "next", .meth "Process" "begin", .meth "Process" "enter", .meth "Process" "step", .meth "Process" "call", .meth "Process" "leave", .meth "Process" "go", .meth "Process" "write", .meth "Process" "assign", .meth "Process" "read", .cls "Process", .mkr "Process", .noat "Process" "codes", .noat "Process" "cells", .noat "Process" "arrays", .noat "Process" "waiting", .noat "Process" "frames", .noat "Process" "end", .int "WORDS" (65536), .free "ValueError", .free "dict", .free "enumerate", .free "int", .free "isinstance", .free "len", .free "list", .free "min", .free "range", .free "repr", .free "sorted", .free "super", .free "tuple", .free "zip", .glo "computed", .glo "outcome", .glo "loaded", .glo "execute", .glo "_law_deck", .glo "_law_draw", .glo "_law_pick", .glo "_law_operand", .glo "_law_callee", .glo "_law_data_row", .glo "_law_call_row", .glo "_law_row", .glo "_law_code", .glo "_law_image", .glo "_law_entered", .glo "_law_begun", .glo "_law_worth", .glo "_law_computed", .glo "_law_left", .glo "_law_array", .glo "_law_step", .glo "_law_run", .glo "_law_right", .glo "law", .glo "Frame", .glo "Process"]
def ts : List He.Tab := []
def bx (K : PySem.W.Frag) : Bool := true
abbrev R : PySem.W.OpenRow := PySem.W.OpenLaw.row PySem.Challenge.rw_wholeapart_k18_images_executed
abbrev hk : PySem.W.Hook := hookB 5 fa fn ts bx
def ob (s : PySem.W.SharedT) : AlB := obsBG 5 fa fn ts bx (HandSHeadRun.getT s)
theorem ob_eq (s : PySem.W.SharedT) : ob s = hk.obs s.abs := obsBG_eq (HandSHeadRun.getT_eq s)
def loose : List Str := (["WholeError", "NoEntry", "WORDS", "computed", "Frame", "Process", "outcome", "loaded", "execute", "_law_deck", "_law_draw", "_law_pick", "_law_operand", "_law_callee", "_law_data_row", "_law_call_row", "_law_row", "_law_code", "_law_image", "_law_entered", "_law_begun", "_law_worth", "_law_computed", "_law_left", "_law_array", "_law_step", "_law_run", "_law_right"] : List Str)
theorem runF (w : World) : HandSHeadRun.RunEq R (PySem.W.view R.prog [33]) hk ob 6000 loose (w.withFollow "special-get-raises" false) := by
  intro os
  kernel_rfl
theorem runT (w : World) : HandSHeadRun.RunEq R (PySem.W.view R.prog [33]) hk ob 6000 loose (w.withFollow "special-get-raises" true) := by
  intro os
  kernel_rfl
theorem run (w : World) : HandSHeadRun.RunEq R (PySem.W.view R.prog [33]) hk ob 6000 loose w := PySem.W.byRow2 "special-get-raises" (P := fun w => HandSHeadRun.RunEq R (PySem.W.view R.prog [33]) hk ob 6000 loose w) runF runT w
abbrev FnP (K : PySem.W.Frag) (x : Str) (st : Stmt) : Prop := ∃ fd, FunD K x x (defArgs st) (defBody st) (defScope st) [] [] (He.ga K x) fd
abbrev s_computed : Stmt := top 5
abbrev N_computed : List Str := ["op", "one", "other"]
theorem sc_computed : FnScope N_computed ["op", "one", "other"] (defScope s_computed) := ⟨rfl, rfl, rfl, by decide +kernel, rfl, by decide +kernel, by decide +kernel⟩
abbrev s_outcome : Stmt := top 9
abbrev N_outcome : List Str := ["process", "steps", "prints", "left", "word"]
theorem sc_outcome : FnScope N_outcome ["process", "steps"] (defScope s_outcome) := ⟨rfl, rfl, rfl, by decide +kernel, rfl, by decide +kernel, by decide +kernel⟩
abbrev s_loaded : Stmt := top 11
abbrev N_loaded : List Str := ["image", "entry", "words", "codes", "cells", "arrays", "starts", "entries", "numbers", "numbered", "values", "lists", "name", "number", "count", "slots", "returns", "code", "value", "some"]
theorem sc_loaded : FnScope N_loaded ["image", "entry", "words"] (defScope s_loaded) := ⟨rfl, rfl, rfl, by decide +kernel, rfl, by decide +kernel, by decide +kernel⟩
abbrev s_execute : Stmt := top 12
abbrev N_execute : List Str := ["image", "entry", "words", "steps"]
theorem sc_execute : FnScope N_execute ["image", "entry", "words", "steps"] (defScope s_execute) := ⟨rfl, rfl, rfl, by decide +kernel, rfl, by decide +kernel, by decide +kernel⟩
abbrev s__law_deck : Stmt := top 14
abbrev N__law_deck : List Str := ["_law_script", "_law_cells", "_law_total", "_law_cell"]
theorem sc__law_deck : FnScope N__law_deck ["_law_script"] (defScope s__law_deck) := ⟨rfl, rfl, rfl, by decide +kernel, rfl, by decide +kernel, by decide +kernel⟩
abbrev s__law_draw : Stmt := top 15
abbrev N__law_draw : List Str := ["_law_deck_here", "_law_many", "_law_cell", "_law_made"]
theorem sc__law_draw : FnScope N__law_draw ["_law_deck_here", "_law_many"] (defScope s__law_draw) := ⟨rfl, rfl, rfl, by decide +kernel, rfl, by decide +kernel, by decide +kernel⟩
abbrev s__law_pick : Stmt := top 16
abbrev N__law_pick : List Str := ["_law_deck_here", "_law_items"]
theorem sc__law_pick : FnScope N__law_pick ["_law_deck_here", "_law_items"] (defScope s__law_pick) := ⟨rfl, rfl, rfl, by decide +kernel, rfl, by decide +kernel, by decide +kernel⟩
abbrev s__law_operand : Stmt := top 17
abbrev N__law_operand : List Str := ["_law_deck_here", "_law_world", "_law_some"]
theorem sc__law_operand : FnScope N__law_operand ["_law_deck_here", "_law_world"] (defScope s__law_operand) := ⟨rfl, rfl, rfl, by decide +kernel, rfl, by decide +kernel, by decide +kernel⟩
abbrev s__law_callee : Stmt := top 18
abbrev N__law_callee : List Str := ["_law_deck_here", "_law_world", "_law_target", "_law_some", "_law_k", "_law_head"]
theorem sc__law_callee : FnScope N__law_callee ["_law_deck_here", "_law_world", "_law_target"] (defScope s__law_callee) := ⟨rfl, rfl, rfl, by decide +kernel, rfl, by decide +kernel, by decide +kernel⟩
abbrev s__law_data_row : Stmt := top 19
abbrev N__law_data_row : List Str := ["_law_deck_here", "_law_world", "_law_at", "_law_size", "_law_way", "_law_slot"]
theorem sc__law_data_row : FnScope N__law_data_row ["_law_deck_here", "_law_world", "_law_at", "_law_size"] (defScope s__law_data_row) := ⟨rfl, rfl, rfl, by decide +kernel, rfl, by decide +kernel, by decide +kernel⟩
abbrev s__law_call_row : Stmt := top 20
abbrev N__law_call_row : List Str := ["_law_deck_here", "_law_world", "_law_target", "_law_callee_here", "_law_slot"]
theorem sc__law_call_row : FnScope N__law_call_row ["_law_deck_here", "_law_world"] (defScope s__law_call_row) := ⟨rfl, rfl, rfl, by decide +kernel, rfl, by decide +kernel, by decide +kernel⟩
abbrev s__law_row : Stmt := top 21
abbrev N__law_row : List Str := ["_law_deck_here", "_law_world", "_law_at", "_law_size", "_law_way", "_law_slot", "_law_word", "_law_there"]
theorem sc__law_row : FnScope N__law_row ["_law_deck_here", "_law_world", "_law_at", "_law_size"] (defScope s__law_row) := ⟨rfl, rfl, rfl, by decide +kernel, rfl, by decide +kernel, by decide +kernel⟩
abbrev s__law_code : Stmt := top 22
abbrev N__law_code : List Str := ["_law_deck_here", "_law_world", "_law_head", "_law_size", "_law_code_here", "_law_at", "_law_k"]
theorem sc__law_code : FnScope N__law_code ["_law_deck_here", "_law_world", "_law_head"] (defScope s__law_code) := ⟨rfl, rfl, rfl, by decide +kernel, rfl, by decide +kernel, by decide +kernel⟩
abbrev s__law_image : Stmt := top 23
abbrev N__law_image : List Str := ["_law_deck_here", "_law_heads", "_law_k", "_law_slots", "_law_world", "_law_codes", "_law_cells", "_law_arrays", "_law_plain", "_law_starts", "_law_names", "_law_entries", "_law_head"]
theorem sc__law_image : FnScope N__law_image ["_law_deck_here"] (defScope s__law_image) := ⟨rfl, rfl, rfl, by decide +kernel, rfl, by decide +kernel, by decide +kernel⟩
abbrev s__law_entered : Stmt := top 24
abbrev N__law_entered : List Str := ["_law_machine", "_law_number", "_law_values", "_law_target", "_law_slots", "_law_returns", "_law_code_here", "_law_held", "_law_slot"]
theorem sc__law_entered : FnScope N__law_entered ["_law_machine", "_law_number", "_law_values", "_law_target"] (defScope s__law_entered) := ⟨rfl, rfl, rfl, by decide +kernel, rfl, by decide +kernel, by decide +kernel⟩
abbrev s__law_begun : Stmt := top 25
abbrev N__law_begun : List Str := ["_law_image_here", "_law_number", "_law_words", "_law_codes", "_law_cells", "_law_arrays", "_law_starts", "_law_entries", "_law_machine", "_law_row_here", "_law_one"]
theorem sc__law_begun : FnScope N__law_begun ["_law_image_here", "_law_number", "_law_words"] (defScope s__law_begun) := ⟨rfl, rfl, rfl, by decide +kernel, rfl, by decide +kernel, by decide +kernel⟩
abbrev s__law_worth : Stmt := top 26
abbrev N__law_worth : List Str := ["_law_frame", "_law_part"]
theorem sc__law_worth : FnScope N__law_worth ["_law_frame", "_law_part"] (defScope s__law_worth) := ⟨rfl, rfl, rfl, by decide +kernel, rfl, by decide +kernel, by decide +kernel⟩
abbrev s__law_computed : Stmt := top 27
abbrev N__law_computed : List Str := ["_law_word", "_law_one", "_law_other"]
theorem sc__law_computed : FnScope N__law_computed ["_law_word", "_law_one", "_law_other"] (defScope s__law_computed) := ⟨rfl, rfl, rfl, by decide +kernel, rfl, by decide +kernel, by decide +kernel⟩
abbrev s__law_left : Stmt := top 28
abbrev N__law_left : List Str := ["_law_machine", "_law_frame", "_law_worth_here", "_law_number", "_law_words"]
theorem sc__law_left : FnScope N__law_left ["_law_machine", "_law_frame", "_law_worth_here"] (defScope s__law_left) := ⟨rfl, rfl, rfl, by decide +kernel, rfl, by decide +kernel, by decide +kernel⟩
abbrev s__law_array : Stmt := top 29
abbrev N__law_array : List Str := ["_law_machine", "_law_frame", "_law_row_here", "_law_values", "_law_at"]
theorem sc__law_array : FnScope N__law_array ["_law_machine", "_law_frame", "_law_row_here"] (defScope s__law_array) := ⟨rfl, rfl, rfl, by decide +kernel, rfl, by decide +kernel, by decide +kernel⟩
abbrev s__law_step : Stmt := top 30
abbrev N__law_step : List Str := ["_law_machine", "_law_frame", "_law_row_here", "_law_held", "_law_word", "_law_number", "_law_part"]
theorem sc__law_step : FnScope N__law_step ["_law_machine"] (defScope s__law_step) := ⟨rfl, rfl, rfl, by decide +kernel, rfl, by decide +kernel, by decide +kernel⟩
abbrev s__law_run : Stmt := top 31
abbrev N__law_run : List Str := ["_law_image_here", "_law_name", "_law_words", "_law_limit", "_law_a", "_law_b", "_law_c", "_law_d"]
theorem sc__law_run : FnScope N__law_run ["_law_image_here", "_law_name", "_law_words", "_law_limit"] (defScope s__law_run) := ⟨rfl, rfl, rfl, by decide +kernel, rfl, by decide +kernel, by decide +kernel⟩
abbrev s__law_right : Stmt := top 32
abbrev N__law_right : List Str := ["_law_deck_here", "_law_image_here", "_law_name", "_law_number", "_law_words", "_law_machine", "_law_told", "_law_count", "_law_asked", "_law_limit", "_law_end", "_law_due", "_law_turn", "_law_k"]
theorem sc__law_right : FnScope N__law_right ["_law_deck_here", "_law_image_here", "_law_name", "_law_number", "_law_words"] (defScope s__law_right) := ⟨rfl, rfl, rfl, by decide +kernel, rfl, by decide +kernel, by decide +kernel⟩
abbrev s_law : Stmt := top 33
abbrev N_law : List Str := ["_law_script", "_law_deck_here", "_law_turn", "_law_image_here", "_law_kept", "_law_name", "_law_number", "_law_count", "_law_words", "_law_k"]
theorem sc_law : FnScope N_law ["_law_script"] (defScope s_law) := ⟨rfl, rfl, rfl, by decide +kernel, rfl, by decide +kernel, by decide +kernel⟩
abbrev s_Frame___init__ : Stmt := inClass (top 7) 0
abbrev N_Frame___init__ : List Str := ["self", "code", "variables", "target"]
theorem sc_Frame___init__ : FnScope N_Frame___init__ ["self", "code", "variables", "target"] (defScope s_Frame___init__) := ⟨rfl, rfl, rfl, by decide +kernel, rfl, by decide +kernel, by decide +kernel⟩
abbrev s_Frame_value : Stmt := inClass (top 7) 1
abbrev N_Frame_value : List Str := ["self", "operand"]
theorem sc_Frame_value : FnScope N_Frame_value ["self", "operand"] (defScope s_Frame_value) := ⟨rfl, rfl, rfl, by decide +kernel, rfl, by decide +kernel, by decide +kernel⟩
abbrev s_Process___init__ : Stmt := inClass (top 8) 0
abbrev N_Process___init__ : List Str := ["self", "codes", "cells", "arrays", "calls", "name", "values"]
theorem sc_Process___init__ : FnScope N_Process___init__ ["self", "codes", "cells", "arrays", "calls"] (defScope s_Process___init__) := ⟨rfl, rfl, rfl, by decide +kernel, rfl, by decide +kernel, by decide +kernel⟩
abbrev s_Process_begin : Stmt := inClass (top 8) 1
abbrev N_Process_begin : List Str := ["self", "function", "words"]
theorem sc_Process_begin : FnScope N_Process_begin ["self"] (defScope s_Process_begin) := ⟨rfl, rfl, rfl, by decide +kernel, rfl, by decide +kernel, by decide +kernel⟩
abbrev s_Process_enter : Stmt := inClass (top 8) 2
abbrev N_Process_enter : List Str := ["self", "function", "values", "target", "parameters", "code"]
theorem sc_Process_enter : FnScope N_Process_enter ["self", "function", "values", "target"] (defScope s_Process_enter) := ⟨rfl, rfl, rfl, by decide +kernel, rfl, by decide +kernel, by decide +kernel⟩
abbrev s_Process_step : Stmt := inClass (top 8) 3
abbrev N_Process_step : List Str := ["self", "frame", "instruction", "word"]
theorem sc_Process_step : FnScope N_Process_step ["self"] (defScope s_Process_step) := ⟨rfl, rfl, rfl, by decide +kernel, rfl, by decide +kernel, by decide +kernel⟩
abbrev s_Process_call : Stmt := inClass (top 8) 4
abbrev N_Process_call : List Str := ["self", "frame", "instruction", "word", "target", "function", "arguments", "argument"]
theorem sc_Process_call : FnScope N_Process_call ["self", "frame", "instruction"] (defScope s_Process_call) := ⟨rfl, rfl, rfl, by decide +kernel, rfl, by decide +kernel, by decide +kernel⟩
abbrev s_Process_leave : Stmt := inClass (top 8) 5
abbrev N_Process_leave : List Str := ["self", "frame", "operand", "value"]
theorem sc_Process_leave : FnScope N_Process_leave ["self", "frame", "operand"] (defScope s_Process_leave) := ⟨rfl, rfl, rfl, by decide +kernel, rfl, by decide +kernel, by decide +kernel⟩
abbrev s_Process_go : Stmt := inClass (top 8) 6
abbrev N_Process_go : List Str := ["self", "frame", "instruction", "word", "holds"]
theorem sc_Process_go : FnScope N_Process_go ["self", "frame", "instruction"] (defScope s_Process_go) := ⟨rfl, rfl, rfl, by decide +kernel, rfl, by decide +kernel, by decide +kernel⟩
abbrev s_Process_write : Stmt := inClass (top 8) 7
abbrev N_Process_write : List Str := ["self", "frame", "instruction", "word", "name", "index", "operand", "place"]
theorem sc_Process_write : FnScope N_Process_write ["self", "frame", "instruction"] (defScope s_Process_write) := ⟨rfl, rfl, rfl, by decide +kernel, rfl, by decide +kernel, by decide +kernel⟩
abbrev s_Process_assign : Stmt := inClass (top 8) 8
abbrev N_Process_assign : List Str := ["self", "frame", "instruction", "word", "target", "value"]
theorem sc_Process_assign : FnScope N_Process_assign ["self", "frame", "instruction"] (defScope s_Process_assign) := ⟨rfl, rfl, rfl, by decide +kernel, rfl, by decide +kernel, by decide +kernel⟩
abbrev s_Process_read : Stmt := inClass (top 8) 9
abbrev N_Process_read : List Str := ["self", "frame", "instruction", "values", "place"]
theorem sc_Process_read : FnScope N_Process_read ["self", "frame", "instruction"] (defScope s_Process_read) := ⟨rfl, rfl, rfl, by decide +kernel, rfl, by decide +kernel, by decide +kernel⟩
def gnames : List Str := (["computed", "outcome", "loaded", "execute", "_law_deck", "_law_draw", "_law_pick", "_law_operand", "_law_callee", "_law_data_row", "_law_call_row", "_law_row", "_law_code", "_law_image", "_law_entered", "_law_begun", "_law_worth", "_law_computed", "_law_left", "_law_array", "_law_step", "_law_run", "_law_right", "law", "Frame", "Process"] : List Str)
structure Txt (w : World) (K : PySem.W.Frag) (mg : Str → Option Value) : Prop where
  d_computed : FnP K "computed" s_computed
  d_outcome : FnP K "outcome" s_outcome
  d_loaded : FnP K "loaded" s_loaded
  d_execute : ∃ fd, FunD K "execute" "execute" (defArgs s_execute) (defBody s_execute) (defScope s_execute) [] [("steps", .int 1000)] (He.ga K "execute") fd
  d__law_deck : FnP K "_law_deck" s__law_deck
  d__law_draw : FnP K "_law_draw" s__law_draw
  d__law_pick : FnP K "_law_pick" s__law_pick
  d__law_operand : FnP K "_law_operand" s__law_operand
  d__law_callee : FnP K "_law_callee" s__law_callee
  d__law_data_row : FnP K "_law_data_row" s__law_data_row
  d__law_call_row : FnP K "_law_call_row" s__law_call_row
  d__law_row : FnP K "_law_row" s__law_row
  d__law_code : FnP K "_law_code" s__law_code
  d__law_image : FnP K "_law_image" s__law_image
  d__law_entered : FnP K "_law_entered" s__law_entered
  d__law_begun : FnP K "_law_begun" s__law_begun
  d__law_worth : FnP K "_law_worth" s__law_worth
  d__law_computed : FnP K "_law_computed" s__law_computed
  d__law_left : FnP K "_law_left" s__law_left
  d__law_array : FnP K "_law_array" s__law_array
  d__law_step : FnP K "_law_step" s__law_step
  d__law_run : FnP K "_law_run" s__law_run
  d__law_right : FnP K "_law_right" s__law_right
  d_law : FnP K "law" s_law
  d_Frame___init__ : ∃ fd, FunD K "__init__" "Frame.__init__" (defArgs s_Frame___init__) (defBody s_Frame___init__) (defScope s_Frame___init__) [] [] (He.ma K (He.ga K "Frame") "__init__") fd
  d_Frame_value : ∃ fd, FunD K "value" "Frame.value" (defArgs s_Frame_value) (defBody s_Frame_value) (defScope s_Frame_value) [] [] (He.ma K (He.ga K "Frame") "value") fd
  m_Frame_value : Meth K (He.ga K "Frame") "value" (He.ma K (He.ga K "Frame") "value")
  cl_Frame : Cls K (He.ga K "Frame")
  mk_Frame : Mk K (He.ga K "Frame") (He.ma K (He.ga K "Frame") "__init__")
  no_Frame_code : NoAttr K (He.ga K "Frame") "code"
  no_Frame_variables : NoAttr K (He.ga K "Frame") "variables"
  no_Frame_target : NoAttr K (He.ga K "Frame") "target"
  no_Frame_next : NoAttr K (He.ga K "Frame") "next"
  d_Process___init__ : ∃ fd, FunD K "__init__" "Process.__init__" (defArgs s_Process___init__) (defBody s_Process___init__) (defScope s_Process___init__) [] [] (He.ma K (He.ga K "Process") "__init__") fd
  d_Process_begin : ∃ fd, FunD K "begin" "Process.begin" (defArgs s_Process_begin) (defBody s_Process_begin) (defScope s_Process_begin) [] [] (He.ma K (He.ga K "Process") "begin") fd
  m_Process_begin : Meth K (He.ga K "Process") "begin" (He.ma K (He.ga K "Process") "begin")
  d_Process_enter : ∃ fd, FunD K "enter" "Process.enter" (defArgs s_Process_enter) (defBody s_Process_enter) (defScope s_Process_enter) [] [] (He.ma K (He.ga K "Process") "enter") fd
  m_Process_enter : Meth K (He.ga K "Process") "enter" (He.ma K (He.ga K "Process") "enter")
  d_Process_step : ∃ fd, FunD K "step" "Process.step" (defArgs s_Process_step) (defBody s_Process_step) (defScope s_Process_step) [] [] (He.ma K (He.ga K "Process") "step") fd
  m_Process_step : Meth K (He.ga K "Process") "step" (He.ma K (He.ga K "Process") "step")
  d_Process_call : ∃ fd, FunD K "call" "Process.call" (defArgs s_Process_call) (defBody s_Process_call) (defScope s_Process_call) [] [] (He.ma K (He.ga K "Process") "call") fd
  m_Process_call : Meth K (He.ga K "Process") "call" (He.ma K (He.ga K "Process") "call")
  d_Process_leave : ∃ fd, FunD K "leave" "Process.leave" (defArgs s_Process_leave) (defBody s_Process_leave) (defScope s_Process_leave) [] [] (He.ma K (He.ga K "Process") "leave") fd
  m_Process_leave : Meth K (He.ga K "Process") "leave" (He.ma K (He.ga K "Process") "leave")
  d_Process_go : ∃ fd, FunD K "go" "Process.go" (defArgs s_Process_go) (defBody s_Process_go) (defScope s_Process_go) [] [] (He.ma K (He.ga K "Process") "go") fd
  m_Process_go : Meth K (He.ga K "Process") "go" (He.ma K (He.ga K "Process") "go")
  d_Process_write : ∃ fd, FunD K "write" "Process.write" (defArgs s_Process_write) (defBody s_Process_write) (defScope s_Process_write) [] [] (He.ma K (He.ga K "Process") "write") fd
  m_Process_write : Meth K (He.ga K "Process") "write" (He.ma K (He.ga K "Process") "write")
  d_Process_assign : ∃ fd, FunD K "assign" "Process.assign" (defArgs s_Process_assign) (defBody s_Process_assign) (defScope s_Process_assign) [] [] (He.ma K (He.ga K "Process") "assign") fd
  m_Process_assign : Meth K (He.ga K "Process") "assign" (He.ma K (He.ga K "Process") "assign")
  d_Process_read : ∃ fd, FunD K "read" "Process.read" (defArgs s_Process_read) (defBody s_Process_read) (defScope s_Process_read) [] [] (He.ma K (He.ga K "Process") "read") fd
  m_Process_read : Meth K (He.ga K "Process") "read" (He.ma K (He.ga K "Process") "read")
  cl_Process : Cls K (He.ga K "Process")
  mk_Process : Mk K (He.ga K "Process") (He.ma K (He.ga K "Process") "__init__")
  no_Process_codes : NoAttr K (He.ga K "Process") "codes"
  no_Process_cells : NoAttr K (He.ga K "Process") "cells"
  no_Process_arrays : NoAttr K (He.ga K "Process") "arrays"
  no_Process_waiting : NoAttr K (He.ga K "Process") "waiting"
  no_Process_frames : NoAttr K (He.ga K "Process") "frames"
  no_Process_end : NoAttr K (He.ga K "Process") "end"
  c_WORDS : ∃ t, mg "WORDS" = some (.int (65536) t)
  n_ValueError : mg "ValueError" = none
  n_dict : mg "dict" = none
  n_enumerate : mg "enumerate" = none
  n_int : mg "int" = none
  n_isinstance : mg "isinstance" = none
  n_len : mg "len" = none
  n_list : mg "list" = none
  n_min : mg "min" = none
  n_range : mg "range" = none
  n_repr : mg "repr" = none
  n_sorted : mg "sorted" = none
  n_super : mg "super" = none
  n_tuple : mg "tuple" = none
  n_zip : mg "zip" = none
  g : ∀ x ∈ gnames, mg x = some (.ref (He.ga K x))
theorem glos {K : PySem.W.Frag} {h : Heap} {mg : Str → Option Value} (X : K.In h) (G : h.Ns mainGlobals mg) : ∀ {l : List Str}, (∀ x ∈ l, (He.Fa.glo x).ok K = true) → ∀ x ∈ l, mg x = some (.ref (He.ga K x)) := fun h x hx => He.glo_ok X G (h x hx)
theorem txt {w : World} {K : PySem.W.Frag} {h : Heap} {mg : Str → Option Value} (X : K.In h) (G : h.Ns mainGlobals mg) (c : SaysB fa fn ts bx w K) : Txt w K mg where
  d_computed := c.d.def_ 0 (d := dd "computed" 5) rfl
  d_outcome := c.d.def_ 1 (d := dd "outcome" 9) rfl
  d_loaded := c.d.def_ 2 (d := dd "loaded" 11) rfl
  d_execute := c.d.def_ 3 (d := ⟨("execute", none), "execute", "execute", defArgs (top 12), defBody (top 12), defScope (top 12), [], [("steps", .int 1000)]⟩) rfl
  d__law_deck := c.d.def_ 4 (d := dd "_law_deck" 14) rfl
  d__law_draw := c.d.def_ 5 (d := dd "_law_draw" 15) rfl
  d__law_pick := c.d.def_ 6 (d := dd "_law_pick" 16) rfl
  d__law_operand := c.d.def_ 7 (d := dd "_law_operand" 17) rfl
  d__law_callee := c.d.def_ 8 (d := dd "_law_callee" 18) rfl
  d__law_data_row := c.d.def_ 9 (d := dd "_law_data_row" 19) rfl
  d__law_call_row := c.d.def_ 10 (d := dd "_law_call_row" 20) rfl
  d__law_row := c.d.def_ 11 (d := dd "_law_row" 21) rfl
  d__law_code := c.d.def_ 12 (d := dd "_law_code" 22) rfl
  d__law_image := c.d.def_ 13 (d := dd "_law_image" 23) rfl
  d__law_entered := c.d.def_ 14 (d := dd "_law_entered" 24) rfl
  d__law_begun := c.d.def_ 15 (d := dd "_law_begun" 25) rfl
  d__law_worth := c.d.def_ 16 (d := dd "_law_worth" 26) rfl
  d__law_computed := c.d.def_ 17 (d := dd "_law_computed" 27) rfl
  d__law_left := c.d.def_ 18 (d := dd "_law_left" 28) rfl
  d__law_array := c.d.def_ 19 (d := dd "_law_array" 29) rfl
  d__law_step := c.d.def_ 20 (d := dd "_law_step" 30) rfl
  d__law_run := c.d.def_ 21 (d := dd "_law_run" 31) rfl
  d__law_right := c.d.def_ 22 (d := dd "_law_right" 32) rfl
  d_law := c.d.def_ 23 (d := dd "law" 33) rfl
  d_Frame___init__ := c.d.def_ 24 (d := dm "Frame" "__init__" "Frame.__init__" 7 0) rfl
  d_Frame_value := c.d.def_ 25 (d := dm "Frame" "value" "Frame.value" 7 1) rfl
  m_Frame_value := He.meth_ok (c.d.fact 0 (f := .meth "Frame" "value") rfl)
  cl_Frame := He.cls_ok (c.d.fact 1 (f := .cls "Frame") rfl)
  mk_Frame := He.mkr_ok (c.d.fact 2 (f := .mkr "Frame") rfl)
  no_Frame_code := He.noat_ok (c.d.fact 3 (f := .noat "Frame" "code") rfl)
  no_Frame_variables := He.noat_ok (c.d.fact 4 (f := .noat "Frame" "variables") rfl)
  no_Frame_target := He.noat_ok (c.d.fact 5 (f := .noat "Frame" "target") rfl)
  no_Frame_next := He.noat_ok (c.d.fact 6 (f := .noat "Frame" "next") rfl)
  d_Process___init__ := c.d.def_ 26 (d := dm "Process" "__init__" "Process.__init__" 8 0) rfl
  d_Process_begin := c.d.def_ 27 (d := dm "Process" "begin" "Process.begin" 8 1) rfl
  m_Process_begin := He.meth_ok (c.d.fact 7 (f := .meth "Process" "begin") rfl)
  d_Process_enter := c.d.def_ 28 (d := dm "Process" "enter" "Process.enter" 8 2) rfl
  m_Process_enter := He.meth_ok (c.d.fact 8 (f := .meth "Process" "enter") rfl)
  d_Process_step := c.d.def_ 29 (d := dm "Process" "step" "Process.step" 8 3) rfl
  m_Process_step := He.meth_ok (c.d.fact 9 (f := .meth "Process" "step") rfl)
  d_Process_call := c.d.def_ 30 (d := dm "Process" "call" "Process.call" 8 4) rfl
  m_Process_call := He.meth_ok (c.d.fact 10 (f := .meth "Process" "call") rfl)
  d_Process_leave := c.d.def_ 31 (d := dm "Process" "leave" "Process.leave" 8 5) rfl
  m_Process_leave := He.meth_ok (c.d.fact 11 (f := .meth "Process" "leave") rfl)
  d_Process_go := c.d.def_ 32 (d := dm "Process" "go" "Process.go" 8 6) rfl
  m_Process_go := He.meth_ok (c.d.fact 12 (f := .meth "Process" "go") rfl)
  d_Process_write := c.d.def_ 33 (d := dm "Process" "write" "Process.write" 8 7) rfl
  m_Process_write := He.meth_ok (c.d.fact 13 (f := .meth "Process" "write") rfl)
  d_Process_assign := c.d.def_ 34 (d := dm "Process" "assign" "Process.assign" 8 8) rfl
  m_Process_assign := He.meth_ok (c.d.fact 14 (f := .meth "Process" "assign") rfl)
  d_Process_read := c.d.def_ 35 (d := dm "Process" "read" "Process.read" 8 9) rfl
  m_Process_read := He.meth_ok (c.d.fact 15 (f := .meth "Process" "read") rfl)
  cl_Process := He.cls_ok (c.d.fact 16 (f := .cls "Process") rfl)
  mk_Process := He.mkr_ok (c.d.fact 17 (f := .mkr "Process") rfl)
  no_Process_codes := He.noat_ok (c.d.fact 18 (f := .noat "Process" "codes") rfl)
  no_Process_cells := He.noat_ok (c.d.fact 19 (f := .noat "Process" "cells") rfl)
  no_Process_arrays := He.noat_ok (c.d.fact 20 (f := .noat "Process" "arrays") rfl)
  no_Process_waiting := He.noat_ok (c.d.fact 21 (f := .noat "Process" "waiting") rfl)
  no_Process_frames := He.noat_ok (c.d.fact 22 (f := .noat "Process" "frames") rfl)
  no_Process_end := He.noat_ok (c.d.fact 23 (f := .noat "Process" "end") rfl)
  c_WORDS := He.int_ok X G (c.d.fact 24 (f := .int "WORDS" (65536)) rfl)
  n_ValueError := He.free_ok X G (c.d.fact 25 (f := .free "ValueError") rfl)
  n_dict := He.free_ok X G (c.d.fact 26 (f := .free "dict") rfl)
  n_enumerate := He.free_ok X G (c.d.fact 27 (f := .free "enumerate") rfl)
  n_int := He.free_ok X G (c.d.fact 28 (f := .free "int") rfl)
  n_isinstance := He.free_ok X G (c.d.fact 29 (f := .free "isinstance") rfl)
  n_len := He.free_ok X G (c.d.fact 30 (f := .free "len") rfl)
  n_list := He.free_ok X G (c.d.fact 31 (f := .free "list") rfl)
  n_min := He.free_ok X G (c.d.fact 32 (f := .free "min") rfl)
  n_range := He.free_ok X G (c.d.fact 33 (f := .free "range") rfl)
  n_repr := He.free_ok X G (c.d.fact 34 (f := .free "repr") rfl)
  n_sorted := He.free_ok X G (c.d.fact 35 (f := .free "sorted") rfl)
  n_super := He.free_ok X G (c.d.fact 36 (f := .free "super") rfl)
  n_tuple := He.free_ok X G (c.d.fact 37 (f := .free "tuple") rfl)
  n_zip := He.free_ok X G (c.d.fact 38 (f := .free "zip") rfl)
  g := by
    refine glos X G (l := gnames) ?_
    intro x hx
    obtain ⟨i, hi⟩ := List.getElem?_of_mem hx
    have e : fa[39 + i]? = some (He.Fa.glo x) := by
      have : (gnames.map He.Fa.glo)[i]? = some (He.Fa.glo x) := by rw [List.getElem?_map, hi]; rfl
      have h2 : fa.drop 39 = gnames.map He.Fa.glo := rfl
      rw [← h2, List.getElem?_drop] at this
      exact this
    exact c.d.fact (39 + i) e
end K18

set_option maxHeartbeats 4000000
/-! HX: more rules: x is True of any value, text * int, {None: .., True: .., False: ..}[x], len(set(texts)). -/
namespace HG
open PySem PySem.Spec PyProof.Rows L2
section
variable {X : Cx}
/-- x is True, x is False -/
theorem op_isTF : OpR X (compareOp .Is) (fun x y H Q => ∃ b : Bool, y = .bl b ∧ Q (.bl (decide (x = .bl b))) H) := by
  intro pins s σ H x y v u Q I rx ry h
  obtain ⟨b, rfl, q⟩ := h
  cases (show u = Value.bool b from ry)
  by_cases e : x = .bl b
  · subst e
    cases (show v = Value.bool b from rx)
    exact wpAny_is_self rfl ⟨.bl true, H, I, rfl, by simpa using q⟩
  · have q' : Q (.bl false) H := by simpa [e] using q
    cases x with
    | non => cases rx; exact wpAny_is_other rfl (fun z => nomatch z) ⟨.bl false, H, I, rfl, q'⟩
    | bl a => cases rx; exact wpAny_is_other rfl (fun z => e (congrArg V.bl (Value.bool.inj z))) ⟨.bl false, H, I, rfl, q'⟩
    | int i => obtain ⟨t, rfl⟩ := rx; exact wpAny_is_other rfl (fun z => nomatch z) ⟨.bl false, H, I, rfl, q'⟩
    | str i => obtain ⟨t, rfl⟩ := rx; exact wpAny_is_other rfl (fun z => nomatch z) ⟨.bl false, H, I, rfl, q'⟩
    | byt i => obtain ⟨t, rfl⟩ := rx; exact wpAny_is_other rfl (fun z => nomatch z) ⟨.bl false, H, I, rfl, q'⟩
    | flt i => obtain ⟨t, rfl⟩ := rx; exact wpAny_is_other rfl (fun z => nomatch z) ⟨.bl false, H, I, rfl, q'⟩
    | ref i => cases rx; exact wpAny_is_other rfl (fun z => nomatch z) ⟨.bl false, H, I, rfl, q'⟩
    | ty i => cases rx; exact wpAny_is_other rfl (fun z => nomatch z) ⟨.bl false, H, I, rfl, q'⟩
/-- text * int -/
theorem op_mul_str : OpR X (binaryOp .Mult) (fun x y H Q => ∃ (z : Str) (n : Int), x = .str z ∧ y = .int n ∧ MulOk z n ∧ Q (.str (Txt.mul z n)) H) := by
  intro pins s σ H x y v u Q I rx ry h
  obtain ⟨z, n, rfl, rfl, ok, q⟩ := h
  obtain ⟨t, rfl⟩ := rx
  obtain ⟨t', rfl⟩ := ry
  exact SB.mul ok fun t' k => ⟨.str _, H, I.tok _, ⟨_, rfl⟩, q⟩
end
theorem mulOk_of {z : Str} {n : Int} (h0 : 0 ≤ n) (h : z.length * n.toNat ≤ 1000000) (hn : n < 2 ^ 40) (hz : z.length ≤ 1000000) : MulOk z n := by
  refine ⟨?_, fun h1 _ h2 => ?_, fun h1 _ => ?_⟩
  · rw [decide_eq_false (by omega), decide_eq_false (by omega)]
    rfl
  · have h3 : (1000000 : Int) ≤ (2 ^ 63 - 1) / n := by
      refine (Int.le_ediv_iff_mul_le (by omega)).mpr ?_
      omega
    omega
  · show decide (_ > _) = false
    refine decide_eq_false ?_
    rw [show (sizeLine : Nat) = 16777216 from sizeLine_eq]
    omega

theorem call_reprK {X : Cx} {K : PySem.W.Frag} (hK : X.K = K) (hgd : X.A.guards = some []) (hr : Room 0 X.A) : CallR X (.builtin "repr") (rRepr K) := by
  subst hK
  exact call_repr hgd hr
/-! ### keywords alone -/
theorem kbn0 {K : PySem.W.Frag} {x qual : Str} {params : Arguments} {body : List Stmt} {scope : Scope} {kws : List (Str × V)} {f : Addr} {fd : FuncData} {ks ps : List Str} {g : List Value → List Value} {gV : List V → List V}
    (F : FunD K x qual params body scope [] kws f fd)
    (h : ∀ (kV doc pm : Value) (an : Option Addr) (cdv ct : Value) (ws : List Value), ws.length = ks.length → bindArgs (PySem.W.fnOf x qual params body scope .none kV doc pm an cdv ct) ⟨[], ks.zip ws⟩ = pure (ps.zip (g ws)))
    (rel : ∀ {zs : List V} {ws : List Value}, Vals zs ws → Vals (gV zs) (g ws)) : KBn K fd ps 0 ks (fun _ ws => g ws) (fun _ zs => gV zs) := by
  obtain ⟨oc, od, dV, kV, doc, pm, an, cdv, ct, osl, rfl, lk, hcd, hD, hK⟩ := F.ex
  rcases hD with ⟨_, rfl⟩ | ⟨e, _⟩
  · refine ⟨fun s us ws _ hu hw => ?_, fun _ r => rel r⟩
    obtain rfl : us = [] := List.length_eq_zero_iff.mp hu
    exact .of_eq (h kV doc pm an cdv ct ws hw)
  · exact absurd rfl e

/-! ### objects made by a class of the top -/
structure MkC (P : Program) (w : World) (K : PySem.W.Frag) (mg : Str → Option Value) (base : Heap) (x : Str) (k : Nat) (sp : Sp) : Prop where
  ex : ∃ (f : Addr) (fd : FuncData) (ps : List Str), Mk K (He.ga K x) f ∧ FnOk P w K mg base CX0 k f fd ps sp ∧ Binds K fd ps []
  gl : mg x = some (.ref (He.ga K x))
theorem pe_mk {X : Cx} {k : Nat} {x : Str} {sp : Sp} {p pos : Pos} {e : Expr} {es : List Expr} {t : TA} (C : MkC X.prog X.w X.K X.mg X.base x k sp) (hr : Room (k + 1) X.A) (hg : Gl X x) (ha : PA X (e :: es) t)
    (hdb : (x == ("__debug__" : Str)) = false := by decide)
    (he : starEach (e :: es) X.env = (false, eval e X.env) :: starEach es X.env := by rfl)
    (hpl : (backTo pos (starEach es X.env)).any (·.1) = false := by rfl) : PE X (.Call (.Name x p) (e :: es) [] pos) (tMake (He.ga X.K x) sp [] E0 t) := by
  obtain ⟨f, fd, ps, M, F, b⟩ := C.ex
  exact pe_make M F hr hg C.gl b .nil pass0 ha hdb he hpl

/-! ### None and bools as keys -/
def nbV : Option Bool → V
  | none => .non
  | some b => .bl b
def nbIs : Option Bool → Value → Bool
  | none, .none => true
  | none, _ => false
  | some k, v => PpSet.isB k v
theorem nb_none {v : Value} (h : nbIs none v = true) : v = .none := by
  cases v with
  | none => rfl
  | _ => exact nomatch (show false = true from h)
def nbU : Option Bool → Value
  | none => .none
  | some b => .bool b
theorem nb_shape {k : Option Bool} {v : Value} (h : nbIs k v = true) : v = nbU k := by
  cases k with
  | none => exact nb_none h
  | some b => exact PpSet.isB_shape h
theorem nb_of {k : Option Bool} {v : Value} (h : RelV (nbV k) v) : nbIs k v = true := by
  cases k with
  | none => cases (show v = Value.none from h); rfl
  | some b => cases (show v = Value.bool b from h); exact beq_self_eq_true b
def nbKind (prog : Program) (w : World) : PySem.KeyKind prog w (Option Bool) where
  is := nbIs
  hash := fun k => match k with
    | none => reduceHash 0xFCA86420
    | some k => PpSet.hB k
  inj := fun v a b ha hb => by
    have e1 := nb_shape ha
    have e2 := nb_shape hb
    rw [e1] at e2
    cases a with
    | none => cases b with
      | none => rfl
      | some _ => cases e2
    | some x => cases b with
      | none => cases e2
      | some y => exact congrArg some (Value.bool.inj e2)
  byValue := fun k v h => by
    rw [nb_shape h]
    cases k <;> rfl
  pyHash := @fun A E s k v Q hv h => by
    cases k with
    | none =>
      have e := nb_none hv
      subst e
      exact PySem.W.pyHash_slot (T := "NoneType") rfl PySem.F.slot_NoneType_hash PySem.F.entry_NoneType_hash (PySem.F.args_NoneType_hash_1 _) (beq_builtin_none _) (.inl rfl) (wpAny_bind (wpAny_pure (wpAny_bind (wpAny_mkInt (wpAny_pure ⟨_, _, rfl, h⟩)))))
    | some k => exact (PpSet.boolK prog w).pyHash (k := k) hv h
  eqBool := @fun A E s a b u v Q hu hv h => by
    have e1 := nb_shape hu
    have e2 := nb_shape hv
    subst e1 e2
    cases a with
    | none =>
      cases b with
      | none =>
        rw [decide_eq_true rfl] at h
        exact SeqAt.EqAt.same _ _ _ _ _ h
      | some k =>
        rw [decide_eq_false (fun z => nomatch z)] at h
        exact SeqAt.EqAt.none_bool k _ _ _ _ h
    | some k =>
      cases b with
      | none =>
        rw [decide_eq_false (fun z => nomatch z)] at h
        exact SeqAt.EqAt.bool_none k _ _ _ _ h
      | some j =>
        have e : decide ((some k : Option Bool) = some j) = (k == j) := by cases k <;> cases j <;> rfl
        rw [e] at h
        exact SeqAt.EqAt.bool_bool k j _ _ _ _ h
  «strs» := fun k x t v h => by
    cases k with
    | none => exact nomatch (show false = true from h)
    | some k => exact absurd h Bool.false_ne_true
abbrev NB (P : Program) (w : World) (a : Addr) (vs : List (Option Bool × Value)) : HO := .ext fun h => h.DictOf (nbKind P w) a vs
theorem nb_new {P : Program} {w : World} {H : Hp} {h : Heap} {a : Addr} {vs : List (Option Bool × Value)} (R : h.DictOf (nbKind P w) a vs) : ObjOk P w H h a (NB P w a vs) := by
  refine ⟨R, ?_, fun h1 h2 p k => ?_⟩
  · obtain ⟨o, _, _, ho, _⟩ := R
    exact ⟨o, ho⟩
  · obtain ⟨o, es, ep, ho, r⟩ := p
    exact ⟨o, es, ep, k o ho, r⟩
/-- {None: 'x', True: 'y', False: 'z'}[e] -/
def tNb3 (x y z : Str) (te : TE) : TE := fun σ H Q => ∀ (p : Addr) (o : HO), H p = none → te σ (upd H p o) fun v H2 => H2 p = some o ∧ ∃ k : Option Bool, v = nbV k ∧ Q (.str (match k with | none => x | some true => y | some false => z)) H2
section
variable {X : Cx}
theorem pe_nb3 {x y z : Str} {e : Expr} {te : TE} {p1 p2 p3 p4 p5 p6 p7 pos : Pos} {k4 k5 k6 k7 k8 k9 : Nat} (he : PE X e te) (hs : NoSl e) :
    PE X (.Subscript (.Dict [some (.Constant .none k4 p1), some (.Constant (.bool true) k5 p2), some (.Constant (.bool false) k6 p3)] [.Constant (.str x) k7 p4, .Constant (.str y) k8 p5, .Constant (.str z) k9 p6] p7) e pos) (tNb3 x y z te) := by
  refine ⟨fun pins s σ H Q I h => ?_⟩
  refine subD_of PySem.F.slot_dict_getitem.lookup hs ?_
  have hn := I.hok.fresh (Nat.le_refl s.heap.objs.size)
  have I1 := I.laid (a := s.heap.objs.size) (o := NB X.prog X.w s.heap.objs.size []) (h' := s.heap.push { cls := .type "dict", data := .dict #[] }) (t' := s.toks) (fun _ _ q => Heap.get?_push_of_some _ q) (Nat.le_refl _) (nb_new (Heap.DictOf.new _))
  have PP : PPs X p7 [some (.Constant .none k4 p1), some (.Constant (.bool true) k5 p2), some (.Constant (.bool false) k6 p3)] [.Constant (.str x) k7 p4, .Constant (.str y) k8 p5, .Constant (.str z) k9 p6]
      [(tC .non, tC (.str x)), (tC (.bl true), tC (.str y)), (tC (.bl false), tC (.str z))] := pps_cons pe_non pe_str (pps_cons pe_bl pe_str (pps_cons pe_bl pe_str pps_nil))
  refine wpAny_Dict_walk (knd := nbKind X.prog X.w) rfl rfl (fun z => nomatch z) (show 3 ≤ 15 by decide) ?_
  refine thn (PP.run pins _ σ _ (fun ps H2 => ps = [(.non, .str x), (.bl true, .str y), (.bl false, .str z)] ∧ H2 = upd H s.heap.objs.size (NB X.prog X.w s.heap.objs.size [])) I1 ⟨rfl, rfl⟩) ?_
  rintro ws s2 ⟨ps, H2, I2, rel, rfl, rfl⟩
  cases rel with
  | @cons _ a1 _ _ r1 rel =>
  cases rel with
  | @cons _ a2 _ _ r2 rel =>
  cases rel with
  | @cons _ a3 _ _ r3 rel =>
  cases rel
  obtain ⟨c1, d1⟩ := a1
  obtain ⟨c2, d2⟩ := a2
  obtain ⟨c3, d3⟩ := a3
  have dd := (I2.hok _ _ upd_same).1
  refine ⟨[(none, d1), (some true, d2), (some false, d3)], ⟨nb_of (k := none) r1.1, rfl, nb_of (k := some true) r2.1, rfl, nb_of (k := some false) r3.1, rfl, trivial⟩, dd, fun h' dd' hsb => ?_⟩
  have em : merged [] [((none : Option Bool), d1), (some true, d2), (some false, d3)] = [(none, d1), (some true, d2), (some false, d3)] := rfl
  rw [em] at dd'
  have he' : ∃ q, h'.get? s.heap.objs.size = some q := let ⟨q, _, _, hq, _⟩ := dd'; ⟨q, hq⟩
  have I3 := d_write (t' := s2.toks + 3) (ob := NB X.prog X.w s.heap.objs.size [(none, d1), (some true, d2), (some false, d3)]) I2 (by rw [upd_same]; exact True.intro) hsb he' (nb_new dd')
  have eu : upd (upd H s.heap.objs.size (NB X.prog X.w s.heap.objs.size [])) s.heap.objs.size (NB X.prog X.w s.heap.objs.size [(none, d1), (some true, d2), (some false, d3)]) = upd H s.heap.objs.size (NB X.prog X.w s.heap.objs.size [(none, d1), (some true, d2), (some false, d3)]) := by
    funext b
    by_cases e : b = s.heap.objs.size
    · subst e; rw [upd_same, upd_same]
    · rw [upd_ne e, upd_ne e, upd_ne e]
  rw [eu] at I3
  refine thn (he.run pins _ σ _ _ I3 (h _ _ hn)) ?_
  rintro iv s3 ⟨v, H3, I4, rv, h3, k, rfl, q⟩
  have D3 : s3.heap.DictOf (nbKind X.prog X.w) s.heap.objs.size [(none, d1), (some true, d2), (some false, d3)] := (I4.hok _ _ h3).1
  refine ⟨D3.mapOf.typeIs, ?_⟩
  cases k with
  | none => exact wpAny_getItem_of (k := none) (nb_of rv) D3.mapOf rfl ⟨.str x, H3, I4.tok _, r1.2, q⟩
  | some b =>
    cases b with
    | true => exact wpAny_getItem_of (k := some true) (nb_of rv) D3.mapOf rfl ⟨.str y, H3, I4.tok _, r2.2, q⟩
    | false => exact wpAny_getItem_of (k := some false) (nb_of rv) D3.mapOf rfl ⟨.str z, H3, I4.tok _, r3.2, q⟩
end
end HG

set_option maxHeartbeats 4000000
/-! HA: texts of signs below 128, and what repr shows of data. -/
namespace HG
open PySem PySem.Spec PyProof.Rows L2
open TL (numL tl_num numL_digits numL_ne numL_inj numL_val numL_len)
def asc (z : Str) : Prop := ∀ c ∈ cp z, c < 128
theorem asc_app {a b : Str} (ha : asc a) (hb : asc b) : asc (a ++ b) := fun c hc => by
  rw [cp_app] at hc
  exact (List.mem_append.mp hc).elim (ha c) (hb c)
theorem asc_ok {z : Str} (h : asc z) : PyData.strOk z = true := by
  unfold PyData.strOk
  rw [← Array.all_toList]
  refine List.all_eq_true.mpr fun c hc => ?_
  have := h c hc
  exact decide_eq_true (by omega)
theorem asc_repr {z : Str} (h : asc z) : asc (reprText z) := by
  have hq : reprQuote z = 39 ∨ reprQuote z = 34 := by
    unfold reprQuote
    split
    · exact .inr rfl
    · exact .inl rfl
  have sm : ∀ q, q = 39 ∨ q = 34 → ∀ c, c < 128 → ∀ d ∈ Builtin.Str.reprChar q c, d < 128 := by
    have h1 : ∀ c : Nat, c < 128 → ∀ d ∈ Builtin.Str.reprChar 39 c, d < 128 := by decide +kernel
    have h2 : ∀ c : Nat, c < 128 → ∀ d ∈ Builtin.Str.reprChar 34 c, d < 128 := by decide +kernel
    rintro q (rfl | rfl)
    · exact h1
    · exact h2
  have key : ∀ (l : List Nat) (acc : Array Nat), (∀ c ∈ l, c < 128) → (∀ d ∈ acc.toList, d < 128) → ∀ d ∈ (l.foldl (fun out c => out ++ (Builtin.Str.reprChar (reprQuote z) c).toArray) acc).toList, d < 128 := by
    intro l
    induction l with
    | nil => intro acc _ ha; exact ha
    | cons c r ih =>
      intro acc hl ha
      rw [List.foldl_cons]
      refine ih _ (fun x hx => hl x (List.mem_cons_of_mem _ hx)) fun d hd => ?_
      rw [Array.toList_append] at hd
      rcases List.mem_append.mp hd with z | z
      · exact ha d z
      · exact sm _ hq c (hl c List.mem_cons_self) d z
  intro d hd
  unfold cp reprText at hd
  rw [Array.toList_push, ← Array.foldl_toList] at hd
  have q128 : reprQuote z < 128 := by rcases hq with e | e <;> rw [e] <;> decide
  rcases List.mem_append.mp hd with y | y
  · refine key _ _ h (fun x hx => ?_) d y
    have : x = reprQuote z := by simpa using hx
    rw [this]
    exact q128
  · rw [List.mem_singleton.mp y]
    exact q128
theorem asc_join : ∀ {l : List Str}, (∀ z ∈ l, asc z) → asc (Str.join ", " l)
  | [], _ => fun c hc => nomatch hc
  | [x], h => h x List.mem_cons_self
  | x :: y :: r, h => by
    show asc (x ++ ", " ++ Str.join ", " (y :: r))
    exact asc_app (asc_app (h x List.mem_cons_self) (by unfold asc; decide +kernel)) (asc_join fun z hz => h z (List.mem_cons_of_mem _ hz))
theorem asc_from : ∀ {l : List Str} (k : Nat) (acc : Str), asc acc → (∀ z ∈ l, asc z) → asc (textFrom k acc l)
  | [], _, _, h, _ => h
  | t :: ts, k, acc, h, hl => by
    show asc (textFrom (k + 1) (acc ++ (if k > 0 then ", " else "" : String) ++ t) ts)
    refine asc_from (k + 1) _ (asc_app (asc_app h ?_) (hl t List.mem_cons_self)) fun z hz => hl z (List.mem_cons_of_mem _ hz)
    split
    · unfold asc; decide +kernel
    · unfold asc; decide +kernel
theorem asc_list {l : List Str} (h : ∀ z ∈ l, asc z) : asc (listText l) := asc_app (asc_from 0 _ (by unfold asc; decide +kernel) h) (by unfold asc; decide +kernel)
theorem asc_tuple {l : List Str} (h : ∀ z ∈ l, asc z) : asc (tupleText l) := by
  refine asc_app (asc_app (by unfold asc; decide +kernel) (asc_join h)) ?_
  split
  · unfold asc; decide +kernel
  · unfold asc; decide +kernel
theorem asc_nat (n : Nat) : asc (Str.ofString (toString ((n : Nat) : Int))) := fun c hc => by
  have e : cp (Str.ofString (toString ((n : Nat) : Int))) = numL n := tl_num n
  rw [e] at hc
  have := numL_digits n c hc
  omega
theorem asc_int (i : Int) : asc (Str.ofString (toString i)) := by
  by_cases h : i < 0
  · rw [toString_neg h]
    obtain ⟨n, hn⟩ := Int.eq_ofNat_of_zero_le (show 0 ≤ 0 - i by omega)
    rw [hn]
    have e2 : cp (Str.ofString ("-" ++ toString ((n : Nat) : Int))) = 45 :: cp (Str.ofString (toString ((n : Nat) : Int))) := by
      unfold cp
      rw [Str.ofString_eq_toList, Str.ofString_eq_toList, String.toList_append, List.map_append]
      rfl
    intro c hc
    rw [e2] at hc
    rcases List.mem_cons.mp hc with rfl | hc
    · decide
    · exact asc_nat n c hc
  · obtain ⟨n, rfl⟩ := Int.eq_ofNat_of_zero_le (Int.not_lt.mp h)
    exact asc_nat n
theorem asc_all : ∀ {ds : List PyData}, (∀ d ∈ ds, asc d.shown) → ∀ z ∈ PyData.shownAll ds, asc z
  | [], _, z, hz => by simp only [PyData.shownAll] at hz; exact nomatch hz
  | d :: ds, h, z, hz => by
    simp only [PyData.shownAll] at hz
    rcases List.mem_cons.mp hz with rfl | hz
    · exact h d List.mem_cons_self
    · exact asc_all (fun e he => h e (List.mem_cons_of_mem _ he)) z hz
end HG

set_option maxHeartbeats 4000000
/-! HB: order of tuples of ints and texts, mixed: t < u, sorted of a dict with such keys. -/
namespace HG
open PySem PySem.SeqAt PySem.W PyProof.Rows
/-- the first unequal place is of one kind -/
inductive LexR : List L2.Key → List L2.Key → Bool → Prop
  | nn : LexR [] [] false
  | nc {b : L2.Key} {s : List L2.Key} : LexR [] (b :: s) true
  | cn {a : L2.Key} {r : List L2.Key} : LexR (a :: r) [] false
  | eq {a : L2.Key} {r s : List L2.Key} {z : Bool} : LexR r s z → LexR (a :: r) (a :: s) z
  | ii {i j : Int} {r s : List L2.Key} : i ≠ j → LexR (Sum.inl i :: r) (Sum.inl j :: s) (decide (i < j))
  | ss {x y : Str} {r s : List L2.Key} : x ≠ y → LexR (Sum.inr x :: r) (Sum.inr y :: s) (decide (x.cps.toList < y.cps.toList))
inductive LexV (fin : Bool) : List (Value × Value) → Bool → Prop
  | nil : LexV fin [] fin
  | eq {p q : Value} {r : List (Value × Value)} {z : Bool} : (∀ A s, EqAt A s p q true) → LexV fin r z → LexV fin ((p, q) :: r) z
  | ne {p q : Value} {r : List (Value × Value)} {z : Bool} : (∀ A s, EqAt A s p q false) → (∀ A s, Ob.RcOp .Lt A s p q z) →
      (∀ (prog : Program) (w : World) (A : Around) (E : Value → Shared → Prop) (s : Shared) (f : Bool) (Q : Bool → Shared → Prop), Q z s → wpAny (model prog w) A (PyProof.Rows.oneLt' f p q) Q E s) → LexV fin ((p, q) :: r) z
theorem rcLt_strs (A : Around) (s : Shared) (x : Str) (t : Tok) (y : Str) (u : Tok) : Ob.RcOp .Lt A s (.str x t) (.str y u) (decide (x.cps.toList < y.cps.toList)) := fun _ _ _ _ h => PyProof.Rows.lt_str h
theorem lexV_of {ks ls : List L2.Key} {z : Bool} (h : LexR ks ls z) : ∀ {us ws : List Value}, L2.Vals (ks.map L2.kV) us → L2.Vals (ls.map L2.kV) ws → LexV (decide (us.length < ws.length)) (us.zip ws) z := by
  induction h with
  | nn =>
    intro us ws h1 h2
    cases h1
    cases h2
    exact .nil
  | nc =>
    intro us ws h1 h2
    cases h1
    cases h2 with
    | cons r1 t1 =>
      rename_i w ws
      have e : decide (([] : List Value).length < (w :: ws).length) = true := decide_eq_true (by simp)
      rw [e]
      exact .nil
  | cn =>
    intro us ws h1 h2
    cases h2
    cases h1 with
    | cons _ _ => exact .nil
  | @eq a r s z _ ih =>
    intro us ws h1 h2
    cases h1 with
    | cons r1 t1 =>
      cases h2 with
      | cons r2 t2 =>
        have h3 := ih t1 t2
        rw [List.zip_cons_cons, List.length_cons, List.length_cons]
        have e : ∀ a b : Nat, decide (a + 1 < b + 1) = decide (a < b) := fun a b => by simp
        rw [e]
        refine .eq ?_ h3
        cases a with
        | inl i =>
          obtain ⟨t, rfl⟩ := r1
          obtain ⟨u, rfl⟩ := r2
          intro A s
          have := EqAt.int_int (A := A) (s := s) i t i u
          rw [beq_self_eq_true] at this
          exact this
        | inr x =>
          obtain ⟨t, rfl⟩ := r1
          obtain ⟨u, rfl⟩ := r2
          intro A s
          have := EqAt.str_str (A := A) (s := s) x t x u
          rw [beq_self_eq_true] at this
          exact this
  | @ii i j r s hne =>
    intro us ws h1 h2
    cases h1 with
    | cons r1 t1 =>
      cases h2 with
      | cons r2 t2 =>
        obtain ⟨t, rfl⟩ := r1
        obtain ⟨u, rfl⟩ := r2
        refine .ne (fun A s => ?_) (fun A s => Ob.RcOp.lt_int i j t u) (fun prog w A E s f Q hQ => oneLt_any_int hQ)
        have := EqAt.int_int (A := A) (s := s) i t j u
        rw [show (i == j) = false from by simpa using hne] at this
        exact this
  | @ss x y r s hne =>
    intro us ws h1 h2
    cases h1 with
    | cons r1 t1 =>
      cases h2 with
      | cons r2 t2 =>
        obtain ⟨t, rfl⟩ := r1
        obtain ⟨u, rfl⟩ := r2
        refine .ne (fun A s => ?_) (fun A s => rcLt_strs A s x t y u) (fun prog w A E s f Q hQ => oneLt_any_str hQ)
        have := EqAt.str_str (A := A) (s := s) x t y u
        rw [show (x == y) = false from by simpa using hne] at this
        exact this
section
open PySem.AutoSeq1 (wpAny_loadPart')
open PySem.MeetsSeq PySem.MeetsSeq2 PySem.MeetsSeq3
theorem tuple_ltL (l b : Addr) (xs ys : Array Value) (n n2 : Nat) (dd dd2 : Option Addr) (sl sl2 : Array (Option Value)) (z : Bool) (hz : LexV (decide (xs.size < ys.size)) (xs.toList.zip ys.toList) z) :
    Meets (Builtin.«tuple.__lt__» ⟨[.ref l, .ref b], []⟩)
      (fun _ R s => s.heap.get? l = some ⟨.type "tuple", dd, .seq xs n, sl⟩ ∧ s.heap.get? b = some ⟨.type "tuple", dd2, .seq ys n2, sl2⟩ ∧ R (.ok (.ret (.bool z))) s) :=
  .of_wp fun prog w A R s h => by
    obtain ⟨hp, g, d, tk, os⟩ := s
    obtain ⟨hl, hb, h⟩ := h
    have f2 := AutoSeq1.sub_tuple_tuple
    wp_walk using wpAny_loadPart' hl, wpAny_loadPart' hb, wpAny_forIn_list _ (fun rest b s' => b.1 = none ∧ s' = ⟨hp, g, d, tk, os⟩ ∧ LexV (decide (xs.size < ys.size)) rest z) _
    case turn =>
      rintro ⟨y, x⟩ rest b s' ⟨hb', rfl, hv⟩
      cases hv with
      | eq h1 h2 =>
        refine wpAny_bind (h1 A.in1 _ prog w _ _ ?_)
        wp_walk
        exact ⟨rfl, rfl, h2⟩
      | ne h1 h2 h3 =>
        refine wpAny_bind (h1 A.in1 _ prog w _ _ ?_)
        have hri := h2 A.in1 ⟨hp, g, d, tk, os⟩ prog w
        wp_walk using hri
        exact ⟨_, rfl, by simpa using h⟩
    case fin =>
      rintro ⟨b1, b2⟩ s' ⟨hb', rfl, hv⟩
      simp only at hb'
      subst hb'
      cases hv
      wp_walk
      exact ⟨_, rfl, by simpa [Builtin.Tuple.tupleCompareSizes] using h⟩
    case h => exact ⟨rfl, rfl, hz⟩
end
end HG
namespace HG
open PySem PySem.Spec PyProof.Rows L2
section
variable {X : Cx}
/-- t < u, tuples of ints and texts -/
def rLtK (K : PySem.W.Frag) : R2 := fun x y H Q => ∃ (a b : Addr) (ks ls : List Key) (z : Bool), x = .ref a ∧ y = .ref b ∧ SqT K H a (ks.map kV) ∧ SqT K H b (ls.map kV) ∧ LexR ks ls z ∧ Q (.bl z) H
theorem op_ltK (hu : X.A.units < cLine) : OpR X (compareOp .Lt) (rLtK X.K) := by
  intro pins s σ H x y v u Q I rx ry h
  obtain ⟨a, b, ks, ls, z, rfl, rfl, ha, hb, hz, q⟩ := h
  cases rx
  cases ry
  obtain ⟨us, r1, p1, _⟩ := I.tuple ha
  obtain ⟨ws, r2, p2, _⟩ := I.tuple hb
  obtain ⟨⟨c1, d1, e1, s1⟩, ho1, hc1, n1, hd1⟩ := p1
  obtain ⟨⟨c2, d2, e2, s2⟩, ho2, hc2, n2, hd2⟩ := p2
  dsimp only at hc1 hd1 hc2 hd2
  subst hc1 hd1 hc2 hd2
  have hv := lexV_of hz r1 r2
  have hv' : LexV (decide (us.toArray.size < ws.toArray.size)) (us.toArray.toList.zip ws.toArray.toList) z := by simpa using hv
  exact richCompare_meets_room (op := .Lt) ⟨_, ho1, rfl⟩ ⟨_, ho2, rfl⟩ PySem.F.slot_tuple_lt PySem.F.entry_tuple_lt (PySem.F.args_tuple_lt_2 _ _) (tuple_ltL a b _ _ n1 n2 d1 d2 s1 s2 z hv')
    ⟨ho1, ho2, show Value.bool z ≠ Value.notImplemented ∧ EP X pins σ Q (.bool z) s from ⟨(fun y => nomatch y), ⟨.bl z, H, I, rfl, q⟩⟩⟩ hu
theorem katlex_of {prog : Program} {w : World} {A : Around} {s : Shared} {b fin z : Bool} {Q : Bool → Shared → Prop} {l : List (Value × Value)} (h : LexV fin l z) (hq : Q z s) : ∀ i, PySem.W.KatLex prog w A b fin Q l i s := by
  induction h with
  | nil => intro i; exact PySem.W.kat_nil hq
  | eq h1 _ ih => intro i; exact PySem.W.kat_cons (h1 A s prog w _ _ (PySem.W.kat_yes (ih hq (i + 1))))
  | ne h1 h2 h3 => intro i; exact PySem.W.kat_cons (h1 A s prog w _ _ (PySem.W.kat_no (h3 prog w A _ s _ Q hq)))
theorem kV_inj : ∀ {a b : Key}, kV a = kV b → a = b
  | .inl _, .inl _, h => by cases h; rfl
  | .inr _, .inr _, h => by cases h; rfl
  | .inl _, .inr _, h => by cases h
  | .inr _, .inl _, h => by cases h
theorem kVs_inj : ∀ {a b : List Key}, a.map kV = b.map kV → a = b
  | [], [], _ => rfl
  | x :: a, y :: b, h => by
    rw [List.map_cons, List.map_cons] at h
    injection h with h1 h2
    rw [kV_inj h1, kVs_inj h2]
  | [], _ :: _, h => by simp at h
  | _ :: _, [], h => by simp at h
/-- sorted(d), d a dict with tuples of ints and texts as keys, each with a text ahead -/
def rSortDT : List V → Hp → VK → Prop := fun vs H Q => ∃ (a : Addr) (kvs : List (List Key × V)) (ρ : List Key → Int), vs = [.ref a] ∧ H a = some (.dT kvs) ∧ kvs.length < 64 ∧ (∀ k ∈ kvs.map (·.1), ∃ x r, k = Sum.inr x :: r) ∧
  (∀ k ∈ kvs.map (·.1), ∀ k' ∈ kvs.map (·.1), LexR k k' (decide (ρ k < ρ k'))) ∧
  ∀ (l : Addr) (ps : List (Addr × List Key)), H l = none → (ps.map (·.2)).Perm (kvs.map (·.1)) → (ps.map (·.2)).Pairwise (fun e f => ρ e ≤ ρ f) → (∀ z ∈ ps, H z.1 = some (.tup (z.2.map kV))) → Q (.ref l) (upd H l (.lst (ps.map fun z => V.ref z.1)))
theorem cr_sortedDT (hc : X.calm = true) (hu : X.A.units + 64 < cLine) : CallR X (.builtin "sorted") rSortDT := by
  intro pins s σ H xs us Q I r h
  obtain ⟨a, kvs, ρ, rfl, ha, h64, hhd, hlx, q⟩ := h
  obtain rfl := Vals.ref1 r
  obtain ⟨_, lo, xs', rel, o, es, ep, ho, hx, hdat, hes, his, hnd⟩ := dt_of I.hok ha
  have l1 : kvs.length = xs'.length := Paired.length rel
  have l2 : es.size = xs'.length := size_of_entries hes
  have keys : kvs.map (·.1) = xs'.map (·.1) := by
    have key : ∀ {A : List (List Key × V)} {B : List (List Key × Addr × Value)}, KT H A B → A.map (·.1) = B.map (·.1) := by
      intro A B rel
      induction rel with
      | nil => rfl
      | cons h _ ih => rw [List.map_cons, List.map_cons, ih, h.1]
    exact key rel
  have trk : ∀ x ∈ xs', H x.2.1 = some (.tup (x.1.map kV)) := by
    intro x hx'
    obtain ⟨j, hj⟩ := List.getElem?_of_mem hx'
    obtain ⟨e0, _, r1, r2, _⟩ := DX.pget rel hj
    rw [← r1]
    exact r2
  -- the rank of a value
  let rk : Value → Int := fun v => match xs'.find? (fun x => Value.ref x.2.1 == v) with
    | some x => ρ x.1
    | none => 0
  have rk_is : ∀ x ∈ xs', rk (.ref x.2.1) = ρ x.1 := by
    intro x hx'
    show (match xs'.find? (fun y => Value.ref y.2.1 == Value.ref x.2.1) with | some y => ρ y.1 | none => 0) = ρ x.1
    cases hf : xs'.find? (fun y => Value.ref y.2.1 == Value.ref x.2.1) with
    | none =>
      have := List.find?_eq_none.mp hf x hx'
      simp at this
    | some y =>
      have h1 := List.mem_of_find?_eq_some hf
      have h2 := List.find?_some hf
      have h3 : y.2.1 = x.2.1 := by simpa using h2
      have h4 := trk y h1
      rw [h3, trk x hx'] at h4
      have h5 : x.1.map kV = y.1.map kV := by injection (Option.some.inj h4)
      rw [kVs_inj h5]
  refine Calls.call_function_entry PyProof.Rows.kind_sorted PyProof.Rows.plain_sorted PyProof.Rows.entry_sorted (PyProof.Rows.args_sorted1 _) ?_
  unfold Builtin.«sorted»
  refine wpAny_bind (m := checkCount "sorted" 1 1 _) (wpAny_pure ?_)
  refine wpAny_bind (PySem.W.kdu_collect (A := X.A.in1) (PySem.KdlSrc.rawDict (es := es) (ep := ep) lo) (I.ok.hd hc) ⟨o, ho, hx, hdat⟩ (by rw [l2, ← l1, sizeLine_eq]; omega) fun h' tk acc hk hacc => ?_)
  have hal : acc.toList.length = xs'.length := by rw [Array.length_toList, hacc.1, l2]
  have hav : acc.toList = xs'.map fun x => Value.ref x.2.1 := by
    refine List.ext_getElem? fun j => ?_
    rw [List.getElem?_map]
    cases hxj : xs'[j]? with
    | none =>
      show acc.toList[j]? = none
      rw [List.getElem?_eq_none_iff] at hxj ⊢
      omega
    | some x =>
      have hj : j < acc.toList.length := by rw [hal]; exact (List.getElem?_eq_some_iff.mp hxj).1
      obtain ⟨v, hv⟩ : ∃ v, acc.toList[j]? = some v := ⟨_, List.getElem?_eq_getElem hj⟩
      rw [hv]
      obtain ⟨hi, rfl⟩ := hacc.2 j v (by rw [← Array.getElem?_toList]; exact hv)
      have e1 := entry_at hes j
      rw [hxj, Array.getElem?_eq_getElem hi] at e1
      have e2 : es[j] = entryOfKey (tupleKind (mixKind X.prog X.w)) x := Option.some.inj e1
      rw [e2]
      rfl
  refine wpAny_bind (wpAny_newList ?_ (by rw [hal, ← l1, sizeLine_eq]; omega))
  have hob : (h'.push (seqObj "list" acc.toList.toArray 0)).get? h'.objs.size = some (seqObj "list" acc.toList.toArray 0) := Heap.get?_push_size _ rfl
  show wpAny _ _ _ _ _ { s with heap := h'.push (seqObj "list" acc.toList.toArray 0), toks := tk }
  have kb : ∀ b u, s.heap.get? b = some u → b ≠ h'.objs.size ∧ (h'.push (seqObj "list" acc.toList.toArray 0)).get? b = some u := fun b u e => ⟨Nat.ne_of_lt (Heap.lt_size (hk b u e)), Heap.get?_push_of_some _ (hk b u e)⟩
  have ka : ∀ b u, h'.get? b = some u → b ≠ h'.objs.size ∧ (h'.push (seqObj "list" acc.toList.toArray 0)).get? b = some u := fun b u e => ⟨Nat.ne_of_lt (Heap.lt_size e), Heap.get?_push_of_some _ e⟩
  have I1 : Inv X pins σ H { s with heap := h', toks := tk } := I.kept hk
  generalize hh2 : h'.push (seqObj "list" acc.toList.toArray 0) = h2 at hob kb ka ⊢
  -- the tuples in the heap of the sort
  have tup : ∀ x ∈ xs', ∃ (ot : Obj) (its : List Value) (nt : Nat), Vals (x.1.map kV) its ∧ (TS.midHeap h2 h'.objs.size acc.toList).get? x.2.1 = some ot ∧ ot.cls = .type "tuple" ∧ ot.data = .seq its.toArray nt := by
    intro x hx'
    obtain ⟨_, its, rv, ot, hot, hct, nt, hdt⟩ := (show ObjOk X.prog X.w H s.heap x.2.1 (.tup (x.1.map kV)) from I.hok _ _ (trk x hx'))
    obtain ⟨k1, k2⟩ := kb _ _ hot
    exact ⟨ot, its, nt, rv, TS.midHeap_old k1 k2, hct, hdt⟩
  have mem : ∀ v ∈ acc.toList, ∃ x ∈ xs', v = .ref x.2.1 := by
    intro v hv
    rw [hav] at hv
    obtain ⟨x, hx', e⟩ := List.mem_map.mp hv
    exact ⟨x, hx', e.symm⟩
  have inK : ∀ x ∈ xs', x.1 ∈ kvs.map (·.1) := fun x hx' => by rw [keys]; exact List.mem_map_of_mem hx'
  have firsts : ∀ vs : List Value, (∀ v ∈ vs, ∃ x ∈ xs', v = .ref x.2.1) → ∃ fs : List Value, PySem.W.KatTups (TS.midHeap h2 h'.objs.size acc.toList) vs fs ∧ fs.length = vs.length ∧ ∀ f ∈ fs, ∃ x t, f = Value.str x t := by
    intro vs
    induction vs with
    | nil => intro _; exact ⟨[], .nil, rfl, fun _ h => nomatch h⟩
    | cons v vs ih =>
      intro hm
      obtain ⟨fs, k1, k2, k3⟩ := ih fun u hu' => hm u (List.mem_cons_of_mem _ hu')
      obtain ⟨x, hx', rfl⟩ := hm v List.mem_cons_self
      obtain ⟨ot, its, nt, rv, ho', hc', hd'⟩ := tup x hx'
      obtain ⟨y, rr, ey⟩ := hhd x.1 (inK x hx')
      rw [ey] at rv
      cases rv with
      | cons r1 r2 =>
        obtain ⟨t, rfl⟩ := r1
        refine ⟨.str y t :: fs, .cons ho' hc' hd' rfl k1, by rw [List.length_cons, List.length_cons, k2], fun f hf => ?_⟩
        rcases List.mem_cons.mp hf with rfl | hf
        · exact ⟨y, t, rfl⟩
        · exact k3 f hf
  refine wpAny_bind (wpAny_holding (wpAny_call_entry PyProof.Rows.slot_list_sort ⟨_, hob, rfl⟩ PyProof.Rows.entry_list_sort
    (SK.plain_sort (s := { s with heap := h2, toks := tk }) (r := rk) hob (by rw [hal, ← l1]; exact h64) (fun h2' Qk hQk => ?_) fun ps out o1 o2 o3 => ⟨.none, rfl, ?_⟩) (PyProof.Rows.args_list_sort _)))
  · obtain ⟨fs, k1, k2, k3⟩ := firsts acc.toList mem
    refine PySem.W.kat_kind (T := Value.type "str") k1 (by omega) (fun f hf => ?_) rfl (hQk _ ?_)
    · obtain ⟨x, t, rfl⟩ := k3 f hf
      exact .now
    · intro p q' hp hq Q' E' hQ
      rw [pairsOf_toList] at hp hq
      have mp := (mem_zip_self hp).2
      have mq := (mem_zip_self hq).2
      obtain ⟨x, hx1, e1⟩ := mem _ mp
      obtain ⟨y, hy1, e2⟩ := mem _ mq
      obtain ⟨ot, its, nt, rv, ho1, _, hd1⟩ := tup x hx1
      obtain ⟨ot2, its2, nt2, rv2, ho2, _, hd2⟩ := tup y hy1
      rw [e1, e2, rk_is x hx1, rk_is y hy1] at hQ
      rw [e1, e2]
      refine PySem.W.kat_lt ho1 hd1 ho2 hd2 (katlex_of ?_ hQ 0)
      have hv := lexV_of (hlx x.1 (inK x hx1) y.1 (inK y hy1)) rv rv2
      simpa using hv
  · have hzip : (xs'.map fun x => (x.2.1, x.1)).map (fun z : Addr × List Key => (Value.ref z.1, Value.ref z.1)) = acc.toList.zip acc.toList := by
      have zs0 : ∀ l : List Value, l.zip l = l.map fun v => (v, v) := fun l => by
        induction l with
        | nil => rfl
        | cons v l ih => rw [List.zip_cons_cons, ih]; rfl
      rw [zs0, hav, List.map_map, List.map_map]
      rfl
    obtain ⟨zs, pz, ez⟩ := perm_lift (fun z : Addr × List Key => (Value.ref z.1, Value.ref z.1)) o2 _ hzip
    have hout : out.toList = zs.map fun z => Value.ref z.1 := by
      rw [o1, ← ez, List.map_map]
      rfl
    have hin : ∀ z ∈ zs, ∃ x ∈ xs', z = (x.2.1, x.1) := fun z hz => by
      obtain ⟨x, hx', e⟩ := List.mem_map.mp (pz.mem_iff.mp hz)
      exact ⟨x, hx', e.symm⟩
    have hperm : (zs.map (·.2)).Perm (kvs.map (·.1)) := by
      have e := pz.map (·.2)
      rw [List.map_map] at e
      rw [keys]
      exact e
    have hsort : (zs.map (·.2)).Pairwise (fun e f => ρ e ≤ ρ f) := by
      rw [← ez, List.pairwise_map] at o3
      rw [List.pairwise_map]
      refine List.Pairwise.imp_of_mem (fun {u v} hu' hv' h => ?_) o3
      obtain ⟨x, hx', rfl⟩ := hin u hu'
      obtain ⟨y, hy', rfl⟩ := hin v hv'
      have h3 : rk (.ref x.2.1) ≤ rk (.ref y.2.1) := h
      rw [rk_is x hx', rk_is y hy'] at h3
      exact h3
    obtain ⟨eF, heF⟩ := PyProof.Rows.sortedHeap_at (vs := acc.toList) (out := out) hob
    have hlen : (zs.map fun z => V.ref z.1).length ≤ sizeLine := by
      have e := hperm.length_eq
      rw [List.length_map, List.length_map] at e
      rw [List.length_map, sizeLine_eq]
      omega
    have rv : Vals (zs.map fun z => V.ref z.1) out.toList := by
      rw [hout]
      clear hout hin hperm hsort pz ez hlen
      induction zs with
      | nil => exact .nil
      | cons z zs ih => exact .cons rfl ih
    refine wpAny_pure ⟨_, rfl, .ref h'.objs.size, upd H h'.objs.size (.lst (zs.map fun z => V.ref z.1)), I1.laid (t' := tk) (fun b u e => ?_) (Nat.le_refl _) ⟨hlen, out.toList, eF, rv, heF⟩, rfl, q _ zs (I1.hok.fresh (Nat.le_refl _)) hperm hsort fun z hz => ?_⟩
    · obtain ⟨k1, k2⟩ := ka b u e
      exact (PyProof.Rows.sortedHeap_old k1 (Heap.lt_size k2)).trans k2
    · obtain ⟨x, hx', rfl⟩ := hin z hz
      exact trk x hx'
end
end HG

set_option maxHeartbeats 4000000
/-! HK: rules that name the written part K, for use in comprehensions. -/
namespace HG
open PySem PySem.Spec PyProof.Rows L2
section
variable {X : Cx} {K : PySem.W.Frag}
theorem isiK (h : X.K = K) : CallR X (.builtin "isinstance") (rIsi K) := h ▸ call_isi
theorem isiTK (h : X.K = K) : CallR X (.builtin "isinstance") (rIsiT K) := h ▸ call_isiT
def rLenK (K : PySem.W.Frag) : List V → Hp → VK → Prop := fun xs H Q => ∃ x n, xs = [x] ∧ LenV K x H n ∧ Q (.int (n : Nat)) H
theorem lenK (h : X.K = K) : CallR X (.builtin "len") (rLenK K) := h ▸ call_len
theorem ix_listK (h : X.K = K) : IxR X (rIxL K) := h ▸ ix_list
theorem ix_tupK (h : X.K = K) : IxR X (rIxT K) := h ▸ ix_tup
theorem ix_seqK (h : X.K = K) : IxR X (rIx K) := h ▸ ix_seq
theorem sl_tupK (h : X.K = K) : SlR X (rSlT K) := h ▸ sl_tup
theorem sl_listK (h : X.K = K) : SlR X (rSlL K) := h ▸ sl_list
theorem op_catTK (h : X.K = K) : OpR X (binaryOp .Add) (rCatT K) := h ▸ op_catT
theorem op_in_seqK (h : X.K = K) : OpR X (compareOp .In) (rIn K false) := h ▸ op_in_seq
theorem op_ltKK (h : X.K = K) (hu : X.A.units < cLine) : OpR X (compareOp .Lt) (rLtK K) := h ▸ op_ltK hu
theorem op_eqDK (h : X.K = K) (hu : X.A.units + 64 < cLine) : OpR X (compareOp .Eq) (rEqD K) := h ▸ op_eqD hu
theorem op_neDK (h : X.K = K) (hu : X.A.units + 64 < cLine) : OpR X (compareOp .NotEq) (rNeD K) := h ▸ op_neD hu
/-- x < y: ints, texts, tuples of both -/
theorem op_lt3 (h : X.K = K) (hu : X.A.units + 64 < cLine) : OpR X (compareOp .Lt) (fun x y H Q => (rI0 (fun i j => .bl (decide (i < j)))) x y H Q ∨ (∃ i j, x = .str i ∧ y = .str j ∧ Q (.bl (decide (i.cps.toList < j.cps.toList))) H) ∨ rLtK K x y H Q) :=
  op_lt.or (op_lt_str.or (op_ltKK h (Nat.lt_of_le_of_lt (Nat.le_add_right _ 64) hu)))
end
end HG

set_option maxHeartbeats 4000000
namespace K18
open PySem PySem.Spec PyProof.Rows L2 HG
/-! ### the deck: a list of three -/
structure Deck (d c : Addr) (n : Nat) (H : Hp) : Prop where
  ex : ∃ (ns : List Int) (m t : Int), H d = some (.lst [.ref c, .int m, .int t]) ∧ H c = some (.lst (ns.map V.int)) ∧ 0 ≤ t ∧ t ≤ n ∧ ns.length ≤ 63
  ne : d ≠ c
theorem Deck.up {d c : Addr} {n m : Nat} {H : Hp} (D : Deck d c n H) (h : n ≤ m) : Deck d c m H := by
  obtain ⟨ns, x, t, h1, h2, h4, h5, h6⟩ := D.ex
  exact ⟨⟨ns, x, t, h1, h2, h4, by omega, h6⟩, D.ne⟩
theorem Deck.upd {d c p : Addr} {n : Nat} {H : Hp} {o : HO} (D : Deck d c n H) (h1 : p ≠ d) (h2 : p ≠ c) : Deck d c n (upd H p o) := by
  obtain ⟨ns, m, t, e1, e2, r⟩ := D.ex
  exact ⟨⟨ns, m, t, by rw [upd_ne h1.symm]; exact e1, by rw [upd_ne h2.symm]; exact e2, r⟩, D.ne⟩
theorem Deck.has {d c p : Addr} {n : Nat} {H : Hp} (D : Deck d c n H) (hp : H p = none) : p ≠ d ∧ p ≠ c := by
  obtain ⟨ns, m, t, e1, e2, r⟩ := D.ex
  exact ⟨(ne_of_none e1 hp).symm, (ne_of_none e2 hp).symm⟩
theorem Deck.new {d c p : Addr} {n : Nat} {H : Hp} {o : HO} (D : Deck d c n H) (hp : H p = none) : Deck d c n (L2.upd H p o) := D.upd (D.has hp).1 (D.has hp).2
section
variable {P : Program} {w : World} {K : PySem.W.Frag} {mg : Str → Option Value} {base : Heap}
/-! ### _law_draw -/
def spDraw : Sp := fun vs H Q _ => ∃ (d c : Addr) (n : Nat) (many : Int), vs = [.ref d, .int many] ∧ 0 < many ∧ many < 10 ^ 40 ∧ n < 2 ^ 60 ∧ Deck d c n H ∧
  ∀ (r : Int) (H' : Hp), 0 ≤ r → r < many → Deck d c (n + 1) H' → Ext d c H H' → Q (.int r) H'
theorem many_small {many : Int} (h0 : 0 < many) (h : many < 10 ^ 40) : many.natAbs < 2 ^ 200 := by
  have e : (10 : Int) ^ 40 < 2 ^ 200 := by decide
  omega
theorem mod_small (x : Int) {m : Int} (h0 : 0 < m) (hm : m < 2 ^ 63) : -(2 ^ 64) < x % m ∧ x % m < 2 ^ 64 := by
  have h1 := Int.emod_nonneg x (show m ≠ 0 by omega)
  have h2 := Int.emod_lt_of_pos x h0
  omega
theorem ok_draw (T : Txt w K mg) : ∃ fd, FnOk P w K mg base CX0 1 (He.ga K "_law_draw") fd ["_law_deck_here", "_law_many"] spDraw ∧ Binds K fd ["_law_deck_here", "_law_many"] [] := by
  obtain ⟨fd, F⟩ := T.d__law_draw
  refine ⟨fd, F.ok sc__law_draw (fun vs H Q E h => ?_) (fun cdv A outer s H vs Q E hr h => ?_), F.bindsN fun _ _ _ _ _ _ us hl => match us, hl with | [_, _], _ => rfl⟩
  · obtain ⟨d, c, n, many, rfl, _⟩ := h
    rfl
  obtain ⟨d, c, n, many, rfl, hm0, hm1, hn, D, q⟩ := h
  obtain ⟨ns, m, t, hd, hc, ht, htn, hns⟩ := D.ex
  have ndc := D.ne
  refine ⟨_, PSs.nox (pss_cons (ps_asg (pe_op op_add (pe_ix (ix_listK (K := K) rfl) (pv 0) pe_int (fun _ _ => rfl)) pe_int) (pg_sub (pv 0) pe_int set_list))
      (pss_cons (ps_set (i := 2) sc__law_draw.nd rfl (.inl rfl) (pe_ix (ix_listK (K := K) rfl) (pv 0) pe_int (fun _ _ => rfl)))
      (pss_cons (ps_if (pt_cmpR (op_neDK (K := K) rfl hr.units) (pe_ix (ix_listK (K := K) rfl) (pv 0) pe_int (fun _ _ => rfl)) (pe_lst pa_nil) (nomark _)) (pss_cons (ps_set (i := 2) sc__law_draw.nd rfl (.inl rfl) (pe_bm0 PySem.F.plainAttrs_list PySem.F.slot_list_pop PySem.F.type_list_pop mt_pop (pe_ix (ix_listK (K := K) rfl) (pv 0) pe_int (fun _ _ => rfl))))
      (pss_cons (ps_if (pt_cmpR op_ge (pv 2) (pe_op op_pow pe_int pe_int) (nomark _)) (pss_cons (ps_expr (pe_bm PySem.F.plainAttrs_list PySem.F.slot_list_append PySem.F.type_list_append mt_append (pe_ix (ix_listK (K := K) rfl) (pv 0) pe_int (fun _ _ => rfl)) (pa_cons (pe_op op_fdivW (pv 2) (pv 1)) pa_nil)))
      (pss_one (ps_ret (pe_op op_mod (pv 2) (pv 1))))) pss_nil)
      (pss_one (ps_set (i := 2) sc__law_draw.nd rfl (.inl rfl) (pe_op op_add (pv 2) (pe_ix (ix_listK (K := K) rfl) (pv 0) pe_int (fun _ _ => rfl))))))) pss_nil)
      (pss_cons (ps_set (i := 3) sc__law_draw.nd rfl (.inl rfl) (pe_op op_mod (pe_op op_mul (pe_op op_add (pe_op op_add (pe_op op_mod (pv 2) pe_int) (pe_op op_mul (pe_op op_mul pe_int (pe_ix (ix_listK (K := K) rfl) (pv 0) pe_int (fun _ _ => rfl))) (pe_ix (ix_listK (K := K) rfl) (pv 0) pe_int (fun _ _ => rfl)))) pe_int) pe_int) pe_int))
      (pss_cons (ps_set (i := 3) sc__law_draw.nd rfl (.inl rfl) (pe_op op_mod (pe_op op_add (pe_op op_add (pe_op op_mul (pv 3) (pv 3)) (pe_op op_mul pe_int (pe_ix (ix_listK (K := K) rfl) (pv 0) pe_int (fun _ _ => rfl)))) pe_int) pe_int))
      (pss_one (ps_ret (pe_op op_mod (pe_op op_fdiv (pe_op op_mod (pe_op op_mul (pv 3) pe_int) pe_int) pe_int) (pv 1))))))))), ?_⟩
  -- deck[2] = deck[2] + 1
  refine ⟨.ref d, rfl, d, _, _, .int t, rfl, rfl, .inl (.inl hd), rfl, t, 1, rfl, rfl, .ref d, rfl, d, _, _, _, rfl, rfl, hd, rfl, ?_⟩
  generalize eH1 : upd H d _ = H1
  have hd1 : H1 d = some (.lst [.ref c, .int m, .int (t + 1)]) := by rw [← eH1]; exact upd_same
  have hc1 : H1 c = some (.lst (ns.map V.int)) := by rw [← eH1, upd_ne ndc.symm]; exact hc
  have x1 : Ext d c H H1 := by rw [← eH1]; exact Ext.d
  -- cell = deck[1]
  refine ⟨.ref d, rfl, d, _, _, .int m, rfl, rfl, .inl (.inl hd1), rfl, ?_⟩
  -- if deck[0] != []
  refine ⟨.ref d, rfl, d, _, _, .ref c, rfl, rfl, .inl (.inl hd1), rfl, Nat.zero_le _, fun p hp => ?_⟩
  have hd2 := upd_get (o := .lst []) hp hd1
  have hc2 := upd_get (o := .lst []) hp hc1
  have x2 : Ext d c H (upd H1 p (.lst [])) := x1.trans (Ext.new hp)
  have hp2 : (upd H1 p (.lst [])) p = some (.lst []) := upd_same
  generalize upd H1 p (.lst []) = H2 at hd2 hc2 x2 hp2 ⊢
  refine ⟨.list (ns.map PyData.int), .list [], .lst (.inl (.inl hc2)) (dpInts ns), .lst (.inl (.inl hp2)) .nil, shaped_ints ns, shaped_ints [], _, rfl, ?_⟩
  have dk : ∀ (H3 : Hp) (ns' : List Int), H3 d = some (.lst [.ref c, .int m, .int (t + 1)]) → H3 c = some (.lst (ns'.map V.int)) → ns'.length ≤ 63 → Deck d c (n + 1) H3 :=
    fun H3 ns' a1 a2 a4 => ⟨⟨ns', m, t + 1, a1, a2, by omega, by omega, a4⟩, ndc⟩
  cases ns with
  | nil =>
    refine iteF ?_
    exact ⟨.int m, rfl, m, _, rfl, rfl, (by decide : (0 : Int) < 2147483629), .ref d, rfl, d, _, _, .int (t + 1), rfl, rfl, .inl (.inl hd2), rfl, _, _, rfl, rfl, .inl ⟨by decide, by decide⟩,
      .ref d, rfl, d, _, _, .int (t + 1), rfl, rfl, .inl (.inl hd2), rfl, _, _, rfl, rfl, .inr ⟨by omega, by omega⟩, _, _, rfl, rfl, _, _, rfl, rfl, _, _, rfl, rfl, .inr ⟨by decide, by decide⟩, _, _, rfl, rfl, (by decide : (0 : Int) < 2147483647), 
      _, rfl, _, rfl, _, _, rfl, rfl, .inl (mod_small _ (by decide) (by decide)), .ref d, rfl, d, _, _, .int (t + 1), rfl, rfl, .inl (.inl hd2), rfl, _, _, rfl, rfl, .inl ⟨by decide, by decide⟩, _, _, rfl, rfl, _, _, rfl, rfl, _, _, rfl, rfl, (by decide : (0 : Int) < 2147483587),
      _, rfl, _, _, rfl, rfl, .inr ⟨by decide, by decide⟩, _, _, rfl, rfl, (by decide : (0 : Int) < 2147483563), _, _, rfl, rfl, ⟨by decide, by decide⟩, .int many, rfl, _, _, rfl, rfl, hm0,
      q _ _ (Int.emod_nonneg _ (by omega)) (Int.emod_lt_of_pos _ hm0) (dk H2 [] hd2 hc2 hns) x2⟩
  | cons x r =>
    refine iteT ?_
    -- cell = deck[0].pop()
    obtain ⟨y, hy⟩ : ∃ y, (x :: r)[(x :: r).length - 1]? = some y := ⟨_, List.getElem?_eq_getElem (by simp)⟩
    refine ⟨.ref d, rfl, d, _, _, .ref c, rfl, rfl, .inl (.inl hd2), rfl, .inl ⟨rfl, _, .inl (.inl hc2)⟩, c, _, .int y, rfl, rfl, hc2, ?_, ?_⟩
    · rw [List.length_map, List.getElem?_map, hy]
      rfl
    have er : ((x :: r).map V.int).dropLast = ((x :: r).dropLast).map V.int := (List.map_dropLast ..).symm
    rw [er]
    have hr1 : ((x :: r).dropLast).length ≤ 62 := by rw [List.length_dropLast]; omega
    generalize (x :: r).dropLast = rs at hr1 ⊢
    generalize eH : upd H2 c (.lst (rs.map V.int)) = H3
    have hd3 : H3 d = some (.lst [.ref c, .int m, .int (t + 1)]) := by rw [← eH, upd_ne ndc]; exact hd2
    have hc3 : H3 c = some (.lst (rs.map V.int)) := by rw [← eH]; exact upd_same
    have x3 : Ext d c H H3 := by rw [← eH]; exact x2.trans Ext.c
    refine ⟨.int y, rfl, _, _, rfl, rfl, ⟨by decide, by decide, by decide⟩, _, _, rfl, rfl, _, rfl, ite2 (fun e1 => ?_) (fun e1 => ?_)⟩
    · have wx : CDivW y many := wide_div hm0 (many_small hm0 hm1) (by decide) (by decide)
      refine ⟨.ref d, rfl, d, _, _, .ref c, rfl, rfl, .inl (.inl hd3), rfl, .inl ⟨rfl, _, .inl (.inl hc3)⟩, .int y, rfl, .int many, rfl, y, many, rfl, rfl, wx, c, _, _, rfl, rfl, hc3, ?_, ?_⟩
      · rw [List.length_map]
        exact Nat.lt_of_le_of_lt hr1 (by decide)
      refine ⟨.int y, rfl, .int many, rfl, y, many, rfl, rfl, hm0, ?_⟩
      refine q _ _ (Int.emod_nonneg _ (by omega)) (Int.emod_lt_of_pos _ hm0) (dk _ (rs ++ [y / many]) ?_ ?_ ?_) (x3.trans Ext.c)
      · rw [upd_ne ndc]; exact hd3
      · rw [upd_same, List.map_append]; rfl
      · rw [List.length_append]
        show rs.length + 1 ≤ 63
        omega
    refine ⟨.int y, rfl, .ref d, rfl, d, _, _, .int m, rfl, rfl, .inl (.inl hd3), rfl, y, m, rfl, rfl, ?_⟩
    exact ⟨.int (y + m), rfl, (y + m), _, rfl, rfl, (by decide : (0 : Int) < 2147483629), .ref d, rfl, d, _, _, .int (t + 1), rfl, rfl, .inl (.inl hd3), rfl, _, _, rfl, rfl, .inl ⟨by decide, by decide⟩,
      .ref d, rfl, d, _, _, .int (t + 1), rfl, rfl, .inl (.inl hd3), rfl, _, _, rfl, rfl, .inr ⟨by omega, by omega⟩, _, _, rfl, rfl, _, _, rfl, rfl, _, _, rfl, rfl, .inr ⟨by decide, by decide⟩, _, _, rfl, rfl, (by decide : (0 : Int) < 2147483647), 
      _, rfl, _, rfl, _, _, rfl, rfl, .inl (mod_small _ (by decide) (by decide)), .ref d, rfl, d, _, _, .int (t + 1), rfl, rfl, .inl (.inl hd3), rfl, _, _, rfl, rfl, .inl ⟨by decide, by decide⟩, _, _, rfl, rfl, _, _, rfl, rfl, _, _, rfl, rfl, (by decide : (0 : Int) < 2147483587),
      _, rfl, _, _, rfl, rfl, .inr ⟨by decide, by decide⟩, _, _, rfl, rfl, (by decide : (0 : Int) < 2147483563), _, _, rfl, rfl, ⟨by decide, by decide⟩, .int many, rfl, _, _, rfl, rfl, hm0,
      q _ _ (Int.emod_nonneg _ (by omega)) (Int.emod_lt_of_pos _ hm0) (dk H3 rs hd3 hc3 (by omega)) x3⟩
end
theorem cut_to (xs : List V) (k : Nat) : cutV xs none (some (k : Int)) = xs.take k := by
  unfold cutV
  rw [HT.sIx_none, HT.sIx_nat, Nat.sub_zero, List.drop_zero]
  by_cases h : k ≤ xs.length
  · rw [Nat.min_eq_left h]
  · rw [Nat.min_eq_right (by omega), List.take_length, List.take_of_length_le (by omega)]
theorem cut63 {ns : List Int} (h : ns.length ≤ 63) : cutV (ns.map V.int) none (some 63) = ns.map V.int := by
  have e := cut_to (ns.map V.int) 63
  rw [List.take_of_length_le (by rw [List.length_map]; exact h)] at e
  exact e
section
variable {P : Program} {w : World} {K : PySem.W.Frag} {mg : Str → Option Value} {base : Heap}
/-! ### _law_deck -/
def spDeck (K : PySem.W.Frag) : Sp := fun vs H Q _ => ∃ (a : Addr) (ns : List Int), vs = [.ref a] ∧ SqL K H a (ns.map V.int) ∧ ns.length ≤ 63 ∧
  ∀ (d c : Addr) (H' : Hp), H d = none → H c = none → Same H H' → Deck d c 0 H' → Q (.ref d) H'
theorem ok_deck (T : Txt w K mg) : ∃ fd, FnOk P w K mg base CX0 1 (He.ga K "_law_deck") fd ["_law_script"] (spDeck K) ∧ Binds K fd ["_law_script"] [] := by
  obtain ⟨fd, F⟩ := T.d__law_deck
  refine ⟨fd, F.ok sc__law_deck (fun vs H Q E h => ?_) (fun cdv A outer s H vs Q E hr h => ?_), F.bindsN fun _ _ _ _ _ _ us hl => match us, hl with | [_], _ => rfl⟩
  · obtain ⟨a, ns, rfl, _⟩ := h
    rfl
  obtain ⟨a, ns, rfl, hS, hn, q⟩ := h
  refine ⟨_, PSs.nox (pss_cons (ps_par (i := 1) (j := 2) rfl sc__law_deck.nd rfl rfl (by decide) rfl rfl (pa_cons (pe_callTy call_list_of (by rfl) T.n_list (by decide +kernel) (pa_cons (pe_slice (sl_listK (K := K) rfl) (pv 0) po_none (po_some pe_int)) pa_nil)) (pa_cons pe_int pa_nil)) (by rfl))
      (pss_cons (ps_for PassesOwn.never rfl (pi_list (pv 1)) (pg_name (i := 3) sc__law_deck.nd rfl (.inl rfl)) (pss_one (ps_set (i := 2) sc__law_deck.nd rfl (.inl rfl) (pe_op op_mod (pe_op op_add (pe_op op_add (pe_op op_mul (pv 2) pe_int) (pe_op op_mod (pv 3) pe_int)) pe_int) pe_int))))
      (pss_one (ps_ret (pe_lst (pa_cons (pe_revL (pv 1)) (pa_cons (pv 2) (pa_cons pe_int pa_nil)))))))), ?_⟩
  refine ⟨.ref a, rfl, 63, rfl, a, _, rfl, hS, fun p hp => ?_⟩
  rw [cut63 hn]
  have s1 : Same H (upd H p (.lst (ns.map V.int))) := fun b o h => upd_get hp h
  have h1 : (upd H p (.lst (ns.map V.int))) p = some (.lst (ns.map V.int)) := upd_same
  generalize upd H p (.lst (ns.map V.int)) = H1 at s1 h1 ⊢
  refine ⟨p, _, rfl, .inl (.inl (.inl h1)), fun l hl => ?_⟩
  have s2 : Same H1 (upd H1 l (.lst (ns.map V.int))) := fun b o h => upd_get hl h
  have h2 : (upd H1 l (.lst (ns.map V.int))) l = some (.lst (ns.map V.int)) := upd_same
  generalize upd H1 l (.lst (ns.map V.int)) = H2 at s2 h2 ⊢
  refine ⟨_, _, rfl, .ref l, rfl, l, rfl, ⟨_, .inl (.inl h2)⟩, for_list (xs := ns.map V.int) (fun i σ H3 => ∃ m y, σ = [some (.ref a), some (.ref l), some (.int m), y] ∧ -(2 ^ 64) < m ∧ m < 2 ^ 64 ∧ H3 = H2) ⟨70018, none, rfl, by decide, by decide, rfl⟩ ?_ ?_ ?_⟩
  · rintro i σ H3 _ ⟨m, y, rfl, _, _, rfl⟩
    exact .inl (.inl h2)
  · rintro i x σ H3 hx ⟨m, y, rfl, hm1, hm2, rfl⟩
    obtain ⟨z, rfl⟩ : ∃ z : Int, x = .int z := by
      rw [List.getElem?_map] at hx
      cases e : ns[i]? with
      | none => rw [e] at hx; cases hx
      | some z => rw [e] at hx; cases hx; exact ⟨z, rfl⟩
    refine ⟨.int m, rfl, _, _, rfl, rfl, .inl ⟨hm1, hm2⟩, .int z, rfl, _, _, rfl, rfl, (by decide : (0 : Int) < 2147483563), _, _, rfl, rfl, _, _, rfl, rfl, _, _, rfl, rfl, (by decide : (0 : Int) < 2147483579), ?_⟩
    have hs := mod_small (m * 48271 + z % 2147483563 + 61) (m := 2147483579) (by decide) (by decide)
    exact ⟨_, some (.int z), rfl, hs.1, hs.2, rfl⟩
  · rintro σ H3 ⟨m, y, rfl, hm1, hm2, rfl⟩
    refine ⟨.ref l, rfl, l, _, rfl, .inl (.inl h2), fun c hc => ?_⟩
    rw [← List.map_reverse]
    have s3 : Same H3 (upd H3 c (.lst (ns.reverse.map V.int))) := fun b o h => upd_get hc h
    have h3 : (upd H3 c (.lst (ns.reverse.map V.int))) c = some (.lst (ns.reverse.map V.int)) := upd_same
    generalize upd H3 c (.lst (ns.reverse.map V.int)) = H4 at s3 h3 ⊢
    refine ⟨.int m, rfl, (by show 3 ≤ sizeLine; decide), fun d hd => ?_⟩
    have ndc : d ≠ c := (ne_of_none h3 hd).symm
    refine q d c _ (s1.free (s2.free (s3.free hd))) (s1.free (s2.free hc)) (fun b o h => upd_get hd (s3 _ _ (s2 _ _ (s1 _ _ h)))) ⟨⟨ns.reverse, m, 0, upd_same, ?_, by decide, by decide, by rw [List.length_reverse]; exact hn⟩, ndc⟩
    rw [upd_ne ndc.symm]
    exact h3
/-! ### _law_pick -/
def spPick (K : PySem.W.Frag) : Sp := fun vs H Q _ => ∃ (d c : Addr) (n : Nat) (a : Addr) (xs : List V), vs = [.ref d, .ref a] ∧ n < 2 ^ 60 ∧ Deck d c n H ∧ SqL K (off d c H) a xs ∧ 0 < xs.length ∧ xs.length ≤ 1000 ∧
  ∀ (y : V) (H' : Hp), y ∈ xs → Deck d c (n + 1) H' → Ext d c H H' → Q y H'
theorem c_draw (T : Txt w K mg) : Cal P w K mg base "_law_draw" 1 ["_law_deck_here", "_law_many"] spDraw := ⟨ok_draw T, T.g _ (by decide), by obtain ⟨fd, F⟩ := T.d__law_draw; exact F.kp⟩
theorem ok_pick (T : Txt w K mg) : ∃ fd, FnOk P w K mg base CX0 2 (He.ga K "_law_pick") fd ["_law_deck_here", "_law_items"] (spPick K) ∧ Binds K fd ["_law_deck_here", "_law_items"] [] := by
  obtain ⟨fd, F⟩ := T.d__law_pick
  have C__law_draw := c_draw (P := P) (w := w) (base := base) T
  refine ⟨fd, F.ok sc__law_pick (fun vs H Q E h => ?_) (fun cdv A outer s H vs Q E hr h => ?_), F.bindsN fun _ _ _ _ _ _ us hl => match us, hl with | [_, _], _ => rfl⟩
  · obtain ⟨d, c, n, a, xs, rfl, _⟩ := h
    rfl
  obtain ⟨d, c, n, a, xs, rfl, hn, D, hS, h0, h1, q⟩ := h
  refine ⟨_, PSs.nox (pss_one (ps_ret (pe_ix (ix_listK (K := K) rfl) (pv 1) (pe_cal C__law_draw (hr.mono (by omega)) (by rfl) (pa_cons (pv 0) (pa_cons (pe_callB (lenK (K := K) rfl) (by rfl) T.n_len (by decide +kernel) (pa_cons (pv 1) pa_nil)) pa_nil))) (fun _ _ => rfl)))), ?_⟩
  refine ⟨.ref a, rfl, .ref d, rfl, .ref a, rfl, .ref a, xs.length, rfl, .inl ⟨xs, offL hS, rfl⟩, d, c, n, xs.length, rfl, by omega, ?_, hn, D, fun r H' r0 r1 D' X => ?_⟩
  · have : (1000 : Int) < 10 ^ 40 := by decide
    omega
  · obtain ⟨j, rfl⟩ := Int.eq_ofNat_of_zero_le r0
    have hj : j < xs.length := by omega
    exact ⟨a, xs, j, xs[j], rfl, rfl, offL (X.sqL hS), atI_nat (List.getElem?_eq_getElem hj), q _ _ (List.getElem_mem hj) D' X⟩
theorem c_pick (T : Txt w K mg) : Cal P w K mg base "_law_pick" 2 ["_law_deck_here", "_law_items"] (spPick K) := ⟨ok_pick T, T.g _ (by decide), by obtain ⟨fd, F⟩ := T.d__law_pick; exact F.kp⟩
end
end K18

set_option maxHeartbeats 4000000
/-! HU: a lambda that captures one name, handed to a def and called there. The cell of the name is known to the def that is called (CellO), and hidden again while the lambda runs. -/
namespace HG
open PySem PySem.Spec PyProof.Rows L2 LamX NdefX
def CellO (c : Addr) (o : Obj) : HO := .ext fun h => h.get? c = some o
def CellV (o : Obj) (v : V) : Prop := ∃ u, o.data = .cell (some u) ∧ RelV v u
structure LF where
  qual : Str
  params : Arguments
  body : Expr
  scope : Scope
def LamO (f : Addr) (F : LF) (y : Str) (c' cs : Addr) : HO :=
  .ext fun h => ∃ (cl : List (Str × Addr)) (pm ctv : Value), h.get? f = some (PySem.W.kla_obj "<lambda>" F.qual F.params F.body F.scope cl pm c' ctv) ∧ cl.lookup y = some cs ∧ ∀ z c, cl.lookup z = some c → z = y
def hide (H : Hp) (c : Addr) : Hp := fun b => if b = c then none else H b
theorem hide_same {H : Hp} {c : Addr} : hide H c c = none := if_pos rfl
theorem hide_ne {H : Hp} {c b : Addr} (h : b ≠ c) : hide H c b = H b := if_neg h
theorem hide_none {H : Hp} {c b : Addr} (h : H b = none) : hide H c b = none := by
  unfold hide
  split
  · rfl
  · exact h
section
variable {P : Program} {w : World} {K : PySem.W.Frag} {mg : Str → Option Value} {base : Heap} {A : Around} {outer : List Env} {s s' : Shared} {H : Hp} {h : Heap} {c : Addr} {o : Obj} {Q : VK} {E : XK} {r : Result}
theorem cellO_get (hok : HOk P w H h) (e : H c = some (CellO c o)) : h.get? c = some o := by
  obtain ⟨z, _, _⟩ := hok c _ e
  exact z
theorem cell_ne {u : HO} (hu : ∀ φ, u ≠ .ext φ) {b : Addr} (e : H c = some (CellO c o)) (q : H b = some u) : b ≠ c := fun z => by
  rw [z, e] at q
  exact hu _ (Option.some.inj q).symm
theorem hok_hide (hok : HOk P w H h) (e : H c = some (CellO c o)) : HOk P w (hide H c) h := by
  intro a u q
  have na : a ≠ c := fun z => by
    rw [z, hide_same] at q
    cases q
  rw [hide_ne na] at q
  refine (hok a u q).stay (fun _ _ _ z => z) (fun b z => ?_) (fun b xs z => ?_)
  · rw [hide_ne (cell_ne (fun _ y => by cases y) e z)]; exact z
  · rw [hide_ne (cell_ne (fun _ y => by cases y) e z)]; exact z
theorem hok_adopt (hok : HOk P w H h) (n : H c = none) (g : h.get? c = some o) : HOk P w (upd H c (CellO c o)) h := by
  intro a u q
  by_cases z : a = c
  · subst z
    rw [upd_same] at q
    cases q
    exact ⟨g, ⟨o, g⟩, fun h1 h2 p st => st _ p⟩
  · rw [upd_ne z] at q
    refine (hok a u q).stay (fun _ _ _ z => z) (fun b y => ?_) (fun b xs y => ?_)
    · rw [upd_ne (ne_of_none y n)]; exact y
    · rw [upd_ne (ne_of_none y n)]; exact y
theorem env0_hide (e0 : Env0 P w K mg base A outer s H) (e : H c = some (CellO c o)) : Env0 P w K mg base A outer s (hide H c) where
  frames := e0.frames
  mod := e0.mod
  bs := fun b u q => ⟨(e0.bs b u q).1, hide_none (e0.bs b u q).2⟩
  bsz := e0.bsz
  funs := e0.funs
  frf := fun b hb => hide_none (e0.frf b hb)
  hok := hok_hide e0.hok e
  bare := e0.bare
theorem env0_adopt (e0 : Env0 P w K mg base A outer s H) (n : H c = none) (g : s.heap.get? c = some o) (nb : base.get? c = none) (nf : c ∉ frs outer) : Env0 P w K mg base A outer s (upd H c (CellO c o)) where
  frames := e0.frames
  mod := e0.mod
  bs := fun b u q => ⟨(e0.bs b u q).1, by
    rw [upd_ne (fun z => by rw [z, nb] at q; cases q)]
    exact (e0.bs b u q).2⟩
  bsz := e0.bsz
  funs := e0.funs
  frf := fun b hb => by
    have z : b ≠ c := fun z => nf (by rw [← z]; exact hb)
    rw [upd_ne z]
    exact e0.frf b hb
  hok := hok_adopt e0.hok n g
  bare := e0.bare
theorem cr_hide (e : H c = some (CellO c o)) (e0 : Env0 P w K mg base A outer s H) (h : CR CX0 outer P w (hide H c) s (fun v H2 => H2 c = none → Q v (upd H2 c (CellO c o))) E r s') : CR CX0 outer P w H s Q E r s' := by
  cases r with
  | error _ => exact h.elim
  | ok fl =>
    cases fl with
    | next => exact h.elim
    | brk => exact h.elim
    | cont => exact h.elim
    | ret u =>
      obtain ⟨v, H2, os, bare, un, hok2, rv, q⟩ := h
      have nf : c ∉ frs outer := fun z => by
        have := e0.frf c z
        rw [e] at this
        cases this
      have g := cellO_get e0.hok e
      have g' : s'.heap.get? c = some o := un.keep c o g hide_same nf (by simp)
      have n2 : H2 c = none := un.free c o g hide_same (by simp)
      have nn : ∀ {b : Addr}, H b = none → b ≠ c := fun {b} n z => by rw [z, e] at n; cases n
      refine ⟨v, upd H2 c (CellO c o), os, bare, ⟨fun b u q n hb hx => un.keep b u q (hide_none n) hb hx, fun b u q n hb hx => un.slot b u q (hide_none n) hb hx, fun b u q n hx => ?_, un.there, fun b xs q => ?_, fun b o' u q => ?_, fun b ps q => ?_⟩, hok_adopt hok2 n2 g', rv, q n2⟩
      · rw [upd_ne (nn n)]
        exact un.free b u q (hide_none n) hx
      · have nb := cell_ne (u := .tup xs) (fun _ y => by cases y) e q
        rw [upd_ne nb]
        exact un.tups b xs ((hide_ne nb).trans q)
      · have nb := cell_ne (u := .frz o' u) (fun _ y => by cases y) e q
        rw [upd_ne nb]
        exact un.frzs b o' u ((hide_ne nb).trans q)
      · have nb := cell_ne (u := .tbl ps) (fun _ y => by cases y) e q
        rw [upd_ne nb]
        exact un.tbls b ps ((hide_ne nb).trans q)
theorem cr_adopt (n : H c = none) (g : s.heap.get? c = some o) (nf : c ∉ frs outer) (h : CR CX0 outer P w (upd H c (CellO c o)) s (fun v H2 => H2 c = some (CellO c o) ∧ Q v (hide H2 c)) E r s') : CR CX0 outer P w H s Q E r s' := by
  cases r with
  | error _ => exact h.elim
  | ok fl =>
    cases fl with
    | next => exact h.elim
    | brk => exact h.elim
    | cont => exact h.elim
    | ret u =>
      obtain ⟨v, H2, os, bare, un, hok2, rv, e2, q⟩ := h
      have g' := cellO_get hok2 e2
      have up : ∀ {b : Addr} {u : HO}, H b = some u → upd H c (CellO c o) b = some u := fun {b u} q => by rw [upd_ne (ne_of_none q n)]; exact q
      refine ⟨v, hide H2 c, os, bare, ⟨fun b u qb n1 hb hx => ?_, fun b u q n1 hb hx => ?_, fun b u q n1 hx => ?_, fun b u q hx => un.there b u q hx, fun b xs q => ?_, fun b o' u q => ?_, fun b ps q => ?_⟩, hok_hide hok2 e2, rv, q⟩
      · by_cases z : b = c
        · subst z
          rw [g] at qb
          cases qb
          exact g'
        · exact un.keep b u qb (by rw [upd_ne z]; exact n1) hb hx
      · have z : b ≠ c := fun z => nf (by rw [← z]; exact hb)
        exact un.slot b u q (by rw [upd_ne z]; exact n1) hb hx
      · by_cases z : b = c
        · rw [z]; exact hide_same
        · exact hide_none (un.free b u q (by rw [upd_ne z]; exact n1) hx)
      · rw [hide_ne (ne_of_none q n)]; exact un.tups b xs (up q)
      · rw [hide_ne (ne_of_none q n)]; exact un.frzs b o' u (up q)
      · rw [hide_ne (ne_of_none q n)]; exact un.tbls b ps (up q)
end
/-! ### the lambda's run -/
structure LOk (P : Program) (w : World) (K : PySem.W.Frag) (mg : Str → Option Value) (base : Heap) (k : Nat) (F : LF) (y : Str) (sp : V → Sp) : Prop where
  run : ∀ (A : Around) (outer : List Env) (s : Shared) (H : Hp) (us : List Value) (vs : List V) (v : V) (cs c' f : Addr) (o : Obj) (Q : VK), Room k A → Env0 P w K mg base A outer s H → H f = some (LamO f F y c' cs) → H c' = some (CodeO c' F.qual) →
    H cs = some (CellO cs o) → CellV o v → Vals vs us → sp v vs (hide H cs) (fun r H2 => H2 cs = none → Q r (upd H2 cs (CellO cs o))) E0 → codeAny (model P w) A (.call (.ref f) ⟨us, []⟩) (CR CX0 outer P w H s Q E0) s
abbrev LF.nf (F : LF) (cl : List (Str × Addr)) (c' : Addr) : NF := ⟨"<lambda>", F.qual, F.params, [], F.scope, cl, c'⟩
theorem lok_of {P : Program} {w : World} {K : PySem.W.Frag} {mg : Str → Option Value} {base : Heap} {k : Nat} {F : LF} {y : Str} {sp : V → Sp} {N ps : List Str} (S : NScope N ps [y] F.scope)
    (hb : ∀ (cl : List (Str × Addr)) (pm cv ctv : Value) (us : List Value), us.length = ps.length → bindArgs (PySem.W.kla_fn "<lambda>" F.qual F.params F.body F.scope cl pm cv ctv) ⟨us, []⟩ = pure (ps.zip us))
    (len : ∀ v vs H Q, sp v vs H Q E0 → vs.length = ps.length)
    (hbody : ∀ (A : Around) (outer : List Env) (s : Shared) (H : Hp) (vs : List V) (v : V) (cl : List (Str × Addr)) (c' f : Addr) (Q : VK), Room k (A.deeper (envF (F.nf cl c') f s.heap.objs.size)) → sp v vs H Q E0 →
      ∃ t, PE (ncx CX0 P w K mg base N (F.nf cl c') f A outer s H E0) F.body t ∧ t (startF N vs [some v]) H Q) : LOk P w K mg base (k + 1) F y sp := by
  refine ⟨fun A outer s H us vs v cs c' f o Q hr e0 hf hc hcs hv r hsp => ?_⟩
  obtain ⟨⟨cl, pm, ctv, ho, hy, hz⟩, _, _⟩ := e0.hok f _ hf
  have hl := len _ _ _ _ hsp
  have g := cellO_get e0.hok hcs
  refine codeAny_mono (R := CR CX0 outer P w (hide H cs) s (fun v H2 => H2 cs = none → Q v (upd H2 cs (CellO cs o))) E0) ?_ (fun r s' h => cr_hide hcs e0 h)
  have e1 := env0_hide e0 hcs
  have lim : s.heap.NoLimit := e0.mod.nolimit.keeps fun b o e => (e0.bs b o e).1
  refine PySem.W.kla_callFunE hr.depth ho rfl S.co S.gen rfl (codeO_at e0.hok hc) ?_
  rw [hb cl pm (.ref c') ctv us (by rw [← r.length]; exact hl)]
  refine wpAny_pure (wpAny_newFunctionEnv S.nocell (fun ⟨n, _⟩ hy => S.par n (List.of_mem_zip hy).1) (fun h₁ hns hsb => ⟨lim.fresh _ hsb, ?_⟩) S.kind)
  show codeAny _ _ (.expr F.body (envF (F.nf cl c') f s.heap.objs.size)) _ _
  have kp : ∀ b u, s.heap.get? b = some u → h₁.get? b = some u := fun b u e => hsb.extBut b u (Nat.ne_of_lt (Heap.lt_size e)) (Heap.get?_push_of_some _ e)
  obtain ⟨u0, hd0, ru0⟩ := hv
  have C : CellsAt cl [y] [some v] s.heap (hide H cs) := by
    refine ⟨rfl, fun z c e => ?_, fun a b c e1 e2 => (hz a c e1).trans (hz b c e2).symm, fun i z e => ?_⟩
    · have ez := hz z c e
      subst ez
      rw [hy] at e
      cases e
      exact ⟨hide_same, some u0, o, g, hd0⟩
    · match i, e with
      | 0, e =>
        cases e
        refine ⟨cs, hy, fun v' e' => ?_⟩
        cases e'
        exact ⟨u0, ru0, o, g, hd0⟩
      | i + 1, e => cases e
  obtain ⟨t, ht, hq⟩ := hbody A outer s (hide H cs) vs v cl c' f _ (hr.deeper _) hsp
  have J : Inv (ncx CX0 P w K mg base N (F.nf cl c') f A outer s (hide H cs) E0) [] (startF N vs [some v]) (hide H cs) { s with heap := h₁, toks := s.toks + (ps.zip us).length } := inv_startN S hr.hd e1 hl r C hns kp
  refine PySem.W.kla_codeExpr (wpAny_mono (ht.run [] _ _ _ _ J hq) (fun v s' hq => ?_) fun e s' hq => hq)
  obtain ⟨w', H', J', rv, q⟩ := hq
  exact ⟨w', H', J'.os, J'.bare, J'.base, J'.hok, rv, q⟩
/-! ### its call -/
def tCallLam (i : Nat) (F : LF) (y : Str) (sp : V → Sp) (t : TA) : TE := fun σ H Q => ∃ (f c' cs : Addr) (o : Obj) (v : V), σ[i]? = some (some (.ref f)) ∧ H f = some (LamO f F y c' cs) ∧
  t σ H fun vs H1 => H1 f = some (LamO f F y c' cs) ∧ H1 c' = some (CodeO c' F.qual) ∧ H1 cs = some (CellO cs o) ∧ CellV o v ∧ sp v vs (hide H1 cs) (fun r H2 => H2 cs = none → Q r (upd H2 cs (CellO cs o))) E0
section
variable {X : Cx} {k i j : Nat} {F : LF} {x y : Str} {sp : V → Sp} {p pos : Pos} {e : Expr} {es : List Expr} {t : TA}
theorem lam_at {pins : List (Addr × Obj)} {σ : L2.St} {H : Hp} {s : Shared} {f c' cs : Addr} (I : Inv X pins σ H s) (e : H f = some (LamO f F y c' cs)) : PySem.W.FnAt f s.heap := by
  obtain ⟨⟨cl, pm, ctv, ho, _⟩, _, _⟩ := I.hok f _ e
  exact ⟨_, _, _, _, ho⟩
theorem pe_callLam (L : LOk X.prog X.w X.K X.mg X.base k F y sp) (hr : Room k X.A) (hN : X.N[i]? = some x) (hv : Vis X.env.scope x) (ha : PA X (e :: es) t)
    (hd : (x == ("__debug__" : Str)) = false := by decide) (hcd : (x == ("__classdict__" : Str)) = false := by decide)
    (he : starEach (e :: es) X.env = (false, eval e X.env) :: starEach es X.env := by rfl) (hpl : (backTo pos (starEach es X.env)).any (·.1) = false := by rfl) :
    PE X (.Call (.Name x p) (e :: es) [] pos) (tCallLam i F y sp t) := by
  constructor
  rintro pins s σ H Q I ⟨f, c', cs, o, v, hs, hf, ht⟩
  refine wpAny_Call_Name_kw (thn ((pe_var (pos := p) hN hv hd hcd).run pins s σ H (fun v H1 => v = .ref f ∧ H1 = H) I ⟨.ref f, hs, rfl, rfl⟩) ?_)
  rintro u s1 ⟨v1, H1, I1, r1, rfl, rfl⟩
  obtain rfl : u = Value.ref f := r1
  refine PySem.W.callWith_F (first := []) (lam_at I1 hf) (thn (ha.run pos pins s1 σ H1 _ I1 ht) ?_) he hpl
  rintro us s2 ⟨vs, H2, I2, r, h1, h2, h3, h4, q⟩
  refine ⟨lam_at I2 h1, ?_⟩
  show wpAny _ _ (call (.ref f) us) _ _ _
  refine wpAny_call (codeAny_mono (L.run X.A X.stack s2 H2 us vs v cs c' f o Q hr I2.env0 h1 h2 h3 h4 r q) fun r s' hq => ?_)
  exact fin_call pass0 I2 hq
/-! ### a lambda as a value -/
def tLm (T : List (Addr × Str)) (F : LF) (y : Str) (cs : Addr) : TE := fun σ H Q => Tabs T H ∧ ∀ (f c' : Addr) (H1 : Hp), ExtN H H1 → (∀ b, H1 b = none → H b = none) → Tabs T H1 → H f = none → H1 f = some (LamO f F y c' cs) → H1 c' = some (CodeO c' F.qual) → Q (.ref f) H1
theorem lamO_ne {f c' cs : Addr} (ps : Array Value) : LamO f F y c' cs ≠ .tbl ps := fun z => by
  unfold LamO at z
  cases z
theorem tabs_ext {T : List (Addr × Str)} {H H' : Hp} (t : Tabs T H) (s : Same H H') : Tabs T H' := t.ext s
theorem pe_lam {T : List (Addr × Str)} {c P : Addr} {params : Arguments} {body : Expr} {scope : Scope} (TB : TabB X.base X.mg c P) (hcode : X.env.code = .ref c)
    (hm : (P, X.env.qual ++ "<lambda>") ∈ T) (hu : ∀ p ∈ T, p.1 = P → p.2 = X.env.qual ++ "<lambda>") (hdef : defaultsOf params X.env = ([], []))
    (hy : (y, NameKind.free) ∈ scope.names) (hk : X.env.scope.names.lookup y = some .cell) (only : ∀ z ∈ scope.names, z.2 = .free → z.1 = y) :
    PE X (.Lambda params body scope pos) (tLm T ⟨X.env.qual ++ "<lambda>", params, body, scope⟩ y ((X.env.cells.lookup y).getD 0)) := by
  constructor
  rintro pins s σ H Q I ⟨hT, hq⟩
  obtain ⟨ps, hP, ht, ha⟩ := hT _ hm
  have hfree : ∀ z ∈ scope.names, z.2 = .free → ∃ c, X.env.cells.lookup z.1 = some c := fun z hz e => by
    rw [only z hz e]
    exact I.ok.has y (.inl hk)
  have hl1 : (cloFrom X.env.cells scope.names []).lookup y = some ((X.env.cells.lookup y).getD 0) := by
    obtain ⟨cy, ey⟩ := I.ok.has y (.inl hk)
    rw [ey]
    exact clo_has hfree hy ey
  have hl2 : ∀ z c, (cloFrom X.env.cells scope.names []).lookup z = some c → z = y := fun z c e => by
    rcases cloFrom_mem (PySem.mem_of_lookup e) with q | ⟨q, _⟩
    · cases q
    · exact only _ q rfl
  have bP : s.heap.BuiltinsAt X.mg P := TB.bm.keeps I.bk
  have hP' : s.heap.get? P = some { cls := .none, data := .fields ps } := I.hok P _ hP
  have lamOk : ∀ (H1 : Hp) (h1 : Heap) (f c' : Addr) (pm ctv : Value), h1.get? f = some (PySem.W.kla_obj "<lambda>" (X.env.qual ++ "<lambda>") params body scope (cloFrom X.env.cells scope.names []) pm c' ctv) →
      ObjOk X.prog X.w H1 h1 f (LamO f ⟨X.env.qual ++ "<lambda>", params, body, scope⟩ y c' ((X.env.cells.lookup y).getD 0)) := fun H1 h1 f c' pm ctv e =>
    ⟨⟨_, pm, ctv, e, hl1, hl2⟩, ⟨_, e⟩, fun h2 h3 ⟨cl, pm, ctv, e, r⟩ st => ⟨cl, pm, ctv, st _ e, r⟩⟩
  refine PySem.W.kla_eval hdef ?_
  cases hc : codeAmong pos ps.toList with
  | some cv =>
    obtain ⟨c', e, hco⟩ := ha pos cv hc
    subst e
    refine PySem.W.kla_makeFunctionHit (mg := X.mg) (c := c) (P := P) (ps := ps) (closure_ok hfree) I.ok.glob (I.mod.glob.keeps I.bk) hcode (TB.code.keeps I.bk) hP' ht hc bP ?_
    intro ctv h' tk hx hsz
    have I1 : Inv X pins σ H { s with heap := h', toks := tk } := I.kept hx
    have nF : H h'.objs.size = none := I1.hok.fresh (Nat.le_refl _)
    have sm : Same H (upd H h'.objs.size (LamO h'.objs.size ⟨X.env.qual ++ "<lambda>", params, body, scope⟩ y c' ((X.env.cells.lookup y).getD 0))) := fun b o e => upd_get nF e
    have I2 := I1.laid (h' := h'.push (PySem.W.kla_obj "<lambda>" (X.env.qual ++ "<lambda>") params body scope (cloFrom X.env.cells scope.names []) ((X.mg "__name__").getD .none) c' ctv)) (t' := tk) (a := h'.objs.size)
      (fun b u e => Heap.get?_push_of_some _ e) (Nat.le_refl _) (lamOk _ _ _ _ _ _ (Heap.get?_push_size _ rfl))
    exact ⟨.ref _, _, I2, rfl, hq h'.objs.size c' _ (ExtN.of sm) (fun b e => upd_none e) (hT.ext sm) nF upd_same (sm _ _ hco)⟩
  | none =>
    refine PySem.W.kla_makeFunction (mg := X.mg) (c := c) (P := P) (ps := ps) (closure_ok hfree) I.ok.glob (I.mod.glob.keeps I.bk) hcode (TB.code.keeps I.bk) hP' ht hc TB.gP bP ?_
    intro c' ctv h' tk hx hge hlt hrec htb
    obtain ⟨c2, oc, vs, t, e2, hoc, hd, hv⟩ := hrec
    cases e2
    have nC : H c' = none := I.hok.fresh hge
    have nP : P ≠ c' := ne_of_none hP nC
    have I1 := inv_table (t' := tk) (more := #[rawInt pos.line, rawInt pos.col, .ref c']) (h' := h') I hP (fun b o hb e => hx b o hb e) htb hge ⟨oc, vs, t, hoc, hd, hv⟩
    generalize eH1 : upd (upd H P (.tbl (ps ++ #[rawInt pos.line, rawInt pos.col, .ref c']))) c' (CodeO c' (X.env.qual ++ "<lambda>")) = H1 at I1
    have atP : H1 P = some (.tbl (ps ++ #[rawInt pos.line, rawInt pos.col, .ref c'])) := by rw [← eH1, upd_ne nP, upd_same]
    have atC : H1 c' = some (CodeO c' (X.env.qual ++ "<lambda>")) := by rw [← eH1]; exact upd_same
    have rest : ∀ b o, H b = some o → b ≠ P → H1 b = some o := fun b o e hb => by
      rw [← eH1, upd_ne (ne_of_none e nC), upd_ne hb]
      exact e
    have hE : ExtN H H1 := fun b o e n => rest b o e fun z => n ps (Option.some.inj (e.symm.trans (z ▸ hP)))
    have gr : ∀ b, H1 b = none → H b = none := fun b e => by
      rw [← eH1] at e
      exact upd_none (upd_none e)
    have T1 : Tabs T H1 := by
      intro p hp
      by_cases hb : p.1 = P
      · have eL : (ps ++ #[rawInt pos.line, rawInt pos.col, .ref c']).toList = ps.toList ++ [rawInt pos.line, rawInt pos.col, .ref c'] := by simp
        rw [hu p hp hb, hb]
        refine ⟨_, atP, by rw [eL]; exact PySem.TriplesOk_snoc _ _ _ _ ht, fun p' cv hcv => ?_⟩
        rw [eL] at hcv
        rcases among_app _ ht hcv with z | z
        · obtain ⟨c0, e1, e2⟩ := ha p' cv z
          exact ⟨c0, e1, hE _ _ e2 codeO_ne⟩
        · exact ⟨c', z, atC⟩
      · obtain ⟨ps', a1, a2, a3⟩ := hT p hp
        refine ⟨ps', rest _ _ a1 hb, a2, fun p' cv hcv => ?_⟩
        obtain ⟨c0, e1, e2⟩ := a3 p' cv hcv
        exact ⟨c0, e1, hE _ _ e2 codeO_ne⟩
    have nF : H1 h'.objs.size = none := I1.hok.fresh (Nat.le_refl _)
    have sm : Same H1 (upd H1 h'.objs.size (LamO h'.objs.size ⟨X.env.qual ++ "<lambda>", params, body, scope⟩ y c' ((X.env.cells.lookup y).getD 0))) := fun b o e => upd_get nF e
    have I2 := I1.laid (h' := h'.push (PySem.W.kla_obj "<lambda>" (X.env.qual ++ "<lambda>") params body scope (cloFrom X.env.cells scope.names []) ((X.mg "__name__").getD .none) c' ctv)) (t' := tk) (a := h'.objs.size)
      (fun b u e => Heap.get?_push_of_some _ e) (Nat.le_refl _) (lamOk _ _ _ _ _ _ (Heap.get?_push_size _ rfl))
    exact ⟨.ref _, _, I2, rfl, hq h'.objs.size c' _ (hE.trans (ExtN.of sm)) (fun b e => gr b (upd_none e)) (T1.ext sm) (gr _ nF) upd_same (sm _ _ atC)⟩
/-! ### a def called while a cell is known -/
def tCalA (j : Nat) (cs : Addr) (sp : Sp) (t : TA) : TE := fun σ H Q => t σ H fun vs H1 => ∃ v, σ[j]? = some (some v) ∧ (H1 cs = none → ∀ o, CellV o v → sp vs (upd H1 cs (CellO cs o)) (fun r H' => H' cs = some (CellO cs o) ∧ Q r (hide H' cs)) E0)
theorem pe_calA {ps : List Str} {sp : Sp} (C : Cal X.prog X.w X.K X.mg X.base x k ps sp) (hr : Room k X.A) (hg : Gl X x) (ha : PA X (e :: es) t) (hN : X.N[j]? = some y) (hk : X.env.scope.names.lookup y = some .cell) (hfn : X.fn y = true)
    (hdb : (x == ("__debug__" : Str)) = false := by decide)
    (he : starEach (e :: es) X.env = (false, eval e X.env) :: starEach es X.env := by rfl)
    (hpl : (backTo pos (starEach es X.env)).any (·.1) = false := by rfl) : PE X (.Call (.Name x p) (e :: es) [] pos) (tCalA j ((X.env.cells.lookup y).getD 0) sp t) := by
  obtain ⟨fd, F, b⟩ := C.ex
  constructor
  intro pins s σ H Q I h
  refine wpAny_Call_Name_kw (ld_glob I hg C.gl ?_ hdb)
  refine PySem.W.callWith_K (h₀ := X.base) I.ok.mod.kin C.kp (thn (ha.run pos pins s σ H _ I h) ?_) he hpl
  rintro us s1 ⟨vs, H1, I1, r, v, hv, q⟩
  obtain ⟨cs, ecs⟩ := I1.ok.has y (.inl hk)
  rw [ecs] at q
  have nC : H1 cs = none := I1.freeC y cs ecs
  obtain ⟨m, hn, hl⟩ := I1.loc
  obtain ⟨u, ru, lk⟩ := hl j y v hN hv (.inr (.inl hk))
  have cell : s1.heap.IsCell cs (some u) := by
    rcases lk with ⟨z, _⟩ | ⟨_, c2, e2, z⟩
    · have z : X.env.scope.names.lookup y = some .local := z
      rw [hk] at z
      cases z
    · rw [ecs] at e2
      cases e2
      exact z
  obtain ⟨o, go, hd⟩ := cell
  have hge : X.s_0.heap.objs.size ≤ cs := I1.ok.cab y cs hfn ecs
  have nb : X.base.get? cs = none := by
    cases z : X.base.get? cs with
    | none => rfl
    | some ob =>
      have h1 := Heap.lt_size z
      have h2 := I1.ok.bsz
      exact absurd (Nat.lt_of_lt_of_le h1 (Nat.le_trans h2 hge)) (Nat.lt_irrefl _)
  have nO : cs ∉ X.fs := fun z => by
    obtain ⟨ob, e1, _⟩ := (I1.ok.funs.mem z).2
    exact absurd (Nat.lt_of_lt_of_le (Heap.lt_size e1) hge) (Nat.lt_irrefl _)
  have nf : cs ∉ frs X.stack := fun z => by
    rcases I1.ok.stk with e | ⟨e, ef⟩
    · rw [e] at z
      exact nO z
    · rw [e] at z
      have z : cs ∈ (X.env :: X.outer).filterMap (·.frame) := z
      rw [List.filterMap_cons, ef] at z
      rcases List.mem_cons.mp z with z | z
      · obtain ⟨ob, es1, ep, e1, d1, _⟩ := hn
        rw [← z, go] at e1
        cases e1
        rw [hd] at d1
        cases d1
      · exact nO z
  have q := q nC o ⟨u, hd, ru⟩
  have hl1 : us.length = ps.length := r.length.symm.trans (F.len _ _ _ _ q)
  refine ⟨I1.kIn, wpAny_call (codeAny_mono (F.run X.A X.stack s1 (upd H1 cs (CellO cs o)) ⟨us, []⟩ us vs _ _ hr (env0_adopt I1.env0 nC go nb nf) ?_ r q) fun r s' hq => ?_)⟩
  · have := b s1 us I1.kIn (by rw [List.append_nil]; exact hl1)
    rw [List.append_nil] at this
    exact this
  · exact fin_call pass0 I1 (cr_adopt nC go nf hq)
end
/-- the lambda and what it needs, as data S -/
structure LamAt (K : PySem.W.Frag) (F : LF) (y : Str) (H : Hp) (f c' cs : Addr) (o : Obj) (v : V) (S : List PyData) : Prop where
  lam : H f = some (LamO f F y c' cs)
  code : H c' = some (CodeO c' F.qual)
  cell : H cs = some (CellO cs o)
  val : CellV o v
  dat : Dp K H v (.tuple S)
theorem LamAt.mono {K : PySem.W.Frag} {F : LF} {y : Str} {H H' : Hp} {f c' cs : Addr} {o : Obj} {v : V} {S : List PyData} (h : LamAt K F y H f c' cs o v S) (s : Same H H') : LamAt K F y H' f c' cs o v S :=
  ⟨s _ _ h.lam, s _ _ h.code, s _ _ h.cell, h.val, dp_mono s _ _ h.dat⟩
mutual
theorem dp_hide {K : PySem.W.Frag} {H : Hp} {c : Addr} {o : Obj} (e : H c = some (CellO c o)) : ∀ (d : PyData) (v : V), Dp K H v d → Dp K (hide H c) v d
  | .none, _, h => by cases h; exact .non
  | .bool b, _, h => by cases h; exact .bl b
  | .int i, _, h => by cases h; exact .int i
  | .str x, _, h => by cases h; exact .str x
  | .list ds, _, h => by
    cases h with
    | lst s a =>
      refine .lst ?_ (dpAll_hide e ds _ a)
      rcases s with (s | ⟨o, s⟩) | s
      · exact .inl (.inl ((hide_ne (cell_ne (fun _ y => by cases y) e s)).trans s))
      · exact .inl (.inr ⟨o, (hide_ne (cell_ne (fun _ y => by cases y) e s)).trans s⟩)
      · exact .inr s
  | .tuple ds, _, h => by
    cases h with
    | tup s a =>
      refine .tup ?_ (dpAll_hide e ds _ a)
      rcases s with (s | ⟨o, s⟩) | s
      · exact .inl (.inl ((hide_ne (cell_ne (fun _ y => by cases y) e s)).trans s))
      · exact .inl (.inr ⟨o, (hide_ne (cell_ne (fun _ y => by cases y) e s)).trans s⟩)
      · exact .inr s
  | .dict _, _, h => by cases h
theorem dpAll_hide {K : PySem.W.Frag} {H : Hp} {c : Addr} {o : Obj} (e : H c = some (CellO c o)) : ∀ (ds : List PyData) (vs : List V), DpAll K H vs ds → DpAll K (hide H c) vs ds
  | [], _, h => by cases h; exact .nil
  | d :: ds, _, h => by
    cases h with
    | cons a b => exact .cons (dp_hide e d _ a) (dpAll_hide e ds _ b)
end
/-- back from the lambda -/
theorem same_back {H H2 : Hp} {c : Addr} {o : Obj} (e : H c = some (CellO c o)) (s : Same (hide H c) H2) : Same H (upd H2 c (CellO c o)) := fun b u q => by
  by_cases z : b = c
  · subst z
    rw [e] at q
    cases q
    exact upd_same
  · rw [upd_ne z]
    exact s _ _ ((hide_ne z).trans q)
end HG

set_option maxHeartbeats 4000000
/-! HJ: tuples as data: t + u, t[a:b], t[::-1], t[i]. -/
namespace HG
open PySem PySem.Spec PyProof.Rows L2
section
variable {prog : Program} {w : World} {A : Around} {E : Value → Shared → Prop} {s : Shared}
theorem places_rev (n : Nat) : Builtin.Slice.slicePlaces ((n : Int) - 1) (-1) (-1) = n := by
  unfold Builtin.Slice.slicePlaces
  have h1 : ¬ ((-1 : Int) > 0) := by omega
  simp only [h1, if_false]
  split
  · rename_i h
    rw [show (- (-1 : Int)) = 1 from rfl, Int.ediv_one]
    omega
  · omega
theorem adjust_rev (n : Nat) : Builtin.Slice.sliceAdjust none none (-1) (n : Int) = ((n : Int) - 1, -1) := by
  unfold Builtin.Slice.sliceAdjust
  have h1 : ((-1 : Int) < 0) := by omega
  simp only [h1, if_true]
theorem sliceApplied_rev {sl : Addr} {vl vu vs : Value} {n : Nat} {Q : Int × Int × Nat → Shared → Prop} (hs : s.heap.IsSliceOf sl vl vu vs) (pl : IsPart vl none) (pu : IsPart vu none) (ps : IsPart vs (some (-1)))
    (h : Q ((n : Int) - 1, -1, n) s) : wpAny (model prog w) A (Builtin.Slice.sliceApplied (.ref sl) (pure (n : Int))) Q E s := by
  obtain ⟨os, hos, hcs, hds⟩ := id hs
  unfold Builtin.Slice.sliceApplied Builtin.Slice.sliceFields
  refine wpAny_bind (wpAny_bind (wpAny_field hos hds (x := vl) rfl (wpAny_bind (wpAny_field hos hds (x := vu) rfl (wpAny_bind (wpAny_field hos hds (x := vs) rfl (wpAny_pure ?_)))))))
  refine wpAny_bind (HT.slicePart_ ps ?_)
  show wpAny _ _ (if ((-1 : Int) == 0) = true then _ else _) _ _ s
  rw [if_neg (by decide)]
  refine wpAny_bind (HT.slicePart_ pl (wpAny_bind (HT.slicePart_ pu (wpAny_bind (wpAny_pure ?_)))))
  show wpAny _ _ (match Builtin.Slice.sliceAdjust none none (-1) (n : Int) with | (lo, hi) => pure (lo, (-1 : Int), Builtin.Slice.slicePlaces lo hi (-1))) _ _ s
  rw [adjust_rev n]
  show wpAny _ _ (pure ((n : Int) - 1, (-1 : Int), Builtin.Slice.slicePlaces ((n : Int) - 1) (-1) (-1))) _ _ s
  rw [places_rev]
  exact wpAny_pure h
theorem pick_rev (xs : Array Value) : ((List.range xs.size).filterMap fun (m : Nat) => xs[(((xs.size : Int) - 1) + (m : Int) * (-1)).toNat]?).toArray = xs.toList.reverse.toArray := by
  congr 1
  apply List.ext_getElem?
  intro i
  have e : (List.range xs.size).filterMap (fun (m : Nat) => xs[(((xs.size : Int) - 1) + (m : Int) * (-1)).toNat]?) = (List.range xs.size).map (fun m => xs.getD (xs.size - 1 - m) .none) := by
    have : ∀ l : List Nat, (∀ m ∈ l, m < xs.size) → l.filterMap (fun (m : Nat) => xs[(((xs.size : Int) - 1) + (m : Int) * (-1)).toNat]?) = l.map (fun m => xs.getD (xs.size - 1 - m) .none) := by
      intro l
      induction l with
      | nil => intro _; rfl
      | cons m l ih =>
        intro hm
        have h1 := hm m List.mem_cons_self
        have e1 : (((xs.size : Int) - 1) + (m : Int) * (-1)).toNat = xs.size - 1 - m := by omega
        have h2 : xs.size - 1 - m < xs.size := by omega
        rw [List.filterMap_cons, e1, Array.getElem?_eq_getElem h2, List.map_cons, ih fun k hk => hm k (List.mem_cons_of_mem _ hk)]
        simp [Array.getD, h2]
    exact this _ fun m hm => List.mem_range.mp hm
  rw [e, List.getElem?_map]
  by_cases hi : i < xs.size
  · rw [List.getElem?_range hi]
    rw [List.getElem?_reverse (by simpa using hi)]
    have h2 : xs.size - 1 - i < xs.size := by omega
    simp [Array.getD, h2]
  · rw [List.getElem?_eq_none (by simp; omega), List.getElem?_eq_none (by simp; omega)]
    rfl
theorem getItem_tuple_rev {t sl : Addr} {items : Array Value} {vl vu vs : Value} {Q : Value → Shared → Prop} (ht : IsTup s.heap t items) (hs : s.heap.IsSliceOf sl vl vu vs) (pl : IsPart vl none) (pu : IsPart vu none) (ps : IsPart vs (some (-1)))
    (h : Q (.ref s.heap.objs.size) { s with heap := s.heap.push { cls := .type "tuple", data := .seq items.toList.reverse.toArray } })
    (hsz : items.size ≤ sizeLine) : wpAny (model prog w) A (getItem (.ref t) (.ref sl)) Q E s := by
  have htake : sizeOk (.seq items.toList.reverse.toArray) := by
    show items.toList.reverse.toArray.size ≤ sizeLine
    simpa using hsz
  obtain ⟨os, hos, hcs, hds⟩ := id hs
  have hTs : s.TypeIs (.ref sl) "slice" := ⟨os, hos, hcs⟩
  unfold getItem
  try with_reducible refine wpAny_holding ?_
  first | refine wpAny_bind (wpAny_pure ?_) | skip
  refine wpAny_bind (wpAny_sequenceKey ht.typeIs (by decide) ?_)
  refine wpAny_bind (wpAny_callSpecial?_slot (name := Str.ofString "__getitem__") ht.typeIs PyProof.Rows.slot_tuple_getitem
    (wpAny_call_entry PyProof.Rows.slot_tuple_getitem ht.typeIs PyProof.Rows.entry_tuple_getitem ?_ (PyProof.Rows.args_tuple_getitem _ _)))
  show wpAny _ _ (Builtin.Tuple.tupleItemsOf (.ref t) >>= _) _ _ s
  refine wpAny_bind (PyProof.Rows.tupleItemsOf_ ht ?_)
  refine wpAny_bind (wpAny_typeOf hTs ?_)
  rw [if_pos (by decide)]
  refine wpAny_bind (sliceApplied_rev hs pl pu ps ?_)
  have hno : ¬ ((((items.size : Int) - 1) == 0 && (-1 : Int) == 1 && items.size == items.size) = true) := by
    intro q
    rw [Bool.and_eq_true, Bool.and_eq_true] at q
    exact absurd q.1.2 (by decide)
  show wpAny _ _ (if (((items.size : Int) - 1) == 0 && (-1 : Int) == 1 && items.size == items.size) = true then _ else _) _ _ s
  rw [if_neg hno, pick_rev]
  first
    | exact wpAny_bind (m := Builtin.Tuple.tupleExact _) (wpAny_newObj_type (wpAny_pure ⟨_, rfl, wpAny_pure h⟩) htake)
    | exact wpAny_bind (m := Builtin.Tuple.tupleExact _) (wpAny_newObj_type (wpAny_bind (wpAny_pure (wpAny_pure ⟨_, rfl, wpAny_pure h⟩))) htake)
    | exact wpAny_bind (wpAny_bind (m := Builtin.Tuple.tupleExact _) (wpAny_newObj_type (wpAny_pure (wpAny_pure ⟨_, rfl, wpAny_pure h⟩)) htake))
    | exact wpAny_bind (wpAny_bind (m := Builtin.Tuple.tupleExact _) (wpAny_newObj_type (wpAny_pure ⟨_, rfl, wpAny_pure h⟩) htake))
end
section
variable {X : Cx} {K : PySem.W.Frag}
/-! ### data -/
theorem dpAll_drop {H : Hp} : ∀ {vs : List V} {ds : List PyData} (n : Nat), DpAll K H vs ds → DpAll K H (vs.drop n) (ds.drop n)
  | _, _, 0, h => h
  | _, _, n + 1, .nil => by rw [List.drop_nil, List.drop_nil]; exact .nil
  | _, _, n + 1, .cons _ h => dpAll_drop n h
theorem dpAll_take {H : Hp} : ∀ {vs : List V} {ds : List PyData} (n : Nat), DpAll K H vs ds → DpAll K H (vs.take n) (ds.take n)
  | _, _, 0, h => .nil
  | _, _, n + 1, .nil => by rw [List.take_nil, List.take_nil]; exact .nil
  | _, _, n + 1, .cons a h => .cons a (dpAll_take n h)
theorem dpAll_rev {H : Hp} : ∀ {vs : List V} {ds : List PyData}, DpAll K H vs ds → DpAll K H vs.reverse ds.reverse
  | _, _, .nil => .nil
  | _, _, .cons a h => by
    rw [List.reverse_cons, List.reverse_cons]
    exact dpAll_app (dpAll_rev h) (.cons a .nil)
def cutP (ds : List PyData) (lo hi : Option Int) : List PyData := (ds.drop (HT.sIx ds.length 0 lo)).take (HT.sIx ds.length ds.length hi - HT.sIx ds.length 0 lo)
theorem dpAll_cut {H : Hp} {vs : List V} {ds : List PyData} (lo hi : Option Int) (h : DpAll K H vs ds) : DpAll K H (cutV vs lo hi) (cutP ds lo hi) := by
  have e := dpAll_len h
  unfold cutV cutP
  rw [e]
  exact dpAll_take _ (dpAll_drop _ h)
theorem dp_tupN {H : Hp} {p : Addr} {vs : List V} {ds : List PyData} (hp : H p = none) (h : DpAll K H vs ds) : Dp K (upd H p (.tup vs)) (.ref p) (.tuple ds) :=
  .tup (.inl (.inl upd_same)) (dpAll_mono (fun b o e => upd_get hp e) _ _ h)
theorem dp_lstN {H : Hp} {p : Addr} {vs : List V} {ds : List PyData} (hp : H p = none) (h : DpAll K H vs ds) : Dp K (upd H p (.lst vs)) (.ref p) (.list ds) :=
  .lst (.inl (.inl upd_same)) (dpAll_mono (fun b o e => upd_get hp e) _ _ h)
theorem same_new {H : Hp} {p : Addr} {o : HO} (hp : H p = none) : Same H (upd H p o) := fun b u e => upd_get hp e
theorem pg_tupK {es : List Expr} {k : Nat} {t : TGs} {n : Nat} {pos : Pos} (hK : X.K = K) (hc : X.calm = true) (h : PGs X es t)
    (hn : (assignEach es X.env).length = n := by rfl) (hst : (assignEach es X.env).findIdx? (·.1) = none := by rfl) : PG X (.Tuple es k pos) (gTup K n t) := hK ▸ pg_tup hc h hn hst
/-- t + u -/
def rCatP (K : PySem.W.Frag) : R2 := fun x y H Q => ∃ ds es, Dp K H x (.tuple ds) ∧ Dp K H y (.tuple es) ∧ ds.length + es.length ≤ sizeLine ∧ ∀ z H', Same H H' → Dp K H' z (.tuple (ds ++ es)) → Q z H'
theorem op_catP (hK : X.K = K) : OpR X (binaryOp .Add) (rCatP K) := by
  subst hK
  intro pins s σ H x y v u Q I rx ry h
  obtain ⟨ds, es, hx, hy, hz, q⟩ := h
  cases hx with
  | @tup a xs _ sa ha =>
    cases hy with
    | @tup b ys _ sb hb =>
      have l1 := dpAll_len ha
      have l2 := dpAll_len hb
      refine op_catA pins s σ H _ _ v u Q I rx ry ⟨a, b, xs, ys, rfl, rfl, sa, sb, by omega, fun e => ?_, fun _ e => ?_, fun _ _ p hp => ?_⟩
      · subst e
        cases ha
        exact q _ _ (Same.refl _) (.tup sb hb)
      · subst e
        cases hb
        rw [List.append_nil] at q
        exact q _ _ (Same.refl _) (.tup sa ha)
      · exact q _ _ (same_new hp) (dp_tupN hp (dpAll_app ha hb))
/-- t[lo:hi] -/
def rSlP (K : PySem.W.Frag) : V → Option Int → Option Int → Hp → VK → Prop := fun x lo hi H Q => ∃ ds, Dp K H x (.tuple ds) ∧ ∀ z H', Same H H' → Dp K H' z (.tuple (cutP ds lo hi)) → Q z H'
theorem cutD_all (ds : List PyData) (lo hi : Option Int) (h : HT.sIx ds.length 0 lo = 0 ∧ HT.sIx ds.length ds.length hi = ds.length) : cutP ds lo hi = ds := by
  unfold cutP
  rw [h.1, h.2, List.drop_zero, Nat.sub_zero, List.take_length]
theorem sl_P (hK : X.K = K) : SlR X (rSlP K) := by
  subst hK
  intro pins s σ H x v vl vu lo hi sl Q I rx hs pl pu h
  obtain ⟨ds, hx, q⟩ := h
  cases hx with
  | @tup a xs _ sa ha =>
    have l1 := dpAll_len ha
    refine sl_tupA pins s σ H _ v vl vu lo hi sl Q I rx hs pl pu ⟨a, xs, rfl, sa, fun e => ?_, fun _ p hp => ?_⟩
    · rw [l1] at e
      rw [cutD_all ds lo hi e] at q
      exact q _ _ (Same.refl _) (.tup sa ha)
    · exact q _ _ (same_new hp) (dp_tupN hp (dpAll_cut lo hi ha))
/-- t[i] -/
def rIxP (K : PySem.W.Frag) : R2 := fun x y H Q => ∃ ds i d, Dp K H x (.tuple ds) ∧ y = .int (i : Nat) ∧ ds[i]? = some d ∧ ∀ z, Dp K H z d → Q z H
theorem dpAll_getD {H : Hp} : ∀ {vs : List V} {ds : List PyData}, DpAll K H vs ds → ∀ {i : Nat} {d : PyData}, ds[i]? = some d → ∃ v, vs[i]? = some v ∧ Dp K H v d
  | _, _, .nil, i, d, e => by simp at e
  | _, _, .cons a h, 0, d, e => by simp at e; subst e; exact ⟨_, rfl, a⟩
  | _, _, .cons a h, i + 1, d, e => by
    obtain ⟨v, h1, h2⟩ := dpAll_getD h (i := i) (d := d) (by simpa using e)
    exact ⟨v, by simpa using h1, h2⟩
theorem ix_P (hK : X.K = K) : IxR X (rIxP K) := by
  subst hK
  intro value slice pins s σ H x y v u Q I rx ry h hs
  obtain ⟨ds, i, d, hx, rfl, hd, q⟩ := h
  cases hx with
  | @tup a xs _ sa ha =>
    obtain ⟨z, hz, hzd⟩ := dpAll_getD ha hd
    exact ix_tup value slice pins s σ H _ _ v u Q I rx ry ⟨a, xs, i, z, rfl, rfl, sa, atI_nat hz, q z hzd⟩ hs
/-- t[::-1] -/
def tRevP (K : PySem.W.Frag) (te : TE) : TE := fun σ H Q => te σ H fun x H1 => ∃ ds, Dp K H1 x (.tuple ds) ∧ ∀ z H', Same H1 H' → Dp K H' z (.tuple ds.reverse) → Q z H'
theorem pe_revP {e : Expr} {te : TE} {k : Nat} {p1 p2 p3 pos : Pos} (he : PE X e te) : PE X (.Subscript e (.Slice none none (some (.UnaryOp .USub (.Constant (.int 1) k p1) p2)) p3) pos) (tRevP X.K te) := by
  refine ⟨fun pins s σ H Q I h => ?_⟩
  refine Subscript_ (thn (he.run pins s σ H _ I h) fun v s1 ⟨x, H1, I1, r1, q1⟩ => ?_)
  obtain ⟨ds, hx, q⟩ := q1
  cases hx with
  | @tup a xs _ sa ha =>
    cases r1
    have hst : PO X (some (.UnaryOp .USub (.Constant (.int 1) k p1) p2)) (tPart (tUn (rU fun i => .int (-i)) (tC (.int 1)))) := po_some (pe_un un_neg pe_int)
    refine wpAny_Slice (thn (po_none.run pins s1 σ H1 (fun o H2 => o = none ∧ H2 = H1) I1 ⟨rfl, rfl⟩) fun vl s2 ⟨l, H2, I2, pl, el, e2⟩ => ?_)
    subst el e2
    refine thn (po_none.run pins s2 σ H2 (fun o H3 => o = none ∧ H3 = H2) I2 ⟨rfl, rfl⟩) fun vu s3 ⟨u, H3, I3, pu, eu, e3⟩ => ?_
    subst eu e3
    refine thn (hst.run pins s3 σ H3 (fun o H4 => o = some (-1) ∧ H4 = H3) I3 ⟨1, rfl, -1, rfl, rfl, rfl⟩) fun vs s4 ⟨o, H4, I4, ps, eo, e4⟩ => ?_
    subst eo e4
    have I5 : Inv X pins σ H4 { s4 with heap := s4.heap.push { cls := .type "slice", data := .fields #[vl, vu, vs] } } := I4.kept (t' := s4.toks) fun b ob q => Heap.get?_push_of_some _ q
    obtain ⟨its, r, ht, hz⟩ := I5.tuple sa
    have hlen := r.length
    show wpAny (model X.prog X.w) X.A (subscriptTail e (.Slice none none (some (.UnaryOp .USub (.Constant (.int 1) k p1) p2)) p3) (.ref a) (.ref s4.heap.objs.size)) (EP X pins σ Q) X.xe { s4 with heap := s4.heap.push { cls := .type "slice", data := .fields #[vl, vu, vs] } }
    refine tail_any (ops := [.ref a, .ref s4.heap.objs.size]) ht.typeIs (PyProof.Rows.slot_tuple_getitem.lookup) ?_ (by with_unfolding_all rfl)
    refine getItem_tuple_rev ht (Heap.IsSliceOf.new _ vl vu vs) pl pu ps ?_ (by rw [List.size_toArray]; omega)
    refine ⟨.ref _, _, I5.laid (t' := s4.toks) (o := .tup xs.reverse) (fun b ob q => Heap.get?_push_of_some _ q) (Nat.le_refl _) ?_, rfl, q _ _ (same_new (I5.hok.fresh (Nat.le_refl _))) (dp_tupN (I5.hok.fresh (Nat.le_refl _)) (dpAll_rev ha))⟩
    exact ⟨by rw [List.length_reverse]; exact hz, _, r.reverse, IsTup.new _ _⟩
end
end HG

set_option maxHeartbeats 4000000
/-! HD: data without lists stays, whatever lists and dicts do. -/
namespace HG
open PySem PySem.Spec PyProof.Rows L2 LamX
mutual
def noL : PyData → Bool
  | .list _ => false
  | .dict _ => false
  | .tuple ds => noLAll ds
  | _ => true
def noLAll : List PyData → Bool
  | [] => true
  | d :: ds => noL d && noLAll ds
end
theorem noLAll_mem : ∀ {ds : List PyData}, noLAll ds = true ↔ ∀ d ∈ ds, noL d = true
  | [] => by simp [noLAll]
  | d :: ds => by
    simp only [noLAll, Bool.and_eq_true, List.mem_cons, forall_eq_or_imp, noLAll_mem (ds := ds)]
theorem noL_tup {ds : List PyData} : noL (.tuple ds) = true ↔ ∀ d ∈ ds, noL d = true := by
  simp only [noL]
  exact noLAll_mem
/-- what never changes stays -/
structure KT (H H' : Hp) : Prop where
  t : ∀ b xs, H b = some (.tup xs) → H' b = some (.tup xs)
  f : ∀ b o u, H b = some (.frz o u) → H' b = some (.frz o u)
section
variable {K : PySem.W.Frag} {H H1 H2 : Hp} {a : Addr}
theorem KT.refl (H : Hp) : KT H H := ⟨fun _ _ h => h, fun _ _ _ h => h⟩
theorem KT.trans (x : KT H H1) (y : KT H1 H2) : KT H H2 := ⟨fun b xs h => y.t b xs (x.t b xs h), fun b o u h => y.f b o u (x.f b o u h)⟩
theorem KT.of (s : Same H H1) : KT H H1 := ⟨fun b xs h => s _ _ h, fun b o u h => s _ _ h⟩
theorem KT.ext (s : ExtN H H1) : KT H H1 := ⟨fun b xs h => s _ _ h (fun _ z => by cases z), fun b o u h => s _ _ h (fun _ z => by cases z)⟩
theorem KT.lst {l : List V} {o : HO} (h : H a = some (.lst l)) : KT H (upd H a o) :=
  ⟨fun b xs e => by rw [upd_ne (fun z => by rw [z, h] at e; cases e)]; exact e, fun b o u e => by rw [upd_ne (fun z => by rw [z, h] at e; cases e)]; exact e⟩
theorem KT.dK {l : List (Key × V)} {o : HO} (h : H a = some (.dK l)) : KT H (upd H a o) :=
  ⟨fun b xs e => by rw [upd_ne (fun z => by rw [z, h] at e; cases e)]; exact e, fun b o u e => by rw [upd_ne (fun z => by rw [z, h] at e; cases e)]; exact e⟩
theorem KT.new {o : HO} (h : H a = none) : KT H (upd H a o) := KT.of fun b u e => upd_get h e
mutual
theorem dp_kt (k : KT H H1) : ∀ (D : PyData) (v : V), noL D = true → Dp K H v D → Dp K H1 v D
  | .none, _, _, h => by cases h; exact .non
  | .bool b, _, _, h => by cases h; exact .bl b
  | .int i, _, _, h => by cases h; exact .int i
  | .str x, _, _, h => by cases h; exact .str x
  | .list _, _, n, _ => by simp [noL] at n
  | .dict _, _, n, _ => by simp [noL] at n
  | .tuple ds, _, n, h => by
    cases h with
    | tup s a =>
      refine .tup ?_ (dpAll_kt k ds _ (by simpa only [noL] using n) a)
      rcases s with (s | ⟨o, s⟩) | s
      · exact .inl (.inl (k.t _ _ s))
      · exact .inl (.inr ⟨o, k.f _ _ _ s⟩)
      · exact .inr s
theorem dpAll_kt (k : KT H H1) : ∀ (ds : List PyData) (vs : List V), noLAll ds = true → DpAll K H vs ds → DpAll K H1 vs ds
  | [], _, _, h => by cases h; exact .nil
  | d :: ds, _, n, h => by
    simp only [noLAll, Bool.and_eq_true] at n
    cases h with
    | cons x y => exact .cons (dp_kt k d _ n.1 x) (dpAll_kt k ds _ n.2 y)
end
theorem sqT_kt {xs : List V} (k : KT H H1) (h : SqT K H a xs) : SqT K H1 a xs := by
  rcases h with (s | ⟨o, s⟩) | s
  · exact .inl (.inl (k.t _ _ s))
  · exact .inl (.inr ⟨o, k.f _ _ _ s⟩)
  · exact .inr s
/-- the frames of a function that reads and makes: all that was there stays, but for tables -/
theorem extN_same {H H1 H2 : Hp} (x : ExtN H H1) (y : Same H1 H2) : ExtN H H2 := x.trans (ExtN.of y)
end
theorem cutP_to (ds : List PyData) (i : Nat) : cutP ds none (some (i : Int)) = ds.take i := by
  unfold cutP
  have e1 : HT.sIx ds.length 0 none = 0 := rfl
  rw [e1, HT.sIx_nat, List.drop_zero, Nat.sub_zero]
  by_cases h : i ≤ ds.length
  · rw [Nat.min_eq_left h]
  · rw [Nat.min_eq_right (by omega), List.take_length, List.take_of_length_le (by omega)]
theorem cutP_from (ds : List PyData) (i : Nat) : cutP ds (some (i : Int)) none = ds.drop i := by
  unfold cutP
  have e1 : HT.sIx ds.length ds.length none = ds.length := rfl
  rw [e1, HT.sIx_nat]
  by_cases h : i ≤ ds.length
  · rw [Nat.min_eq_left h, List.take_of_length_le (by rw [List.length_drop]; omega)]
  · rw [Nat.min_eq_right (by omega), List.drop_length, List.drop_of_length_le (by omega), List.take_nil]
section
variable {X : Cx} {K : PySem.W.Frag}
/-- t[-1] -/
def rLastP (K : PySem.W.Frag) : R2 := fun x y H Q => ∃ ds d, Dp K H x (.tuple ds) ∧ y = .int (-1) ∧ ds.getLast? = some d ∧ ∀ z, Dp K H z d → Q z H
theorem ix_lastP (hK : X.K = K) : IxR X (rLastP K) := by
  subst hK
  intro value slice pins s σ H x y v u Q I rx ry h hs
  obtain ⟨ds, d, hx, rfl, hd, q⟩ := h
  cases hx with
  | @tup a xs _ sa ha =>
    have hl := dpAll_len ha
    have hne : 0 < ds.length := by
      cases ds with
      | nil => cases hd
      | cons => simp
    rw [List.getLast?_eq_getElem?] at hd
    obtain ⟨z, hz, hzd⟩ := dpAll_getD ha hd
    refine ix_tup value slice pins s σ H _ _ v u Q I rx ry ⟨a, xs, -1, z, rfl, rfl, sa, ?_, q z hzd⟩ hs
    unfold atI
    have e : ixN xs.length (-1) = some (ds.length - 1) := by
      unfold ixN
      rw [hl]
      have h1 : ¬ (0 ≤ (-1 : Int)) := by omega
      simp
      omega
    rw [e]
    exact hz
end
end HG

set_option maxHeartbeats 4000000
/-! P18: images, and what a machine does with them. -/
namespace P18
open PySem HG
inductive Wv where
  | w (n : Nat)
  | f (k : Nat)
deriving DecidableEq
abbrev Wv.D : Wv → PyData
  | .w n => .int (n : Int)
  | .f k => .tuple [.str "func", .int (k : Int)]
abbrev Wv.n : Wv → Nat
  | .w n => n
  | .f _ => 0
inductive Op where
  | k (n : Nat)
  | v (s : Nat)
abbrev Op.D : Op → PyData
  | .k n => .int (n : Int)
  | .v s => .tuple [.str "var", .int (s : Int)]
abbrev optD : Option Nat → PyData
  | none => .none
  | some t => .int (t : Int)
inductive Rw where
  | op (t : Nat) (x : Str) (a b : Op)
  | pr (a : Op)
  | cw (t n : Nat)
  | cf (t k : Nat)
  | cp (t u : Nat)
  | ld (t c : Nat)
  | st (c : Nat) (a : Op)
  | rd (t r : Nat) (a : Op)
  | wr (r : Nat) (a b : Op)
  | ca (t : Option Nat) (k : Nat) (as : List Op)
  | ap (t : Option Nat) (u : Nat) (a : Op)
  | ha (n : Nat)
  | jp (n : Nat)
  | br (a : Op) (n : Nat)
  | un (u n : Nat)
  | rt (a : Option Op)
abbrev Rw.word : Rw → Str
  | .op .. => "op"
  | .pr .. => "print"
  | .cw .. => "const"
  | .cf .. => "const"
  | .cp .. => "copy"
  | .ld .. => "load"
  | .st .. => "store"
  | .rd .. => "read"
  | .wr .. => "write"
  | .ca .. => "call"
  | .ap .. => "apply"
  | .ha .. => "halt"
  | .jp .. => "jump"
  | .br .. => "branch"
  | .un .. => "unless"
  | .rt .. => "return"
abbrev Rw.ps : Rw → List PyData
  | .op t x a b => [.int (t : Int), .str x, a.D, b.D]
  | .pr a => [a.D]
  | .cw t n => [.int (t : Int), .int (n : Int)]
  | .cf t k => [.int (t : Int), (Wv.f k).D]
  | .cp t u => [.int (t : Int), .int (u : Int)]
  | .ld t c => [.int (t : Int), .int (c : Int)]
  | .st c a => [.int (c : Int), a.D]
  | .rd t r a => [.int (t : Int), .int (r : Int), a.D]
  | .wr r a b => [.int (r : Int), a.D, b.D]
  | .ca t k as => [optD t, .int (k : Int), .tuple (as.map Op.D)]
  | .ap t u a => [optD t, .int (u : Int), .tuple [a.D]]
  | .ha n => [.int (n : Int)]
  | .jp n => [.int (n : Int)]
  | .br a n => [a.D, .int (n : Int)]
  | .un u n => [(Op.v u).D, .int (n : Int)]
  | .rt none => [.none]
  | .rt (some a) => [a.D]
abbrev Rw.D (R : Rw) : PyData := .tuple (.str R.word :: R.ps)
structure Cd where
  ps : List Nat
  ret : Bool
  rows : List Rw
abbrev nD (n : Nat) : PyData := .int (n : Int)
abbrev Cd.D (c : Cd) : PyData := .tuple [.tuple (c.ps.map nD), .bool c.ret, .tuple (c.rows.map Rw.D)]
structure Im where
  codes : List Cd
  ga : Nat
  gf : Nat
  ta : List Nat
  tf : Nat
  starts : List Nat
  entries : List (Str × Nat × Nat)
abbrev enD (e : Str × Nat × Nat) : PyData := .tuple [.str e.1, .int (e.2.1 : Int), .int (e.2.2 : Int)]
abbrev Im.D (im : Im) : PyData := .tuple [.tuple (im.codes.map Cd.D), .tuple [.tuple [.str "ga", nD im.ga], .tuple [.str "gf", (Wv.f im.gf).D]], .tuple [.tuple [.str "ta", .tuple (im.ta.map nD)], .tuple [.str "tf", .tuple [(Wv.f im.tf).D]]], .tuple (im.starts.map nD), .tuple (im.entries.map enD)]
/-! ### what images are -/
abbrev ops8 : List Str := ["add", "sub", "mul", "div", "rem", "less", "same", "xor"]
def Single (im : Im) (k : Nat) : Prop := ∃ cd, im.codes[k]? = some cd ∧ cd.ret = true ∧ ∃ p, cd.ps = [p]
def OpOk : Op → Prop
  | .k n => n < 65536
  | .v s => s < 4
def TOk (t : Option Nat) (ret : Bool) : Prop := ∀ s, t = some s → s < 4 ∧ ret = true
def RwOk (im : Im) (pc size : Nat) (ret : Bool) : Rw → Prop
  | .op t x a b => 2 ≤ pc ∧ pc + 1 < size ∧ t < 4 ∧ x ∈ ops8 ∧ OpOk a ∧ OpOk b
  | .pr a => 2 ≤ pc ∧ pc + 1 < size ∧ OpOk a
  | .cw t n => 2 ≤ pc ∧ pc + 1 < size ∧ t < 4 ∧ n < 65536
  | .cf t k => pc < 2 ∧ pc + 1 < size ∧ t = 8 + pc ∧ Single im k
  | .cp t u => 2 ≤ pc ∧ pc + 1 < size ∧ ((t < 4 ∧ u < 4) ∨ (t = 9 ∧ u = 8))
  | .ld t c => 2 ≤ pc ∧ pc + 1 < size ∧ ((t < 4 ∧ c = 0) ∨ (t = 8 ∧ c = 1))
  | .st c a => 2 ≤ pc ∧ pc + 1 < size ∧ ((c = 0 ∧ OpOk a) ∨ (c = 1 ∧ a = .v 9))
  | .rd t r a => 2 ≤ pc ∧ pc + 1 < size ∧ ((t < 4 ∧ r = 0 ∧ OpOk a) ∨ (t = 9 ∧ r = 1 ∧ a = .k 0))
  | .wr r a b => 2 ≤ pc ∧ pc + 1 < size ∧ r = 0 ∧ OpOk a ∧ OpOk b
  | .ca t k as => 2 ≤ pc ∧ pc + 1 < size ∧ ∃ cd, im.codes[k]? = some cd ∧ TOk t cd.ret ∧ as.length = cd.ps.length ∧ ∀ a ∈ as, OpOk a
  | .ap t u a => 2 ≤ pc ∧ pc + 1 < size ∧ (∀ s, t = some s → s < 4) ∧ (u = 8 ∨ u = 9) ∧ OpOk a
  | .ha n => 2 ≤ pc ∧ pc + 1 < size ∧ n < 65536
  | .jp n => 2 ≤ pc ∧ pc + 1 < size ∧ n < size
  | .br a n => 2 ≤ pc ∧ pc + 1 < size ∧ OpOk a ∧ n < size
  | .un u n => 2 ≤ pc ∧ pc + 1 < size ∧ u < 4 ∧ n < size
  | .rt a => 2 ≤ pc ∧ (ret = true ↔ a.isSome = true) ∧ ∀ o, a = some o → OpOk o
structure CdOk (im : Im) (cd : Cd) : Prop where
  ps : cd.ps.length ≤ 4 ∧ cd.ps.Nodup ∧ ∀ s ∈ cd.ps, s < 4
  size : 3 ≤ cd.rows.length ∧ cd.rows.length ≤ 12
  rows : ∀ (pc : Nat) (R : Rw), cd.rows[pc]? = some R → RwOk im pc cd.rows.length cd.ret R
structure ImOk (im : Im) : Prop where
  codes : ∀ cd ∈ im.codes, CdOk im cd
  len : im.codes.length ≤ 5
  ga : im.ga < 65536
  gf : Single im im.gf
  ta : im.ta ≠ [] ∧ im.ta.length ≤ 3 ∧ ∀ n ∈ im.ta, n < 65536
  tf : Single im im.tf
  starts : im.starts.length ≤ 2 ∧ ∀ k ∈ im.starts, ∃ cd, im.codes[k]? = some cd ∧ cd.ret = true ∧ cd.ps = []
  entries : im.entries.length ≤ 5 ∧ ((im.entries.map (·.1)).Nodup) ∧ ∀ e ∈ im.entries, ∃ cd, im.codes[e.2.1]? = some cd ∧ cd.ret = true ∧ cd.ps.length = e.2.2
/-! ### runs -/
structure Fm where
  k : Nat
  pc : Nat
  h : Nat → Wv
  t : Option Nat
structure Ms where
  fr : List Fm
  c0 : Wv
  c1 : Wv
  r0 : List Nat
  r1 : Nat
  calls : List (Nat × List Nat)
inductive Fin where
  | trap (x : Str)
  | halted (n : Nat)
  | returned (n : Nat)
abbrev Fin.D : Fin → PyData
  | .trap x => .tuple [.str "trap", .str x]
  | .halted n => .tuple [.str "halted", .int (n : Int)]
  | .returned n => .tuple [.str "returned", .int (n : Int)]
inductive Out where
  | go (s : Ms) (p : Option Nat)
  | stop (e : Fin)
def comp (x : Str) (a b : Nat) : Option Nat :=
  if x = "less" then some (if a < b then 1 else 0)
  else if x = "same" then some (if a = b then 1 else 0)
  else if x = "div" then (if b = 0 then none else some (a / b))
  else if x = "rem" then (if b = 0 then none else some (a % b))
  else if x = "xor" then some (a ^^^ b)
  else if x = "add" then some ((a + b) % 65536)
  else if x = "sub" then some ((((a : Int) - b) % 65536).toNat)
  else some (a * b % 65536)
def worth (h : Nat → Wv) : Op → Wv
  | .k n => .w n
  | .v s => h s
def hput (h : Nat → Wv) (t : Nat) (v : Wv) : Nat → Wv := fun s => if s = t then v else h s
def bind : List Nat → List Wv → Nat → Wv
  | p :: ps, v :: vs, s => if s = p then v else bind ps vs s
  | _, _, _ => .w 0
def psOf (im : Im) (k : Nat) : List Nat := ((im.codes[k]?).map Cd.ps).getD []
def entered (im : Im) (k : Nat) (vs : List Wv) (t : Option Nat) : Fm := ⟨k, 0, bind (psOf im k) vs, t⟩
def left (im : Im) (s : Ms) (r : List Fm) (t : Option Nat) (v : Option Wv) : Out :=
  match r with
  | g :: r' => .go { s with fr := (match t, v with | some t, some v => { g with h := hput g.h t v } | _, _ => g) :: r' } none
  | [] => match s.calls with
    | (k, ws) :: cs => .go { s with fr := [entered im k (ws.map Wv.w) none], calls := cs } none
    | [] => .stop (.returned ((v.map Wv.n).getD 0))
def stepR (im : Im) (s : Ms) (f : Fm) (r : List Fm) : Rw → Out
  | .op t x a b => match comp x (worth f.h a).n (worth f.h b).n with
    | none => .stop (.trap "zero")
    | some n => .go { s with fr := { f with h := hput f.h t (.w n) } :: r } none
  | .pr a => .go { s with fr := f :: r } (some (worth f.h a).n)
  | .cw t n => .go { s with fr := { f with h := hput f.h t (.w n) } :: r } none
  | .cf t k => .go { s with fr := { f with h := hput f.h t (.f k) } :: r } none
  | .cp t u => .go { s with fr := { f with h := hput f.h t (f.h u) } :: r } none
  | .ld t c => .go { s with fr := { f with h := hput f.h t (if c = 0 then s.c0 else s.c1) } :: r } none
  | .st c a => .go (if c = 0 then { s with fr := f :: r, c0 := worth f.h a } else { s with fr := f :: r, c1 := worth f.h a }) none
  | .rd t c a => if c = 0 then (if (worth f.h a).n < s.r0.length then .go { s with fr := { f with h := hput f.h t (.w (s.r0.getD (worth f.h a).n 0)) } :: r } none else .stop (.trap "bounds"))
      else .go { s with fr := { f with h := hput f.h t (.f s.r1) } :: r } none
  | .wr _ a b => if (worth f.h a).n < s.r0.length then .go { s with fr := f :: r, r0 := s.r0.set (worth f.h a).n (worth f.h b).n } none else .stop (.trap "bounds")
  | .ca t k as => .go { s with fr := entered im k (as.map (worth f.h)) t :: f :: r } none
  | .ap t u a => match f.h u with
    | .f k => .go { s with fr := entered im k [worth f.h a] t :: f :: r } none
    | .w _ => .stop (.halted 0)
  | .ha n => .stop (.halted n)
  | .jp n => .go { s with fr := { f with pc := n } :: r } none
  | .br a n => .go { s with fr := (if (worth f.h a).n = 0 then f else { f with pc := n }) :: r } none
  | .un u n => .go { s with fr := (if (f.h u).n = 0 then { f with pc := n } else f) :: r } none
  | .rt a => left im s r f.t (a.map (worth f.h))
def rowAt (im : Im) (k pc : Nat) : Option Rw := (im.codes[k]?).bind fun cd => cd.rows[pc]?
def step (im : Im) (s : Ms) : Out :=
  match s.fr with
  | [] => .stop (.halted 0)
  | f :: r => match rowAt im f.k f.pc with
    | none => .stop (.halted 0)
    | some R => stepR im s { f with pc := f.pc + 1 } r R
def begun (im : Im) (k : Nat) (ws : List Nat) : Ms :=
  match im.starts with
  | [] => ⟨[entered im k (ws.map Wv.w) none], .w im.ga, .f im.gf, im.ta, im.tf, []⟩
  | a :: r => ⟨[entered im a [] none], .w im.ga, .f im.gf, im.ta, im.tf, r.map (fun b => (b, [])) ++ [(k, ws)]⟩
inductive Res where
  | at (s : Ms)
  | fin (e : Fin)
def runs (im : Im) (s : Ms) : Nat → List Nat × Res
  | 0 => ([], .at s)
  | n + 1 => match runs im s n with
    | (ps, .fin e) => (ps, .fin e)
    | (ps, .at s) => match step im s with
      | .go s' p => (ps ++ p.toList, .at s')
      | .stop e => (ps, .fin e)
/-! ### states that may come -/
def WOk (v : Wv) : Prop := ∃ n, v = .w n ∧ n < 65536
def FOk (im : Im) (v : Wv) : Prop := ∃ k, v = .f k ∧ Single im k
structure HOk (im : Im) (pc : Nat) (h : Nat → Wv) : Prop where
  w : ∀ s, s < 4 → WOk (h s)
  f8 : 1 ≤ pc → FOk im (h 8)
  f9 : 2 ≤ pc → FOk im (h 9)
structure FmOk (im : Im) (f : Fm) (cd : Cd) : Prop where
  code : im.codes[f.k]? = some cd
  pc : f.pc < cd.rows.length
  h : HOk im f.pc f.h
def StOk (im : Im) : List Fm → Prop
  | [] => True
  | [f] => f.t = none ∧ ∃ cd, FmOk im f cd ∧ cd.ret = true
  | f :: r => (∃ cd, FmOk im f cd ∧ TOk f.t cd.ret) ∧ StOk im r
structure MsOk (im : Im) (s : Ms) : Prop where
  ne : s.fr ≠ []
  fr : StOk im s.fr
  c0 : WOk s.c0
  c1 : FOk im s.c1
  r0 : s.r0.length = im.ta.length ∧ ∀ n ∈ s.r0, n < 65536
  r1 : Single im s.r1
  calls : s.calls.length ≤ 3 ∧ ∀ p ∈ s.calls, ∃ cd, im.codes[p.1]? = some cd ∧ cd.ret = true ∧ p.2.length = cd.ps.length ∧ ∀ n ∈ p.2, n < 65536
theorem comp_lt {x : Str} {a b n : Nat} (ha : a < 65536) (hb : b < 65536) (h : comp x a b = some n) : n < 65536 := by
  unfold comp at h
  split at h
  · cases h; split <;> decide
  split at h
  · cases h; split <;> decide
  split at h
  · split at h
    · cases h
    · cases h; exact Nat.lt_of_le_of_lt (Nat.div_le_self _ _) ha
  split at h
  · split at h
    · cases h
    · cases h; exact Nat.lt_of_le_of_lt (Nat.mod_le _ _) ha
  split at h
  · cases h
    exact Nat.xor_lt_two_pow (n := 16) ha hb
  split at h
  · cases h; omega
  split at h
  · cases h; omega
  · cases h
    omega
theorem hput_same {h : Nat → Wv} {t : Nat} {v : Wv} : hput h t v t = v := if_pos rfl
theorem hput_ne {h : Nat → Wv} {s t : Nat} {v : Wv} (n : s ≠ t) : hput h t v s = h s := if_neg n
theorem StOk.cons {im : Im} {f : Fm} {r : List Fm} (hr : r ≠ []) : StOk im (f :: r) ↔ (∃ cd, FmOk im f cd ∧ TOk f.t cd.ret) ∧ StOk im r := by
  cases r with
  | nil => exact absurd rfl hr
  | cons g r => exact Iff.rfl
/-- another top frame, alike -/
theorem StOk.top {im : Im} {f g : Fm} {r : List Fm} {cd : Cd} (h : StOk im (f :: r)) (hf : FmOk im f cd) (hk : g.k = f.k) (ht : g.t = f.t) (hg : g.pc < cd.rows.length) (hh : HOk im g.pc g.h) : StOk im (g :: r) := by
  have e : FmOk im g cd := ⟨hk ▸ hf.code, hg, hh⟩
  have u : ∀ cd', im.codes[f.k]? = some cd' → cd' = cd := fun cd' z => by rw [hf.code] at z; exact (Option.some.inj z).symm
  cases r with
  | nil =>
    obtain ⟨h1, cd', h2, h3⟩ := h
    exact ⟨ht.trans h1, cd, e, u _ h2.code ▸ h3⟩
  | cons b r =>
    obtain ⟨⟨cd', h2, h3⟩, h4⟩ := h
    exact ⟨⟨cd, e, by rw [ht, ← u _ h2.code]; exact h3⟩, h4⟩
theorem worth_ok {im : Im} {pc : Nat} {h : Nat → Wv} {a : Op} (H : HOk im pc h) (ha : OpOk a) : WOk (worth h a) := by
  cases a with
  | k n => exact ⟨n, rfl, ha⟩
  | v s => exact H.w s ha
theorem WOk.n {v : Wv} (h : WOk v) : v = .w v.n ∧ v.n < 65536 := by
  obtain ⟨n, rfl, hn⟩ := h
  exact ⟨rfl, hn⟩
theorem bind_ok : ∀ {ps : List Nat} {vs : List Wv} (s : Nat), (∀ v ∈ vs, WOk v) → WOk (bind ps vs s)
  | [], _, _, _ => ⟨0, rfl, by decide⟩
  | _ :: _, [], _, _ => ⟨0, rfl, by decide⟩
  | p :: ps, v :: vs, s, h => by
    unfold bind
    split
    · exact h v List.mem_cons_self
    · exact bind_ok s fun u hu => h u (List.mem_cons_of_mem _ hu)
theorem entered_ok {im : Im} (I : ImOk im) {k : Nat} {cd : Cd} {vs : List Wv} {t : Option Nat} (hc : im.codes[k]? = some cd) (hv : ∀ v ∈ vs, WOk v) : FmOk im (entered im k vs t) cd := by
  have := (I.codes cd (List.mem_of_getElem? hc)).size
  exact ⟨hc, by show 0 < _; omega, ⟨fun s _ => bind_ok s hv, fun h => absurd h (by show ¬ 1 ≤ 0; omega), fun h => absurd h (by show ¬ 2 ≤ 0; omega)⟩⟩
theorem HOk.put4 {im : Im} {pc pc' t : Nat} {h : Nat → Wv} {v : Wv} (H : HOk im pc h) (h2 : 2 ≤ pc) (ht : t < 4) (hv : WOk v) : HOk im pc' (hput h t v) :=
  ⟨fun s hs => by
    by_cases e : s = t
    · rw [e, hput_same]; exact hv
    · rw [hput_ne e]; exact H.w s hs, fun _ => by rw [hput_ne (by omega)]; exact H.f8 (by omega), fun _ => by rw [hput_ne (by omega)]; exact H.f9 (by omega)⟩
theorem HOk.put8 {im : Im} {pc pc' t : Nat} {h : Nat → Wv} {v : Wv} (H : HOk im pc h) (h2 : 2 ≤ pc) (ht : t = 8 ∨ t = 9) (hv : FOk im v) : HOk im pc' (hput h t v) :=
  ⟨fun s hs => by rw [hput_ne (by omega)]; exact H.w s hs, fun _ => by
    rcases ht with rfl | rfl
    · rw [hput_same]; exact hv
    · rw [hput_ne (by omega)]; exact H.f8 (by omega), fun _ => by
    rcases ht with rfl | rfl
    · rw [hput_ne (by omega)]; exact H.f9 (by omega)
    · rw [hput_same]; exact hv⟩
theorem HOk.up {im : Im} {pc pc' : Nat} {h : Nat → Wv} (H : HOk im pc h) (h2 : 2 ≤ pc) : HOk im pc' h := ⟨H.w, fun _ => H.f8 (by omega), fun _ => H.f9 (by omega)⟩
/-- what a row of a code may do -/
def OutOk (im : Im) : Out → Prop
  | .go s _ => MsOk im s
  | .stop _ => True
theorem top_fm {im : Im} {f : Fm} {r : List Fm} (h : StOk im (f :: r)) : ∃ cd, FmOk im f cd ∧ TOk f.t cd.ret ∧ (r = [] → f.t = none ∧ cd.ret = true) := by
  cases r with
  | nil =>
    obtain ⟨h1, cd, h2, h3⟩ := h
    exact ⟨cd, h2, (fun s hs => by rw [h1] at hs; cases hs), fun _ => ⟨h1, h3⟩⟩
  | cons b r =>
    obtain ⟨⟨cd, h2, h3⟩, h4⟩ := h
    exact ⟨cd, h2, h3, fun e => nomatch e⟩
theorem StOk.tail {im : Im} {f : Fm} {r : List Fm} (h : StOk im (f :: r)) : StOk im r := by
  cases r with
  | nil => exact True.intro
  | cons b r => exact h.2
theorem step_ok {im : Im} (I : ImOk im) {s : Ms} (S : MsOk im s) : OutOk im (step im s) := by
  unfold step
  cases ef : s.fr with
  | nil => exact True.intro
  | cons f r =>
    have hst := S.fr
    rw [ef] at hst
    obtain ⟨cd, hf, ht, hb⟩ := top_fm hst
    have er : rowAt im f.k f.pc = some (cd.rows[f.pc]'hf.pc) := by
      unfold rowAt
      rw [hf.code]
      exact List.getElem?_eq_getElem hf.pc
    have hrow := (I.codes cd (List.mem_of_getElem? hf.code)).rows f.pc _ (List.getElem?_eq_getElem hf.pc)
    show OutOk im (match rowAt im f.k f.pc with | none => .stop (.halted 0) | some R => stepR im s { f with pc := f.pc + 1 } r R)
    rw [er]
    show OutOk im (stepR im s { f with pc := f.pc + 1 } r (cd.rows[f.pc]'hf.pc))
    generalize (cd.rows[f.pc]'hf.pc) = R at hrow
    -- another top frame
    have tp : ∀ (pc : Nat) (h : Nat → Wv), pc < cd.rows.length → HOk im pc h → StOk im ({ f with pc := pc, h := h } :: r) := fun pc h h1 h2 => hst.top hf rfl rfl h1 h2
    have st1 : ∀ (pc : Nat) (h : Nat → Wv), pc < cd.rows.length → HOk im pc h → MsOk im { s with fr := { f with pc := pc, h := h } :: r } := fun pc h h1 h2 => ⟨List.cons_ne_nil _ _, tp pc h h1 h2, S.c0, S.c1, S.r0, S.r1, S.calls⟩
    have push : ∀ (k : Nat) (vs : List Wv) (t : Option Nat) (cd2 : Cd), im.codes[k]? = some cd2 → (∀ v ∈ vs, WOk v) → TOk t cd2.ret → f.pc + 1 < cd.rows.length → 2 ≤ f.pc → MsOk im { s with fr := entered im k vs t :: { f with pc := f.pc + 1 } :: r } := fun k vs t cd2 h1 h2 h3 h4 h5 =>
      ⟨List.cons_ne_nil _ _, ⟨⟨cd2, entered_ok I h1 h2, h3⟩, tp _ _ h4 (hf.h.up h5)⟩, S.c0, S.c1, S.r0, S.r1, S.calls⟩
    have hh := hf.h
    cases R with
    | op t x a b =>
      obtain ⟨h2, h3, h4, h5, h6, h7⟩ := hrow
      show OutOk im (match comp x (worth f.h a).n (worth f.h b).n with | none => .stop (.trap "zero") | some n => .go { s with fr := { f with pc := f.pc + 1, h := hput f.h t (.w n) } :: r } none)
      cases ec : comp x (worth f.h a).n (worth f.h b).n with
      | none => exact True.intro
      | some n => exact st1 _ _ h3 (hh.put4 h2 h4 ⟨n, rfl, comp_lt (worth_ok hh h6).n.2 (worth_ok hh h7).n.2 ec⟩)
    | pr a => exact st1 _ _ hrow.2.1 (hh.up hrow.1)
    | cw t n => exact st1 _ _ hrow.2.1 (hh.put4 hrow.1 hrow.2.2.1 ⟨n, rfl, hrow.2.2.2⟩)
    | cf t k =>
      obtain ⟨h2, h3, rfl, h5⟩ := hrow
      refine st1 _ _ h3 ⟨fun s hs => by rw [hput_ne (by omega)]; exact hh.w s hs, fun _ => ?_, fun h => ?_⟩
      · by_cases e : f.pc = 0
        · rw [e]; exact ⟨k, hput_same, h5⟩
        · rw [hput_ne (by omega)]; exact hh.f8 (by omega)
      · have h : 2 ≤ f.pc + 1 := h
        have e : f.pc = 1 := by omega
        rw [e]
        exact ⟨k, hput_same, h5⟩
    | cp t u =>
      obtain ⟨h2, h3, h4⟩ := hrow
      rcases h4 with ⟨h4, h5⟩ | ⟨rfl, rfl⟩
      · exact st1 _ _ h3 (hh.put4 h2 h4 (hh.w u h5))
      · exact st1 _ _ h3 (hh.put8 h2 (.inr rfl) (hh.f8 (by omega)))
    | ld t c =>
      obtain ⟨h2, h3, h4⟩ := hrow
      rcases h4 with ⟨h4, rfl⟩ | ⟨rfl, rfl⟩
      · exact st1 _ _ h3 (hh.put4 h2 h4 S.c0)
      · exact st1 _ _ h3 (hh.put8 h2 (.inl rfl) S.c1)
    | st c a =>
      obtain ⟨h2, h3, h4⟩ := hrow
      rcases h4 with ⟨rfl, h4⟩ | ⟨rfl, rfl⟩
      · exact ⟨List.cons_ne_nil _ _, tp _ _ h3 (hh.up h2), worth_ok hh h4, S.c1, S.r0, S.r1, S.calls⟩
      · exact ⟨List.cons_ne_nil _ _, tp _ _ h3 (hh.up h2), S.c0, hh.f9 (by omega), S.r0, S.r1, S.calls⟩
    | rd t c a =>
      obtain ⟨h2, h3, h4⟩ := hrow
      rcases h4 with ⟨h4, rfl, h5⟩ | ⟨rfl, rfl, rfl⟩
      · show OutOk im (if (worth f.h a).n < s.r0.length then .go { s with fr := { f with pc := f.pc + 1, h := hput f.h t (.w (s.r0.getD (worth f.h a).n 0)) } :: r } none else .stop (.trap "bounds"))
        split
        · rename_i hl
          refine st1 _ _ h3 (hh.put4 h2 h4 ⟨_, rfl, ?_⟩)
          rw [List.getD_eq_getElem?_getD, List.getElem?_eq_getElem hl]
          exact S.r0.2 _ (List.getElem_mem hl)
        · exact True.intro
      · exact st1 _ _ h3 (hh.put8 h2 (.inr rfl) ⟨_, rfl, S.r1⟩)
    | wr c a b =>
      obtain ⟨h2, h3, h4, h5, h6⟩ := hrow
      show OutOk im (if (worth f.h a).n < s.r0.length then .go { s with fr := { f with pc := f.pc + 1 } :: r, r0 := s.r0.set (worth f.h a).n (worth f.h b).n } none else .stop (.trap "bounds"))
      split
      · refine ⟨List.cons_ne_nil _ _, tp _ _ h3 (hh.up h2), S.c0, S.c1, ⟨by rw [List.length_set]; exact S.r0.1, fun n hn => ?_⟩, S.r1, S.calls⟩
        rcases List.mem_or_eq_of_mem_set hn with hn | rfl
        · exact S.r0.2 n hn
        · exact (worth_ok hh h6).n.2
      · exact True.intro
    | ca t k as =>
      obtain ⟨h2, h3, cd2, h4, h5, h6, h7⟩ := hrow
      refine push k _ t cd2 h4 (fun v hv => ?_) h5 h3 h2
      obtain ⟨a, ha, rfl⟩ := List.mem_map.mp hv
      exact worth_ok hh (h7 a ha)
    | ap t u a =>
      obtain ⟨h2, h3, h4, h5, h6⟩ := hrow
      have hfu : FOk im (f.h u) := by
        rcases h5 with rfl | rfl
        · exact hh.f8 (by omega)
        · exact hh.f9 (by omega)
      obtain ⟨k, ek, cd2, hc2, hr2, _⟩ := hfu
      show OutOk im (match f.h u with | .f k => .go { s with fr := entered im k [worth f.h a] t :: { f with pc := f.pc + 1 } :: r } none | .w _ => .stop (.halted 0))
      rw [ek]
      refine push k _ t cd2 hc2 (fun v hv => ?_) (fun s hs => ⟨h4 s hs, hr2⟩) h3 h2
      rw [List.mem_singleton.mp hv]
      exact worth_ok hh h6
    | ha n => exact True.intro
    | jp n => exact st1 _ _ hrow.2.2 (hh.up hrow.1)
    | br a n =>
      obtain ⟨h2, h3, h4, h5⟩ := hrow
      show MsOk im { s with fr := (if (worth f.h a).n = 0 then { f with pc := f.pc + 1 } else { f with pc := n }) :: r }
      split
      · exact st1 _ _ h3 (hh.up h2)
      · exact st1 _ _ h5 (hh.up h2)
    | un u n =>
      obtain ⟨h2, h3, h4, h5⟩ := hrow
      show MsOk im { s with fr := (if (f.h u).n = 0 then { f with pc := n } else { f with pc := f.pc + 1 }) :: r }
      split
      · exact st1 _ _ h5 (hh.up h2)
      · exact st1 _ _ h3 (hh.up h2)
    | rt a =>
      obtain ⟨h2, h3, h4⟩ := hrow
      show OutOk im (left im s r f.t (a.map (worth f.h)))
      unfold left
      have hrs := hst.tail
      cases r with
      | nil =>
        show OutOk im (match s.calls with | (k, ws) :: cs => .go { s with fr := [entered im k (ws.map Wv.w) none], calls := cs } none | [] => _)
        cases ec : s.calls with
        | nil => exact True.intro
        | cons p cs =>
          obtain ⟨k, ws⟩ := p
          have hc := S.calls
          rw [ec] at hc
          obtain ⟨cd2, h5, h6, h7, h8⟩ := hc.2 (k, ws) List.mem_cons_self
          refine ⟨List.cons_ne_nil _ _, ⟨rfl, cd2, entered_ok I h5 fun v hv => ?_, h6⟩, S.c0, S.c1, S.r0, S.r1, ⟨by have := hc.1; rw [List.length_cons] at this; show cs.length ≤ 3; omega, fun p hp => hc.2 p (List.mem_cons_of_mem _ hp)⟩⟩
          obtain ⟨n, hn, rfl⟩ := List.mem_map.mp hv
          exact ⟨n, rfl, h8 n hn⟩
      | cons g r' =>
        obtain ⟨cdg, hg, htg, _⟩ := top_fm hrs
        show MsOk im { s with fr := (match f.t, a.map (worth f.h) with | some t, some v => { g with h := hput g.h t v } | _, _ => g) :: r' }
        refine ⟨List.cons_ne_nil _ _, ?_, S.c0, S.c1, S.r0, S.r1, S.calls⟩
        show StOk im ((match f.t, a.map (worth f.h) with | some t, some v => { g with h := hput g.h t v } | _, _ => g) :: r')
        cases et : f.t with
        | none => exact hrs
        | some t =>
          cases a with
          | none => exact hrs
          | some o =>
            have h5 := ht t et
            have hw := worth_ok hh (h4 o rfl)
            refine hrs.top hg rfl rfl hg.pc ⟨fun s hs => ?_, fun h => ?_, fun h => ?_⟩
            · show WOk (hput g.h t (worth f.h o) s)
              by_cases e : s = t
              · rw [e, hput_same]; exact hw
              · rw [hput_ne e]; exact hg.h.w s hs
            · show FOk im (hput g.h t (worth f.h o) 8)
              rw [hput_ne (by omega)]; exact hg.h.f8 h
            · show FOk im (hput g.h t (worth f.h o) 9)
              rw [hput_ne (by omega)]; exact hg.h.f9 h
theorem begun_ok {im : Im} (I : ImOk im) {k : Nat} {ws : List Nat} {cd : Cd} (hc : im.codes[k]? = some cd) (hr : cd.ret = true) (hl : ws.length = cd.ps.length) (hw : ∀ n ∈ ws, n < 65536) : MsOk im (begun im k ws) := by
  have hs := I.starts
  unfold begun
  cases es : im.starts with
  | nil =>
    refine ⟨List.cons_ne_nil _ _, ⟨rfl, cd, entered_ok I hc fun v hv => ?_, hr⟩, ⟨_, rfl, I.ga⟩, ⟨_, rfl, I.gf⟩, ⟨rfl, I.ta.2.2⟩, I.tf, ⟨Nat.zero_le _, fun _ h => nomatch h⟩⟩
    obtain ⟨n, hn, rfl⟩ := List.mem_map.mp hv
    exact ⟨n, rfl, hw n hn⟩
  | cons a r =>
    rw [es] at hs
    obtain ⟨cd1, h1, h2, h3⟩ := hs.2 a List.mem_cons_self
    refine ⟨List.cons_ne_nil _ _, ⟨rfl, cd1, entered_ok I h1 (fun v hv => nomatch hv), h2⟩, ⟨_, rfl, I.ga⟩, ⟨_, rfl, I.gf⟩, ⟨rfl, I.ta.2.2⟩, I.tf, ⟨?_, fun p hp => ?_⟩⟩
    · have := hs.1
      simp only [List.length_cons, List.length_append, List.length_map, List.length_nil] at this ⊢
      omega
    · rcases List.mem_append.mp hp with hp | hp
      · obtain ⟨b, hb, rfl⟩ := List.mem_map.mp hp
        obtain ⟨cd2, h4, h5, h6⟩ := hs.2 b (List.mem_cons_of_mem _ hb)
        exact ⟨cd2, h4, h5, by rw [h6], fun _ h => nomatch h⟩
      · rw [List.mem_singleton.mp hp]
        exact ⟨cd, hc, hr, hl, hw⟩
/-! ### runs -/
theorem runs_ok {im : Im} (I : ImOk im) {s : Ms} (S : MsOk im s) : ∀ n s', (runs im s n).2 = .at s' → MsOk im s'
  | 0, s', h => by
    cases h
    exact S
  | n + 1, s', h => by
    have ih := runs_ok I S n
    unfold runs at h
    revert h ih
    rcases runs im s n with ⟨ps, u | e⟩
    · intro ih h
      have S' := step_ok I (ih u rfl)
      have h : (match step im u with | .go s' p => (ps ++ p.toList, Res.at s') | .stop e => (ps, .fin e)).2 = .at s' := h
      revert h S'
      rcases step im u with ⟨v, p⟩ | e
      · intro S' h
        cases h
        exact S'
      · intro _ h
        cases h
    · intro _ h
      cases h
theorem runs_len {im : Im} {s : Ms} : ∀ n, (runs im s n).1.length ≤ n
  | 0 => Nat.le_refl _
  | n + 1 => by
    have ih := runs_len (im := im) (s := s) n
    unfold runs
    revert ih
    rcases runs im s n with ⟨ps, u | e⟩
    · intro ih
      have ih : ps.length ≤ n := ih
      show (match step im u with | .go s' p => (ps ++ p.toList, Res.at s') | .stop e => (ps, .fin e)).1.length ≤ n + 1
      rcases step im u with ⟨v, p⟩ | e
      · show (ps ++ p.toList).length ≤ n + 1
        rw [List.length_append]
        cases p <;> simp only [Option.toList, List.length_nil, List.length_cons] <;> omega
      · exact Nat.le_succ_of_le ih
    · intro ih
      exact Nat.le_succ_of_le ih
theorem runs_more {im : Im} {s : Ms} (m : Nat) : ∀ d, ∃ zs, (runs im s (m + d)).1 = (runs im s m).1 ++ zs
  | 0 => ⟨[], (List.append_nil _).symm⟩
  | d + 1 => by
    obtain ⟨zs, ih⟩ := runs_more (im := im) (s := s) m d
    show ∃ zs, (match runs im s (m + d) with | (ps, .fin e) => (ps, Res.fin e) | (ps, .at s) => match step im s with | .go s' p => (ps ++ p.toList, .at s') | .stop e => (ps, .fin e)).1 = _
    revert ih
    rcases runs im s (m + d) with ⟨ps, u | e⟩
    · intro ih
      have ih : ps = _ := ih
      show ∃ zs, (match step im u with | .go s' p => (ps ++ p.toList, Res.at s') | .stop e => (ps, .fin e)).1 = _
      rcases step im u with ⟨v, p⟩ | e
      · exact ⟨zs ++ p.toList, by rw [← List.append_assoc, ← ih]⟩
      · exact ⟨zs, ih⟩
    · intro ih
      exact ⟨zs, ih⟩
/-- the prints of a shorter run -/
theorem runs_take {im : Im} {s : Ms} {m n : Nat} (h : m ≤ n) : (runs im s n).1.take (runs im s m).1.length = (runs im s m).1 := by
  obtain ⟨d, rfl⟩ := Nat.exists_eq_add_of_le h
  obtain ⟨zs, e⟩ := runs_more (im := im) (s := s) m d
  rw [e, List.take_left']
  rfl
theorem runs_fin {im : Im} {s : Ms} {m : Nat} {e : Fin} (h : (runs im s m).2 = .fin e) : ∀ d, runs im s (m + d) = runs im s m
  | 0 => rfl
  | d + 1 => by
    have ih := runs_fin h d
    show (match runs im s (m + d) with | (ps, .fin e) => (ps, Res.fin e) | (ps, .at s) => match step im s with | .go s' p => (ps ++ p.toList, .at s') | .stop e => (ps, .fin e)) = _
    rw [ih]
    revert h
    rcases runs im s m with ⟨ps, u | e⟩
    · intro h; cases h
    · intro _; rfl
end P18

set_option maxHeartbeats 4000000
/-! HI: lists made of data by comprehensions. -/
namespace HG
open PySem PySem.Spec PyProof.Rows L2
abbrev LcC (J : It) (g : TG) (tt : TT) (te : TE) (vs : List Nat) (σ : L2.St) (H1 : Hp) (D : Addr) (Qd : Hp → Prop) : Prop :=
  ∃ W : Nat → Nat → Hp → Prop, (∃ m, W 0 m (upd H1 D (.lst []))) ∧ ∀ i m H, W i m H → (J.stop i H ∧ Qd H) ∨ (J.go i H ∧ ∃ Nx : Hp → Prop, (∀ H', Nx H' → ∃ m', m' < m ∧ W (i + 1) m' H') ∧ ∀ x H', J.yld i H x H' →
    g x (wipe σ vs) H' fun σ2 H2 => wipe σ2 vs = wipe σ vs ∧ tt σ2 H2 fun b H3 => if b = true then te σ2 H3 fun y H4 => ∃ acc, H4 D = some (.lst acc) ∧ acc.length < sizeLine ∧ Nx (upd H4 D (.lst (acc ++ [y]))) else Nx H3)
theorem small_line {n : Nat} (h : n ≤ 1000000) : n < sizeLine := by rw [sizeLine_eq]; omega
theorem sqT_same {K : PySem.W.Frag} {H H' : Hp} {a : Addr} {xs : List V} (s : Same H H') (h : SqT K H a xs) : SqT K H' a xs := sqT_kt (KT.of s) h
theorem dpAll_map_get {K : PySem.W.Frag} {H : Hp} {α : Type} {f : α → PyData} {xs : List V} {as : List α} {i : Nat} {x : V} (h : DpAll K H xs (as.map f)) (hx : xs[i]? = some x) : ∃ a, as[i]? = some a ∧ Dp K H x (f a) := by
  obtain ⟨d, hd, hxd⟩ := dpAll_get h hx
  rw [List.getElem?_map] at hd
  obtain ⟨a, ha, rfl⟩ := Option.map_eq_some_iff.mp hd
  exact ⟨a, ha, hxd⟩
theorem noLAll_map {α : Type} {f : α → PyData} {as : List α} (h : ∀ a ∈ as, noL (f a) = true) : noLAll (as.map f) = true := noLAll_mem.mpr fun d hd => by
  obtain ⟨a, ha, rfl⟩ := List.mem_map.mp hd
  exact h a ha
section
variable {K : PySem.W.Frag} {H : Hp} {a D : Addr} {xs : List V} {α : Type} {as : List α} {g0 f : α → PyData} {g : TG} {tt : TT} {te : TE} {vs : List Nat} {σ : L2.St} {Qd : Hp → Prop}
/-- one more of new data -/
theorem mk_step {H3 H4 : Hp} {ys : List V} {ds : List PyData} {y : V} {d : PyData} (hD : H D = none) (hD3 : H3 D = some (.lst ys)) (hY : DpAll K H3 ys ds) (hn : noLAll ds = true) (s3 : Same H H3) (s4 : Same H3 H4) (hy : Dp K H4 y d) (hnd : noL d = true) :
    H4 D = some (.lst ys) ∧ DpAll K (upd H4 D (.lst (ys ++ [y]))) (ys ++ [y]) (ds ++ [d]) ∧ Same H (upd H4 D (.lst (ys ++ [y]))) := by
  have hD4 := s4 _ _ hD3
  refine ⟨hD4, dpAll_app (dpAll_kt ((KT.of s4).trans (KT.lst hD4)) _ _ hn hY) (.cons (dp_kt (KT.lst hD4) _ _ hnd hy) .nil), fun b o h => ?_⟩
  rw [upd_ne (ne_of_none h hD)]
  exact s4 _ _ (s3 _ _ h)
/-- [f(x) for x in tuple] -/
theorem lc_mk (sq : SqT K H a xs) (hA : DpAll K H xs (as.map g0)) (hl : as.length ≤ 1000000) (hD : H D = none) (hn : ∀ e ∈ as, noL (f e) = true)
    (hs : ∀ (x : V) (e : α) (H3 : Hp) (QQ : VK) (R : Hp → Prop), e ∈ as → Dp K H x (g0 e) → Same H H3 → (∀ y H4, Dp K H4 y (f e) → Same H3 H4 → QQ y H4) →
      g x (wipe σ vs) H3 fun σ2 H2 => wipe σ2 vs = wipe σ vs ∧ tt σ2 H2 fun b H3 => if b = true then te σ2 H3 QQ else R H3)
    (hd : ∀ H3 ys, H3 D = some (.lst ys) → DpAll K H3 ys (as.map f) → Same H H3 → Qd H3) : LcC (Itt K a) g tt te vs σ H D Qd := by
  have hlen := dpAll_len hA
  rw [List.length_map] at hlen
  refine lc_tup (xs := xs) (fun i H3 => ∃ ys, H3 D = some (.lst ys) ∧ DpAll K H3 ys ((as.take i).map f) ∧ Same H H3) ⟨[], upd_same, .nil, fun b o h => upd_get hD h⟩ ?_ ?_ ?_
  · rintro i H3 _ ⟨_, _, _, s3⟩
    exact sqT_same s3 sq
  · rintro i x H3 hx ⟨ys, hD3, hY, s3⟩
    obtain ⟨e, he, hxe⟩ := dpAll_map_get hA hx
    have hi : i < as.length := (List.getElem?_eq_some_iff.mp he).1
    refine hs x e H3 _ _ (List.mem_of_getElem? he) hxe s3 fun y H4 hy s4 => ?_
    have hyl := dpAll_len hY
    rw [List.length_map, List.length_take] at hyl
    obtain ⟨m1, m2, m3⟩ := mk_step hD hD3 hY (noLAll_map fun e he => hn e (List.mem_of_mem_take he)) s3 s4 hy (hn e (List.mem_of_getElem? he))
    refine ⟨_, m1, small_line (by omega), _, upd_same, ?_, m3⟩
    have e2 : (as.take (i + 1)).map f = (as.take i).map f ++ [f e] := by
      rw [List.take_add_one, he, List.map_append]
      rfl
    rw [e2]
    exact m2
  · rintro H3 ⟨ys, hD3, hY, s3⟩
    rw [hlen, List.take_length] at hY
    exact hd H3 ys hD3 hY s3
/-- [f(x) for x in list] -/
theorem lc_mkL (sq : SqL K H a xs) (hA : DpAll K H xs (as.map g0)) (hl : as.length ≤ 1000000) (hD : H D = none) (hn : ∀ e ∈ as, noL (f e) = true)
    (hs : ∀ (x : V) (e : α) (H3 : Hp) (QQ : VK) (R : Hp → Prop), e ∈ as → Dp K H x (g0 e) → Same H H3 → (∀ y H4, Dp K H4 y (f e) → Same H3 H4 → QQ y H4) →
      g x (wipe σ vs) H3 fun σ2 H2 => wipe σ2 vs = wipe σ vs ∧ tt σ2 H2 fun b H3 => if b = true then te σ2 H3 QQ else R H3)
    (hd : ∀ H3 ys, H3 D = some (.lst ys) → DpAll K H3 ys (as.map f) → Same H H3 → Qd H3) : LcC (Itl K a) g tt te vs σ H D Qd := by
  have hlen := dpAll_len hA
  rw [List.length_map] at hlen
  refine lc_list (xs := xs) (fun i H3 => ∃ ys, H3 D = some (.lst ys) ∧ DpAll K H3 ys ((as.take i).map f) ∧ Same H H3) ⟨[], upd_same, .nil, fun b o h => upd_get hD h⟩ ?_ ?_ ?_
  · rintro i H3 _ ⟨_, _, _, s3⟩
    exact Same.seq s3 sq
  · rintro i x H3 hx ⟨ys, hD3, hY, s3⟩
    obtain ⟨e, he, hxe⟩ := dpAll_map_get hA hx
    have hi : i < as.length := (List.getElem?_eq_some_iff.mp he).1
    refine hs x e H3 _ _ (List.mem_of_getElem? he) hxe s3 fun y H4 hy s4 => ?_
    have hyl := dpAll_len hY
    rw [List.length_map, List.length_take] at hyl
    obtain ⟨m1, m2, m3⟩ := mk_step hD hD3 hY (noLAll_map fun e he => hn e (List.mem_of_mem_take he)) s3 s4 hy (hn e (List.mem_of_getElem? he))
    refine ⟨_, m1, small_line (by omega), _, upd_same, ?_, m3⟩
    have e2 : (as.take (i + 1)).map f = (as.take i).map f ++ [f e] := by
      rw [List.take_add_one, he, List.map_append]
      rfl
    rw [e2]
    exact m2
  · rintro H3 ⟨ys, hD3, hY, s3⟩
    rw [hlen, List.take_length] at hY
    exact hd H3 ys hD3 hY s3
end
end HG

set_option maxHeartbeats 4000000
namespace K18
open PySem PySem.Spec PyProof.Rows L2 HG P18
/-! ### frames -/
theorem ext_kt {d c : Addr} {n : Nat} {H H' : Hp} (dk : Deck d c n H) (X : Ext d c H H') : KT H H' := by
  obtain ⟨ns, m, t, e1, e2, _⟩ := dk.ex
  refine ⟨fun b xs e => X.at (fun z => by rw [z, e1] at e; cases e) (fun z => by rw [z, e2] at e; cases e) e, fun b o u e => X.at (fun z => by rw [z, e1] at e; cases e) (fun z => by rw [z, e2] at e; cases e) e⟩
theorem grow {d c : Addr} {n : Nat} {H H' : Hp} (X : Ext d c H H') (D : Deck d c n H') {b : Addr} (h : H' b = none) : H b = none := by
  have nn := D.has h
  cases q : H b with
  | none => rfl
  | some o =>
    rw [X.at nn.1 nn.2 q] at h
    cases h
theorem off_same_mono {d c : Addr} {H H1 : Hp} (s : Same H H1) : Same (off d c H) (off d c H1) := fun b o h => by
  unfold off at h ⊢
  split at h
  · cases h
  · rename_i n
    rw [if_neg n]
    exact s b o h
theorem off_at {d c b : Addr} {H : Hp} {o : HO} (h : off d c H b = some o) : H b = some o ∧ b ≠ d ∧ b ≠ c := by
  unfold off at h
  split at h
  · cases h
  · rename_i n
    exact ⟨h, fun z => n (.inl z), fun z => n (.inr z)⟩
theorem many40 {n : Nat} (h : n ≤ 1000000) : ((n : Nat) : Int) < 10 ^ 40 := by
  have : (1000000 : Int) < 10 ^ 40 := by decide
  omega
theorem n60 {n : Nat} (h : n < 2 ^ 50) : n + 1000 < 2 ^ 60 := by
  have : (2 : Nat) ^ 50 + 1000 < 2 ^ 60 := by decide
  omega
theorem Deck.same {d c : Addr} {n : Nat} {H H' : Hp} (D : Deck d c n H) (s : Same H H') : Deck d c n H' := by
  obtain ⟨ns, x, t, h1, h2, h⟩ := D.ex
  exact ⟨⟨ns, x, t, s _ _ h1, s _ _ h2, h⟩, D.ne⟩
/-- a tuple of data made beside the deck -/
theorem dp_tupO {K : PySem.W.Frag} {d c : Addr} {n : Nat} {H : Hp} {p : Addr} {vs : List V} {ds : List PyData} (D : Deck d c n H) (hp : H p = none) (h : DpAll K (off d c H) vs ds) : Dp K (off d c (upd H p (.tup vs))) (.ref p) (.tuple ds) := by
  have nn := D.has hp
  refine .tup (.inl (.inl ?_)) (dpAll_mono (off_same_mono (same_new hp)) _ _ h)
  rw [off_get nn.1 nn.2]
  exact upd_same
theorem off_upd {d c D : Addr} {H : Hp} {o : HO} (h1 : D ≠ d) (h2 : D ≠ c) : off d c (upd H D o) = upd (off d c H) D o := by
  funext b
  by_cases e : b = D
  · subst e
    rw [off_get h1 h2, upd_same, upd_same]
  · rw [upd_ne e]
    unfold off
    split
    · rfl
    · exact upd_ne e
/-- one more in a list of data -/
theorem lst_step {K : PySem.W.Frag} {d c D : Addr} {H1 H2 : Hp} {us : List V} {ds : List PyData} {v : V} {e : PyData} (nD : D ≠ d ∧ D ≠ c) (h1 : H1 D = some (.lst us)) (hus : DpAll K (off d c H1) us ds) (hn : noLAll ds = true) (X : Ext d c H1 H2) (hv : Dp K (off d c H2) v e) (he : noL e = true) {o : HO} :
    DpAll K (off d c (upd H2 D o)) (us ++ [v]) (ds ++ [e]) := by
  have h2 : off d c H2 D = some (.lst us) := by
    rw [off_get nD.1 nD.2]
    exact X.at nD.1 nD.2 h1
  have k := KT.lst (o := o) h2
  rw [off_upd nD.1 nD.2]
  exact dpAll_app (dpAll_kt k _ _ hn (dpAll_mono X _ _ hus)) (.cons (dp_kt k _ _ he hv) .nil)
theorem off_kt {d c : Addr} {n : Nat} {H : Hp} (dk : Deck d c n H) : KT H (off d c H) := by
  obtain ⟨ns, m, t, e1, e2, _⟩ := dk.ex
  refine ⟨fun b xs e => ?_, fun b o u e => ?_⟩
  · rw [off_get (fun z => by rw [z, e1] at e; cases e) (fun z => by rw [z, e2] at e; cases e)]
    exact e
  · rw [off_get (fun z => by rw [z, e1] at e; cases e) (fun z => by rw [z, e2] at e; cases e)]
    exact e
theorem dpAll_map {K : PySem.W.Frag} {H : Hp} {α : Type} {f : α → V} {g : α → PyData} : ∀ (as : List α), (∀ a ∈ as, Dp K H (f a) (g a)) → DpAll K H (as.map f) (as.map g)
  | [], _ => .nil
  | a :: as, h => .cons (h a List.mem_cons_self) (dpAll_map as fun b hb => h b (List.mem_cons_of_mem _ hb))
theorem dpAll_perm {K : PySem.W.Frag} {H : Hp} {α : Type} {f : α → PyData} {xs ys : List V} (hp : ys.Perm xs) : ∀ {as : List α}, DpAll K H xs (as.map f) → ∃ bs : List α, bs.Perm as ∧ DpAll K H ys (bs.map f) := by
  induction hp with
  | nil =>
    intro as h
    exact ⟨as, .refl _, h⟩
  | cons x _ ih =>
    intro as h
    cases as with
    | nil => cases h
    | cons a as =>
      cases h with
      | cons h1 h2 =>
        obtain ⟨bs, p, q⟩ := ih h2
        exact ⟨a :: bs, .cons a p, .cons h1 q⟩
  | swap x y l =>
    intro as h
    match as, h with
    | a :: b :: as, .cons h1 (.cons h2 h3) => exact ⟨b :: a :: as, .swap a b as, .cons h2 (.cons h1 h3)⟩
  | trans _ _ ih1 ih2 =>
    intro as h
    obtain ⟨bs, p, q⟩ := ih2 h
    obtain ⟨cs, p2, q2⟩ := ih1 q
    exact ⟨cs, p2.trans p, q2⟩
theorem nlO : ∀ o : Op, noL o.D = true
  | .k _ => rfl
  | .v _ => rfl
theorem nlW : ∀ v : Wv, noL v.D = true
  | .w _ => rfl
  | .f _ => rfl
theorem nlN (n : Nat) : noL (nD n) = true := rfl
theorem nlT : ∀ t : Option Nat, noL (optD t) = true
  | none => rfl
  | some _ => rfl
theorem nlAll {α : Type} {f : α → PyData} {as : List α} (h : ∀ a, noL (f a) = true) : noLAll (as.map f) = true := noLAll_map fun a _ => h a
theorem nlR : ∀ R : Rw, noL R.D = true := fun R => by
  cases R with
  | rt a => cases a <;> simp only [Rw.D, Rw.ps, noL, noLAll, nlO, Bool.and_true]
  | _ => simp only [Rw.D, Rw.ps, noL, noLAll, nlO, nlW, nlT, nlAll nlO, Bool.and_true]
/-! ### the heads of the codes -/
abbrev hdD (e : List Nat × Bool) : PyData := .tuple [.tuple (e.1.map nD), .bool e.2]
abbrev nV (n : Nat) : V := .int (n : Int)
def HdOk (hs : List (List Nat × Bool)) : Prop := hs.length ≤ 5 ∧ hs[0]? = some ([0], true) ∧ ∀ e ∈ hs, e.1.length ≤ 4 ∧ e.1.Nodup ∧ ∀ s ∈ e.1, s < 4
structure Wd (K : PySem.W.Frag) (H : Hp) (wd : Addr) (hs : List (List Nat × Bool)) : Prop where
  ok : HdOk hs
  ex : ∃ ha sa xs ss, H wd = some (.dK [(Sum.inr "heads", .ref ha), (Sum.inr "single", .ref sa)]) ∧ H ha = some (.lst xs) ∧ DpAll K H xs (hs.map hdD) ∧ H sa = some (.lst (ss.map nV)) ∧ ss ≠ [] ∧ ss.length ≤ 5 ∧ ∀ k ∈ ss, ∃ p, hs[k]? = some ([p], true)
theorem Wd.mono {K : PySem.W.Frag} {H H' : Hp} {wd : Addr} {hs : List (List Nat × Bool)} (W : Wd K H wd hs) (s : Same H H') : Wd K H' wd hs := by
  obtain ⟨ha, sa, xs, ss, e1, e2, e3, e4, e5⟩ := W.ex
  exact ⟨W.ok, ha, sa, xs, ss, s _ _ e1, s _ _ e2, dpAll_mono s _ _ e3, s _ _ e4, e5⟩
structure S18 (K : PySem.W.Frag) (hs : List (List Nat × Bool)) (d c wd : Addr) (n : Nat) (H0 H : Hp) : Prop where
  dk : Deck d c n H
  X : Ext d c H0 H
  wd : Wd K (off d c H) wd hs
section
variable {K : PySem.W.Frag} {hs : List (List Nat × Bool)} {d c wd : Addr} {n m : Nat} {H0 H H' : Hp}
theorem S18.step (S : S18 K hs d c wd n H0 H) (dk : Deck d c m H') (X : Ext d c H H') : S18 K hs d c wd m H0 H' := ⟨dk, S.X.trans X, S.wd.mono X⟩
theorem S18.same (S : S18 K hs d c wd n H0 H) (s : Same H H') : S18 K hs d c wd n H0 H' := S.step (S.dk.same s) (off_same_mono s)
theorem S18.new {p : Addr} {o : HO} (S : S18 K hs d c wd n H0 H) (hp : H p = none) : S18 K hs d c wd n H0 (upd H p o) := S.same (same_new hp)
end
theorem draw_lt {r : Int} {many : Nat} (h0 : 0 ≤ r) (h1 : r < (many : Int)) : ∃ k : Nat, r = (k : Int) ∧ k < many := ⟨r.toNat, by omega, by omega⟩
/-! ### _law_operand -/
def spOperand (K : PySem.W.Frag) : Sp := fun vs H Q _ => ∃ (d c : Addr) (n : Nat) (x : V), vs = [.ref d, x] ∧ n < 2 ^ 50 ∧ Deck d c n H ∧
  ∀ (o : Op) (v : V) (H' : Hp), OpOk o → Deck d c (n + 6) H' → Ext d c H H' → Dp K (off d c H') v o.D → Q v H'
section
variable {P : Program} {w : World} {K : PySem.W.Frag} {mg : Str → Option Value} {base : Heap}
set_option pp.maxSteps 600 in
theorem c_operand (T : Txt w K mg) : Cal P w K mg base "_law_operand" 2 ["_law_deck_here", "_law_world"] (spOperand K) := by
  obtain ⟨fd, F⟩ := T.d__law_operand
  have C__law_draw := c_draw (P := P) (w := w) (base := base) T
  refine ⟨⟨fd, F.ok sc__law_operand (fun vs H Q E h => by repeat (first | (obtain ⟨e, _⟩ := h; subst e; rfl) | (obtain ⟨_, h⟩ := h))) (fun cdv A outer s H vs Q E hr h => ?_), F.bindsN fun _ _ _ _ _ _ us hl => match us, hl with | [_, _], _ => rfl⟩, T.g _ (by decide), F.kp⟩
  obtain ⟨d, c, n, x, rfl, hn, dk, q⟩ := h
  refine ⟨_, PSs.nox (pss_cons (ps_if (pt_cmpR op_eq (pe_cal C__law_draw (hr.mono (by omega)) (by rfl) (pa_cons (pv 0) (pa_cons pe_int pa_nil))) pe_int (nomark _)) (pss_one (ps_ret (pe_tup (pa_cons pe_str (pa_cons (pe_cal C__law_draw (hr.mono (by omega)) (by rfl) (pa_cons (pv 0) (pa_cons pe_int pa_nil))) pa_nil))))) pss_nil)
      (pss_cons (ps_set (i := 2) sc__law_operand.nd rfl (.inl rfl) (pe_lst (pa_cons (pe_cal C__law_draw (hr.mono (by omega)) (by rfl) (pa_cons (pv 0) (pa_cons pe_int pa_nil))) (pa_cons (pe_cal C__law_draw (hr.mono (by omega)) (by rfl) (pa_cons (pv 0) (pa_cons pe_int pa_nil))) (pa_cons (pe_op op_sub pe_int (pe_cal C__law_draw (hr.mono (by omega)) (by rfl) (pa_cons (pv 0) (pa_cons pe_int pa_nil)))) (pa_cons (pe_cal C__law_draw (hr.mono (by omega)) (by rfl) (pa_cons (pv 0) (pa_cons pe_int pa_nil))) pa_nil))))))
      (pss_one (ps_ret (pe_ix (ix_listK (K := K) rfl) (pv 2) (pe_cal C__law_draw (hr.mono (by omega)) (by rfl) (pa_cons (pv 0) (pa_cons pe_int pa_nil))) (fun _ _ => rfl)))))), ?_⟩
  have hn6 := n60 hn
  refine ⟨_, rfl, d, c, n, 2, rfl, by decide, by decide, by omega, dk, fun r H1 r0 r1 dk1 X1 => ?_⟩
  obtain ⟨r, rfl, hr⟩ := draw_lt (many := 2) r0 r1
  refine ⟨rfl, _, rfl, ?_⟩
  by_cases e : r = 0
  · subst e
    refine iteT ?_
    refine ⟨_, rfl, d, c, n + 1, 4, rfl, by decide, by decide, by omega, dk1, fun u H2 r0 r1 dk2 X2 => ?_⟩
    obtain ⟨u, rfl, hu⟩ := draw_lt (many := 4) r0 r1
    refine ⟨(by show 2 ≤ sizeLine; decide), fun p hp => ?_⟩
    exact q (.v u) _ _ hu ((dk2.new hp).up (by omega)) (X1.trans (X2.trans (Ext.new hp))) (dp_tupO dk2 hp (.cons (.str _) (.cons (.int _) .nil)))
  · rw [show decide (V.int (r : Int) = V.int 0) = false from decide_eq_false (fun z => e (by injection z with z; omega))]
    refine iteF ?_
    refine ⟨_, rfl, d, c, n + 1, 3, rfl, by decide, by decide, by omega, dk1, fun u1 H2 r0 r1 dk2 X2 => ?_⟩
    obtain ⟨u1, rfl, h1⟩ := draw_lt (many := 3) r0 r1
    refine ⟨_, rfl, d, c, n + 2, 9, rfl, by decide, by decide, by omega, dk2, fun u2 H3 r0 r1 dk3 X3 => ?_⟩
    obtain ⟨u2, rfl, h2⟩ := draw_lt (many := 9) r0 r1
    refine ⟨_, rfl, d, c, n + 3, 2, rfl, by decide, by decide, by omega, dk3, fun u3 H4 r0 r1 dk4 X4 => ?_⟩
    obtain ⟨u3, rfl, h3⟩ := draw_lt (many := 2) r0 r1
    refine ⟨_, _, rfl, rfl, ?_⟩
    refine ⟨_, rfl, d, c, n + 4, 65536, rfl, by decide, by decide, by omega, dk4, fun u4 H5 r0 r1 dk5 X5 => ?_⟩
    obtain ⟨u4, rfl, h4⟩ := draw_lt (many := 65536) r0 r1
    refine ⟨(by show 4 ≤ sizeLine; decide), fun p hp => ?_⟩
    have np := dk5.has hp
    have X6 : Ext d c H (upd H5 p (.lst [.int (u1 : Int), .int (u2 : Int), .int (65535 - (u3 : Int)), .int (u4 : Int)])) := X1.trans (X2.trans (X3.trans (X4.trans (X5.trans (Ext.new hp)))))
    have dk6 := dk5.new (o := .lst [V.int (u1 : Int), .int (u2 : Int), .int (65535 - (u3 : Int)), .int (u4 : Int)]) hp
    have e6 : (upd H5 p (.lst [.int (u1 : Int), .int (u2 : Int), .int (65535 - (u3 : Int)), .int (u4 : Int)])) p = some (.lst [.int (u1 : Int), .int (u2 : Int), .int (65535 - (u3 : Int)), .int (u4 : Int)]) := upd_same
    generalize upd H5 p (.lst [.int (u1 : Int), .int (u2 : Int), .int (65535 - (u3 : Int)), .int (u4 : Int)]) = H6 at X6 dk6 e6 ⊢
    refine ⟨_, rfl, _, rfl, d, c, n + 5, 4, rfl, by decide, by decide, by omega, dk6, fun u H7 r0 r1 dk7 X7 => ?_⟩
    obtain ⟨u, rfl, hu⟩ := draw_lt (many := 4) r0 r1
    have e7 := X7.at np.1 np.2 e6
    have fin : ∀ m : Nat, m < 65536 → Q (.int (m : Int)) H7 := fun m hm => q (.k m) _ _ hm dk7 (X6.trans X7) (.int _)
    match u, hu with
    | 0, _ => exact ⟨p, _, _, _, rfl, rfl, .inl (.inl e7), atI_nat (j := 0) rfl, fin u1 (by omega)⟩
    | 1, _ => exact ⟨p, _, _, _, rfl, rfl, .inl (.inl e7), atI_nat (j := 1) rfl, fin u2 (by omega)⟩
    | 2, _ => exact ⟨p, _, _, _, rfl, rfl, .inl (.inl e7), atI_nat (j := 2) rfl, by rw [show (65535 : Int) - (u3 : Int) = ((65535 - u3 : Nat) : Int) by omega]; exact fin _ (by omega)⟩
    | 3, _ => exact ⟨p, _, _, _, rfl, rfl, .inl (.inl e7), atI_nat (j := 3) rfl, fin u4 h4⟩
abbrev optV : Option Nat → V
  | none => .non
  | some t => nV t
def spCallee (K : PySem.W.Frag) : Sp := fun vs H Q _ => ∃ (hs : List (List Nat × Bool)) (d c wd : Addr) (n : Nat) (t : Option Nat), vs = [.ref d, .ref wd, optV t] ∧ n < 2 ^ 50 ∧ Deck d c n H ∧ Wd K (off d c H) wd hs ∧
  ∀ (k : Nat) (e : List Nat × Bool) (H' : Hp), hs[k]? = some e → (∀ s, t = some s → e.2 = true) → Deck d c (n + 1) H' → Ext d c H H' → Q (nV k) H'
set_option pp.maxSteps 600 in
theorem c_callee (T : Txt w K mg) : Cal P w K mg base "_law_callee" 3 ["_law_deck_here", "_law_world", "_law_target"] (spCallee K) := by
  obtain ⟨fd, F⟩ := T.d__law_callee
  have C__law_pick := c_pick (P := P) (w := w) (base := base) T
  refine ⟨⟨fd, F.ok sc__law_callee (fun vs H Q E h => by repeat (first | (obtain ⟨e, _⟩ := h; subst e; rfl) | (obtain ⟨_, h⟩ := h))) (fun cdv A outer s H vs Q E hr h => ?_), F.bindsN fun _ _ _ _ _ _ us hl => match us, hl with | [_, _, _], _ => rfl⟩, T.g _ (by decide), F.kp⟩
  obtain ⟨hs, d, c, wd, n, t, rfl, hn, dk, W, q⟩ := h
  have hu := hu_of hr
  refine ⟨_, PSs.nox (pss_cons (ps_setLc (i := 3) (own := [("_law_k", 4), ("_law_head", 5)]) (by rfl) sc__law_callee.nd rfl rfl (sw_true rfl rfl rfl (by decide +kernel)) (pi_enum (by rfl) T.n_enumerate (pa_cons (pe_dget hu (pv 1) pe_str (fun _ _ => rfl)) pa_nil)) (blkOk_by (own := [("_law_k", 4), ("_law_head", 5)]) (N := N__law_callee) (sc := defScope s__law_callee) (by decide +kernel)) (fun _ _ _ _ _ => (pg_tupK (K := K) (n := 2) rfl rfl (pgs_cons (pg_name (i := 4) sc__law_callee.nd rfl (.inl rfl)) (pgs_cons (pg_name (i := 5) sc__law_callee.nd rfl (.inl rfl)) pgs_nil)))) (fun _ _ _ _ _ => pts_one (PW.pt (pw_or (pt_val (pe_ix (ix_P (K := K) rfl) (pv 5) pe_int (fun _ _ => rfl))) (pw_or1 (pt_cmpR op_isN (pv 2) pe_non (nomark _)))))) (fun _ _ _ _ _ => (pv 4)))
      (pss_one (ps_ret (pe_cal C__law_pick (hr.mono (by omega)) (by rfl) (pa_cons (pv 0) (pa_cons (pv 3) pa_nil)))))), ?_⟩
  have hn6 := n60 hn
  obtain ⟨ha, sa, xs, ss, w1, w2, w3, w4⟩ := W.ex
  obtain ⟨w2', nh1, nh2⟩ := off_at w2
  have hxl := dpAll_len w3
  rw [List.length_map] at hxl
  have hol := W.ok.1
  refine ⟨_, rfl, _, _, rfl, DGet.k (k := Sum.inr "heads") (off_at w1).1, ha, xs, rfl, .inl (.inl w2'), fun D hD => ?_⟩
  have nD := dk.has hD
  refine lc_it (walk_enum (K := K) (xs := xs)) (fun i H1 => ∃ ks : List Nat, H1 D = some (.lst (ks.map nV)) ∧ ks.length ≤ i ∧ (0 < i → ks ≠ []) ∧ (∀ k ∈ ks, ∃ e, hs[k]? = some e ∧ ∀ s, t = some s → e.2 = true) ∧ Deck d c n H1 ∧ Ext d c H H1) ⟨[], upd_same, Nat.le_refl _, fun h => absurd h (Nat.lt_irrefl _), (fun _ h => nomatch h), dk.new hD, Ext.new hD⟩ ?_ ?_ ?_
  · rintro i H1 _ ⟨_, _, _, _, _, dk1, X1⟩
    exact .inl (.inl (X1.at nh1 nh2 w2'))
  · rintro i x H1 H2 hi ⟨ks, h1, hkl, hk0, hks, dk1, X1⟩ ⟨T1, y1, y2, rfl, hT1, rfl, e1, e2⟩
    injection e1 with e1
    subst e1
    obtain ⟨e, he, hye⟩ := dpAll_map_get w3 e2
    have hye := offD (X1.dp hye)
    have sT := same_new (o := .tup [.int (i : Nat), y2]) hT1
    have hye := dp_mono sT _ _ hye
    have eT : (upd H1 T1 (.tup [.int (i : Nat), y2])) T1 = some (.tup [.int (i : Nat), y2]) := upd_same
    have h1 := sT _ _ h1
    have dk1 := dk1.same sT
    have X1 : Ext d c H (upd H1 T1 (.tup [.int (i : Nat), y2])) := X1.trans (off_same_mono sT)
    generalize upd H1 T1 (.tup [.int (i : Nat), y2]) = H2 at hye eT h1 dk1 X1 ⊢
    refine ⟨T1, _, rfl, .inl (.inl eT), rfl, _, _, rfl, _, _, rfl, rfl, rfl, ?_⟩
    have nx : (t = none ∨ e.2 = true) → ∃ acc, H2 D = some (.lst acc) ∧ acc.length < sizeLine ∧ ∃ ks : List Nat, (upd H2 D (.lst (acc ++ [nV i]))) D = some (.lst (ks.map nV)) ∧ ks.length ≤ i + 1 ∧ (0 < i + 1 → ks ≠ []) ∧ (∀ k ∈ ks, ∃ e, hs[k]? = some e ∧ ∀ s, t = some s → e.2 = true) ∧ Deck d c n (upd H2 D (.lst (acc ++ [nV i]))) ∧ Ext d c H (upd H2 D (.lst (acc ++ [nV i]))) := fun hte => by
      refine ⟨_, h1, by rw [List.length_map]; exact small_line (by omega), ks ++ [i], by rw [upd_same, List.map_append]; rfl, by rw [List.length_append]; exact Nat.succ_le_succ hkl, fun _ => by simp, fun k hk => ?_, dk1.upd nD.1 nD.2, X1.mut hD⟩
      rcases List.mem_append.mp hk with hk | hk
      · exact hks k hk
      · rw [List.mem_singleton.mp hk]
        exact ⟨e, he, fun s hs => hte.resolve_left fun z => by rw [z] at hs; cases hs⟩
    refine ⟨y2, rfl, _, 1, _, hye, rfl, rfl, fun z hz => ?_⟩
    cases hz
    refine ⟨_, rfl, ?_⟩
    cases hb : e.2 with
    | true => exact iteT (iteT ⟨_, rfl, nx (.inr hb)⟩)
    | false =>
      cases t with
      | none => exact iteF ⟨_, rfl, rfl, _, rfl, iteT ⟨_, rfl, nx (.inl rfl)⟩⟩
      | some t =>
        refine iteF ⟨_, rfl, rfl, _, rfl, iteF ⟨ks, h1, Nat.le_succ_of_le hkl, fun _ => ?_, hks, dk1, X1⟩⟩
        cases i with
        | zero =>
          rw [W.ok.2.1] at he
          cases he
          cases hb
        | succ i => exact hk0 (Nat.succ_pos i)
  rintro H1 ⟨ks, h1, hkl, hk0, hks, dk1, X1⟩
  rw [hxl] at hkl hk0
  have hne : ks ≠ [] := hk0 (by have := W.ok.2.1; exact (List.getElem?_eq_some_iff.mp this).1)
  have hpos : 0 < ks.length := List.length_pos_iff.mpr hne
  refine ⟨_, rfl, _, rfl, d, c, n, D, ks.map nV, rfl, by omega, dk1, ?_, by rw [List.length_map]; exact hpos, by rw [List.length_map]; omega, fun y H2 hy dk2 X2 => ?_⟩
  · refine .inl (.inl ?_)
    rw [off_get nD.1 nD.2]
    exact h1
  · obtain ⟨k, hk, rfl⟩ := List.mem_map.mp hy
    obtain ⟨e, he1, he2⟩ := hks k hk
    exact q k e _ he1 he2 dk2 (X1.trans X2)
end
end K18

set_option maxHeartbeats 4000000
namespace K18
open PySem PySem.Spec PyProof.Rows L2 HG P18
/-- an image that has only heads -/
def imH (hs : List (List Nat × Bool)) : Im := ⟨hs.map fun e => ⟨e.1, e.2, []⟩, 0, 0, [], 0, [], []⟩
theorem imH_at {hs : List (List Nat × Bool)} {k : Nat} {e : List Nat × Bool} (h : hs[k]? = some e) : (imH hs).codes[k]? = some ⟨e.1, e.2, []⟩ := by
  show (hs.map _)[k]? = _
  rw [List.getElem?_map, h]
  rfl
/-- a row drawn for anywhere behind the first two -/
def RwA (hs : List (List Nat × Bool)) (size : Nat) (R : Rw) : Prop := ∀ pc ret, 2 ≤ pc → pc + 1 < size → RwOk (imH hs) pc size ret R
def spRowD (K : PySem.W.Frag) : Sp := fun vs H Q _ => ∃ (hs : List (List Nat × Bool)) (d c wd : Addr) (n : Nat) (x y : V), vs = [.ref d, .ref wd, x, y] ∧ n < 2 ^ 49 ∧ Deck d c n H ∧ Wd K (off d c H) wd hs ∧
  ∀ (R : Rw) (v : V) (H' : Hp), (∀ size, RwA hs size R) → Deck d c (n + 20) H' → Ext d c H H' → Dp K (off d c H') v R.D → Q v H'
def spCallRow (K : PySem.W.Frag) : Sp := fun vs H Q _ => ∃ (hs : List (List Nat × Bool)) (d c wd : Addr) (n : Nat), vs = [.ref d, .ref wd] ∧ n < 2 ^ 49 ∧ Deck d c n H ∧ Wd K (off d c H) wd hs ∧
  ∀ (R : Rw) (v : V) (H' : Hp), (∀ size, RwA hs size R) → Deck d c (n + 40) H' → Ext d c H H' → Dp K (off d c H') v R.D → Q v H'
def spRow (K : PySem.W.Frag) : Sp := fun vs H Q _ => ∃ (hs : List (List Nat × Bool)) (d c wd : Addr) (n size : Nat) (x : V), vs = [.ref d, .ref wd, x, nV size] ∧ n < 2 ^ 48 ∧ 0 < size ∧ size ≤ 20 ∧ Deck d c n H ∧ Wd K (off d c H) wd hs ∧
  ∀ (R : Rw) (v : V) (H' : Hp), RwA hs size R → Deck d c (n + 50) H' → Ext d c H H' → Dp K (off d c H') v R.D → Q v H'
theorem n59 {n : Nat} (h : n < 2 ^ 49) : n + 1000 < 2 ^ 50 := by
  have : (2 : Nat) ^ 49 + 1000 < 2 ^ 50 := by decide
  omega
theorem n58 {n : Nat} (h : n < 2 ^ 48) : n + 1000 < 2 ^ 49 := by
  have : (2 : Nat) ^ 48 + 1000 < 2 ^ 49 := by decide
  omega
theorem ne_int {a b : Nat} (h : a ≠ b) : decide (V.int (a : Int) = V.int (b : Int)) = false := decide_eq_false (fun z => h (by injection z with z; omega))
theorem dp4 {K : PySem.W.Frag} {H : Hp} (n : Nat) : Dp K H (.int (n : Int)) (.int (n : Int)) := .int _
section
variable {P : Program} {w : World} {K : PySem.W.Frag} {mg : Str → Option Value} {base : Heap}
set_option pp.maxSteps 600 in
theorem c_data_row (T : Txt w K mg) : Cal P w K mg base "_law_data_row" 3 ["_law_deck_here", "_law_world", "_law_at", "_law_size"] (spRowD K) := by
  obtain ⟨fd, F⟩ := T.d__law_data_row
  have C__law_draw := c_draw (P := P) (w := w) (base := base) T
  have C__law_operand := c_operand (P := P) (w := w) (base := base) T
  refine ⟨⟨fd, F.ok sc__law_data_row (fun vs H Q E h => by repeat (first | (obtain ⟨e, _⟩ := h; subst e; rfl) | (obtain ⟨_, h⟩ := h))) (fun cdv A outer s H vs Q E hr h => ?_), F.bindsN fun _ _ _ _ _ _ us hl => match us, hl with | [_, _, _, _], _ => rfl⟩, T.g _ (by decide), F.kp⟩
  obtain ⟨hs, d, c, wd, n, x, y, rfl, hn, dk, W, q⟩ := h
  have hu := hu_of hr
  refine ⟨_, PSs.nox (pss_cons (ps_par (i := 4) (j := 5) rfl sc__law_data_row.nd rfl rfl (by decide) rfl rfl (pa_cons (pe_cal C__law_draw (hr.mono (by omega)) (by rfl) (pa_cons (pv 0) (pa_cons pe_int pa_nil))) (pa_cons (pe_cal C__law_draw (hr.mono (by omega)) (by rfl) (pa_cons (pv 0) (pa_cons pe_int pa_nil))) pa_nil)) (by rfl))
      (pss_cons (ps_if (pt_cmpR op_eq (pv 4) pe_int (nomark _)) (pss_one (ps_ret (pe_tup (pa_cons pe_str (pa_cons (pv 5) (pa_cons pe_int pa_nil)))))) pss_nil)
      (pss_cons (ps_if (pt_cmpR op_eq (pv 4) pe_int (nomark _)) (pss_one (ps_ret (pe_tup (pa_cons pe_str (pa_cons pe_int (pa_cons (pe_cal C__law_operand (hr.mono (by omega)) (by rfl) (pa_cons (pv 0) (pa_cons (pv 1) pa_nil))) pa_nil)))))) pss_nil)
      (pss_cons (ps_if (pt_cmpR op_eq (pv 4) pe_int (nomark _)) (pss_one (ps_ret (pe_tup (pa_cons pe_str (pa_cons (pv 5) (pa_cons pe_int (pa_cons (pe_cal C__law_operand (hr.mono (by omega)) (by rfl) (pa_cons (pv 0) (pa_cons (pv 1) pa_nil))) pa_nil))))))) pss_nil)
      (pss_cons (ps_if (pt_cmpR op_eq (pv 4) pe_int (nomark _)) (pss_one (ps_ret (pe_tup (pa_cons pe_str (pa_cons pe_int (pa_cons (pe_cal C__law_operand (hr.mono (by omega)) (by rfl) (pa_cons (pv 0) (pa_cons (pv 1) pa_nil))) (pa_cons (pe_cal C__law_operand (hr.mono (by omega)) (by rfl) (pa_cons (pv 0) (pa_cons (pv 1) pa_nil))) pa_nil))))))) pss_nil)
      (pss_one (ps_ret (pe_ix (ix_listK (K := K) rfl) (pe_lst (pa_cons (pe_tup (pa_cons pe_str (pa_cons pe_int (pa_cons pe_int pa_nil)))) (pa_cons (pe_tup (pa_cons pe_str (pa_cons pe_int (pa_cons pe_int (pa_cons pe_int pa_nil))))) (pa_cons (pe_tup (pa_cons pe_str (pa_cons pe_int (pa_cons (pe_tup (pa_cons pe_str (pa_cons pe_int pa_nil))) pa_nil)))) (pa_cons (pe_tup (pa_cons pe_str (pa_cons pe_int (pa_cons pe_int pa_nil)))) pa_nil))))) (pe_cal C__law_draw (hr.mono (by omega)) (by rfl) (pa_cons (pv 0) (pa_cons pe_int pa_nil))) (fun _ _ => rfl))))))))), ?_⟩
  have hn5 := n59 hn
  have hn6 := n60 (show n < 2 ^ 50 by omega)
  refine ⟨_, rfl, d, c, n, 5, rfl, by decide, by decide, by omega, dk, fun r H1 r0 r1 dk1 X1 => ?_⟩
  obtain ⟨r, rfl, hr5⟩ := draw_lt (many := 5) r0 r1
  refine ⟨_, rfl, d, c, n + 1, 4, rfl, by decide, by decide, by omega, dk1, fun u H2 r0 r1 dk2 X2 => ?_⟩
  obtain ⟨u, rfl, hu4⟩ := draw_lt (many := 4) r0 r1
  have X2 := X1.trans X2
  refine ⟨_, _, rfl, _, rfl, rfl, _, rfl, ?_⟩
  by_cases e0 : r = 0
  · subst e0
    refine iteT ⟨_, rfl, (by show 3 ≤ sizeLine; decide), fun p hp => ?_⟩
    exact q (.ld u 0) _ _ (fun size pc ret h1 h2 => ⟨h1, h2, .inl ⟨hu4, rfl⟩⟩) ((dk2.new hp).up (by omega)) (X2.trans (Ext.new hp)) (dp_tupO dk2 hp (.cons (.str _) (.cons (.int _) (.cons (.int _) .nil))))
  rw [show decide (V.int (r : Int) = V.int 0) = false from ne_int (b := 0) e0]
  refine iteF ⟨_, rfl, rfl, _, rfl, ?_⟩
  by_cases e1 : r = 1
  · subst e1
    refine iteT ⟨_, rfl, _, rfl, d, c, n + 2, _, rfl, by omega, dk2, fun o v H3 ho dk3 X3 hv => ⟨(by show 3 ≤ sizeLine; decide), fun p hp => ?_⟩⟩
    exact q (.st 0 o) _ _ (fun size pc ret h1 h2 => ⟨h1, h2, .inl ⟨rfl, ho⟩⟩) ((dk3.new hp).up (by omega)) (X2.trans (X3.trans (Ext.new hp))) (dp_tupO dk3 hp (.cons (.str _) (.cons (.int _) (.cons hv .nil))))
  rw [show decide (V.int (r : Int) = V.int 1) = false from ne_int (b := 1) e1]
  refine iteF ⟨_, rfl, rfl, _, rfl, ?_⟩
  by_cases e2 : r = 2
  · subst e2
    refine iteT ⟨_, rfl, _, rfl, _, rfl, d, c, n + 2, _, rfl, by omega, dk2, fun o v H3 ho dk3 X3 hv => ⟨(by show 4 ≤ sizeLine; decide), fun p hp => ?_⟩⟩
    exact q (.rd u 0 o) _ _ (fun size pc ret h1 h2 => ⟨h1, h2, .inl ⟨hu4, rfl, ho⟩⟩) ((dk3.new hp).up (by omega)) (X2.trans (X3.trans (Ext.new hp))) (dp_tupO dk3 hp (.cons (.str _) (.cons (.int _) (.cons (.int _) (.cons hv .nil)))))
  rw [show decide (V.int (r : Int) = V.int 2) = false from ne_int (b := 2) e2]
  refine iteF ⟨_, rfl, rfl, _, rfl, ?_⟩
  by_cases e3 : r = 3
  · subst e3
    refine iteT ⟨_, rfl, _, rfl, d, c, n + 2, _, rfl, by omega, dk2, fun o v H3 ho dk3 X3 hv => ⟨_, rfl, _, rfl, d, c, n + 8, _, rfl, by omega, dk3, fun o2 v2 H4 ho2 dk4 X4 hv2 => ⟨(by show 4 ≤ sizeLine; decide), fun p hp => ?_⟩⟩⟩
    exact q (.wr 0 o o2) _ _ (fun size pc ret h1 h2 => ⟨h1, h2, rfl, ho, ho2⟩) ((dk4.new hp).up (by omega)) (X2.trans (X3.trans (X4.trans (Ext.new hp)))) (dp_tupO dk4 hp (.cons (.str _) (.cons (.int _) (.cons (X4.dp hv) (.cons hv2 .nil)))))
  rw [show decide (V.int (r : Int) = V.int 3) = false from ne_int (b := 3) e3]
  refine iteF ?_
  refine ⟨(by show 3 ≤ sizeLine; decide), fun p1 hp1 => ?_⟩
  have g1 := dp_tupO (K := K) (vs := [.str "load", .int 8, .int 1]) (ds := (Rw.ld 8 1).D |> fun | .tuple ds => ds | _ => []) dk2 hp1 (.cons (.str _) (.cons (.int _) (.cons (.int _) .nil)))
  have dk3 := dk2.new (o := .tup [.str "load", .int 8, .int 1]) hp1
  have X3 : Ext d c H (upd H2 p1 (.tup [.str "load", .int 8, .int 1])) := X2.trans (Ext.new hp1)
  generalize upd H2 p1 (.tup [.str "load", .int 8, .int 1]) = H3 at g1 dk3 X3 ⊢
  refine ⟨(by show 4 ≤ sizeLine; decide), fun p2 hp2 => ?_⟩
  have g2 := dp_tupO (K := K) (vs := [.str "read", .int 9, .int 1, .int 0]) (ds := (Rw.rd 9 1 (.k 0)).D |> fun | .tuple ds => ds | _ => []) dk3 hp2 (.cons (.str _) (.cons (.int _) (.cons (.int _) (.cons (.int _) .nil))))
  have dk4 := dk3.new (o := .tup [.str "read", .int 9, .int 1, .int 0]) hp2
  have g1 := Ext.dp (Ext.new (o := .tup [.str "read", .int 9, .int 1, .int 0]) hp2) g1
  have X4 : Ext d c H (upd H3 p2 (.tup [.str "read", .int 9, .int 1, .int 0])) := X3.trans (Ext.new hp2)
  generalize upd H3 p2 (.tup [.str "read", .int 9, .int 1, .int 0]) = H4 at g1 g2 dk4 X4 ⊢
  refine ⟨(by show 2 ≤ sizeLine; decide), fun p3 hp3 => ?_⟩
  have g3 := dp_tupO (K := K) (vs := [.str "var", .int 9]) (ds := [.str "var", .int 9]) dk4 hp3 (.cons (.str _) (.cons (.int _) .nil))
  have dk5 := dk4.new (o := .tup [.str "var", .int 9]) hp3
  have g1 := Ext.dp (Ext.new (o := .tup [.str "var", .int 9]) hp3) g1
  have g2 := Ext.dp (Ext.new (o := .tup [.str "var", .int 9]) hp3) g2
  have X5 : Ext d c H (upd H4 p3 (.tup [.str "var", .int 9])) := X4.trans (Ext.new hp3)
  generalize upd H4 p3 (.tup [.str "var", .int 9]) = H5 at g1 g2 g3 dk5 X5 ⊢
  refine ⟨(by show 3 ≤ sizeLine; decide), fun p4 hp4 => ?_⟩
  have g4 := dp_tupO (K := K) (vs := [.str "store", .int 1, .ref p3]) (ds := (Rw.st 1 (.v 9)).D |> fun | .tuple ds => ds | _ => []) dk5 hp4 (.cons (.str _) (.cons (.int _) (.cons g3 .nil)))
  have dk6 := dk5.new (o := .tup [.str "store", .int 1, .ref p3]) hp4
  have g1 := Ext.dp (Ext.new (o := .tup [.str "store", .int 1, .ref p3]) hp4) g1
  have g2 := Ext.dp (Ext.new (o := .tup [.str "store", .int 1, .ref p3]) hp4) g2
  have X6 : Ext d c H (upd H5 p4 (.tup [.str "store", .int 1, .ref p3])) := X5.trans (Ext.new hp4)
  generalize upd H5 p4 (.tup [.str "store", .int 1, .ref p3]) = H6 at g1 g2 g4 dk6 X6 ⊢
  refine ⟨(by show 3 ≤ sizeLine; decide), fun p5 hp5 => ?_⟩
  have g5 := dp_tupO (K := K) (vs := [.str "copy", .int 9, .int 8]) (ds := (Rw.cp 9 8).D |> fun | .tuple ds => ds | _ => []) dk6 hp5 (.cons (.str _) (.cons (.int _) (.cons (.int _) .nil)))
  have dk7 := dk6.new (o := .tup [.str "copy", .int 9, .int 8]) hp5
  have g1 := Ext.dp (Ext.new (o := .tup [.str "copy", .int 9, .int 8]) hp5) g1
  have g2 := Ext.dp (Ext.new (o := .tup [.str "copy", .int 9, .int 8]) hp5) g2
  have g4 := Ext.dp (Ext.new (o := .tup [.str "copy", .int 9, .int 8]) hp5) g4
  have X7 : Ext d c H (upd H6 p5 (.tup [.str "copy", .int 9, .int 8])) := X6.trans (Ext.new hp5)
  generalize upd H6 p5 (.tup [.str "copy", .int 9, .int 8]) = H7 at g1 g2 g4 g5 dk7 X7 ⊢
  refine ⟨(by show 4 ≤ sizeLine; decide), fun p6 hp6 => ?_⟩
  have np := dk7.has hp6
  have dk8 := dk7.new (o := .lst [.ref p1, .ref p2, .ref p4, .ref p5]) hp6
  have X78 : Ext d c H7 (upd H7 p6 (.lst [.ref p1, .ref p2, .ref p4, .ref p5])) := Ext.new hp6
  have e8 : (upd H7 p6 (.lst [.ref p1, .ref p2, .ref p4, .ref p5])) p6 = some (.lst [.ref p1, .ref p2, .ref p4, .ref p5]) := upd_same
  generalize upd H7 p6 (.lst [.ref p1, .ref p2, .ref p4, .ref p5]) = H8 at dk8 X78 e8 ⊢
  refine ⟨_, rfl, d, c, n + 2, 4, rfl, by decide, by decide, by omega, dk8, fun u H9 r0 r1 dk9 X9 => ?_⟩
  obtain ⟨u, rfl, hu4⟩ := draw_lt (many := 4) r0 r1
  have e9 := X9.at np.1 np.2 e8
  have X79 := X78.trans X9
  have dk9 : Deck d c (n + 20) H9 := dk9.up (by omega)
  have X := X7.trans X79
  match u, hu4 with
  | 0, _ => exact ⟨p6, _, _, _, rfl, rfl, .inl (.inl e9), atI_nat (j := 0) rfl, q (.ld 8 1) _ _ (fun size pc ret h1 h2 => ⟨h1, h2, .inr ⟨rfl, rfl⟩⟩) dk9 X (X79.dp g1)⟩
  | 1, _ => exact ⟨p6, _, _, _, rfl, rfl, .inl (.inl e9), atI_nat (j := 1) rfl, q (.rd 9 1 (.k 0)) _ _ (fun size pc ret h1 h2 => ⟨h1, h2, .inr ⟨rfl, rfl, rfl⟩⟩) dk9 X (X79.dp g2)⟩
  | 2, _ => exact ⟨p6, _, _, _, rfl, rfl, .inl (.inl e9), atI_nat (j := 2) rfl, q (.st 1 (.v 9)) _ _ (fun size pc ret h1 h2 => ⟨h1, h2, .inr ⟨rfl, rfl⟩⟩) dk9 X (X79.dp g4)⟩
  | 3, _ => exact ⟨p6, _, _, _, rfl, rfl, .inl (.inl e9), atI_nat (j := 3) rfl, q (.cp 9 8) _ _ (fun size pc ret h1 h2 => ⟨h1, h2, .inr ⟨rfl, rfl⟩⟩) dk9 X (X79.dp g5)⟩
set_option pp.maxSteps 600 in
theorem c_call_row (T : Txt w K mg) : Cal P w K mg base "_law_call_row" 4 ["_law_deck_here", "_law_world"] (spCallRow K) := by
  obtain ⟨fd, F⟩ := T.d__law_call_row
  have C__law_callee := c_callee (P := P) (w := w) (base := base) T
  have C__law_draw := c_draw (P := P) (w := w) (base := base) T
  have C__law_operand := c_operand (P := P) (w := w) (base := base) T
  refine ⟨⟨fd, F.ok sc__law_call_row (fun vs H Q E h => by repeat (first | (obtain ⟨e, _⟩ := h; subst e; rfl) | (obtain ⟨_, h⟩ := h))) (fun cdv A outer s H vs Q E hr h => ?_), F.bindsN fun _ _ _ _ _ _ us hl => match us, hl with | [_, _], _ => rfl⟩, T.g _ (by decide), F.kp⟩
  obtain ⟨hs, d, c, wd, n, rfl, hn, dk, W, q⟩ := h
  have hu := hu_of hr
  refine ⟨_, PSs.nox (pss_cons (ps_set (i := 2) sc__law_call_row.nd rfl (.inl rfl) (pe_ix (ix_listK (K := K) rfl) (pe_lst (pa_cons pe_non (pa_cons (pe_cal C__law_draw (hr.mono (by omega)) (by rfl) (pa_cons (pv 0) (pa_cons pe_int pa_nil))) pa_nil))) (pe_cal C__law_draw (hr.mono (by omega)) (by rfl) (pa_cons (pv 0) (pa_cons pe_int pa_nil))) (fun _ _ => rfl)))
      (pss_cons (ps_if (pt_cmpR op_eq (pe_cal C__law_draw (hr.mono (by omega)) (by rfl) (pa_cons (pv 0) (pa_cons pe_int pa_nil))) pe_int (nomark _)) (pss_one (ps_ret (pe_tup (pa_cons pe_str (pa_cons (pv 2) (pa_cons (pe_op op_add pe_int (pe_cal C__law_draw (hr.mono (by omega)) (by rfl) (pa_cons (pv 0) (pa_cons pe_int pa_nil)))) (pa_cons (pe_tup (pa_cons (pe_cal C__law_operand (hr.mono (by omega)) (by rfl) (pa_cons (pv 0) (pa_cons (pv 1) pa_nil))) pa_nil)) pa_nil))))))) pss_nil)
      (pss_cons (ps_set (i := 3) sc__law_call_row.nd rfl (.inl rfl) (pe_cal C__law_callee (hr.mono (by omega)) (by rfl) (pa_cons (pv 0) (pa_cons (pv 1) (pa_cons (pv 2) pa_nil)))))
      (pss_one (ps_ret (pe_tup (pa_cons pe_str (pa_cons (pv 2) (pa_cons (pv 3) (pa_cons (pe_callTy call_tuple_of (by rfl) T.n_tuple (by decide +kernel) (pa_cons (pe_lc (own := [("_law_slot", 4)]) (by rfl) sc__law_call_row.nd (pi_tup (pe_ix (ix_P (K := K) rfl) (pe_ix (ix_listK (K := K) rfl) (pe_dget hu (pv 1) pe_str (fun _ _ => rfl)) (pv 3) (fun _ _ => rfl)) pe_int (fun _ _ => rfl))) (blkOk_by (own := [("_law_slot", 4)]) (N := N__law_call_row) (sc := defScope s__law_call_row) (by decide +kernel)) (fun _ _ _ _ _ => (pg_name (i := 4) sc__law_call_row.nd rfl (.inl rfl))) (fun _ _ _ _ _ => pts_nil) (fun _ _ _ _ _ => (pe_cal C__law_operand (hr.mono (by omega)) (by rfl) (pa_cons (pv 0) (pa_cons (pv 1) pa_nil))))) pa_nil)) pa_nil)))))))))), ?_⟩
  have hn5 := n59 hn
  have hn6 := n60 (show n < 2 ^ 50 by omega)
  refine ⟨_, rfl, d, c, n, 4, rfl, by decide, by decide, by omega, dk, fun u H1 r0 r1 dk1 X1 => ?_⟩
  obtain ⟨u, rfl, hu4⟩ := draw_lt (many := 4) r0 r1
  refine ⟨(by show 2 ≤ sizeLine; decide), fun p hp => ?_⟩
  have np := dk1.has hp
  have X1 : Ext d c H (upd H1 p (.lst [.non, .int (u : Int)])) := X1.trans (Ext.new hp)
  have dk1 := dk1.new (o := .lst [.non, .int (u : Int)]) hp
  have e1 : (upd H1 p (.lst [.non, .int (u : Int)])) p = some (.lst [.non, .int (u : Int)]) := upd_same
  generalize upd H1 p (.lst [.non, .int (u : Int)]) = H2 at X1 dk1 e1 ⊢
  refine ⟨_, rfl, d, c, n + 1, 2, rfl, by decide, by decide, by omega, dk1, fun b H3 r0 r1 dk3 X3 => ?_⟩
  obtain ⟨b, rfl, hb2⟩ := draw_lt (many := 2) r0 r1
  have e3 := X3.at np.1 np.2 e1
  have X3 := X1.trans X3
  obtain ⟨t, ht, hat⟩ : ∃ t : Option Nat, (∀ s, t = some s → s < 4) ∧ atI [V.non, .int (u : Int)] (b : Int) = some (optV t) := by
    match b, hb2 with
    | 0, _ => exact ⟨none, (fun _ h => nomatch h), atI_nat (j := 0) rfl⟩
    | 1, _ => exact ⟨some u, (fun s h => by cases h; exact hu4), atI_nat (j := 1) rfl⟩
  refine ⟨p, _, _, _, rfl, rfl, .inl (.inl e3), hat, ?_⟩
  have gt : ∀ H : Hp, Dp K H (optV t) (optD t) := fun H => by
    cases t with
    | none => exact .non
    | some t => exact .int _
  clear hat e3
  refine ⟨_, rfl, d, c, n + 2, 3, rfl, by decide, by decide, by omega, dk3, fun r H4 r0 r1 dk4 X4 => ?_⟩
  obtain ⟨r, rfl, hr3⟩ := draw_lt (many := 3) r0 r1
  have X4 := X3.trans X4
  refine ⟨rfl, _, rfl, ?_⟩
  by_cases e0 : r = 0
  · subst e0
    refine iteT ⟨_, rfl, _, rfl, d, c, n + 3, 2, rfl, by decide, by decide, by omega, dk4, fun r H5 r0 r1 dk5 X5 => ?_⟩
    obtain ⟨r, rfl, hr2⟩ := draw_lt (many := 2) r0 r1
    refine ⟨_, _, rfl, rfl, _, rfl, _, rfl, d, c, n + 4, _, rfl, by omega, dk5, fun o v H6 ho dk6 X6 hv => ⟨(by show 1 ≤ sizeLine; decide), fun p1 hp1 => ⟨(by show 4 ≤ sizeLine; decide), fun p2 hp2 => ?_⟩⟩⟩
    have g1 := dp_tupO dk6 hp1 (.cons hv .nil)
    have dk7 := dk6.new (o := .tup [v]) hp1
    have e8 : (8 : Int) + (r : Int) = ((8 + r : Nat) : Int) := by omega
    have g2 := dp_tupO dk7 hp2 (.cons (.str "apply") (.cons (gt _) (.cons (show Dp K _ (.int (8 + (r : Int))) (.int ((8 + r : Nat) : Int)) by rw [e8]; exact .int _) (.cons g1 .nil))))
    exact q (.ap t (8 + r) o) _ _ (fun size pc ret h1 h2 => ⟨h1, h2, ht, by omega, ho⟩) ((dk7.new hp2).up (by omega)) (X4.trans (X5.trans (X6.trans ((Ext.new hp1).trans (Ext.new hp2))))) g2
  rw [show decide (V.int (r : Int) = V.int 0) = false from ne_int (b := 0) e0]
  refine iteF ⟨_, rfl, _, rfl, _, rfl, hs, d, c, wd, n + 3, t, rfl, by omega, dk4, W.mono X4, fun k e H5 he hte dk5 X5 => ?_⟩
  have X5 := X4.trans X5
  have W5 := W.mono X5
  obtain ⟨ha, sa, xs, ss, w1, w2, w3, w4⟩ := W5.ex
  have hek := (List.getElem?_eq_some_iff.mp he).1
  have hxl := dpAll_len w3
  rw [List.length_map] at hxl
  obtain ⟨w2', nh1, nh2⟩ := off_at w2
  have hke : (hs.map hdD)[k]? = some (hdD e) := by rw [List.getElem?_map, he]; rfl
  obtain ⟨xe, hxe, gxe⟩ := dpAll_getD w3 hke
  refine ⟨_, rfl, _, rfl, ?_⟩
  refine ⟨_, rfl, _, _, rfl, DGet.k (k := Sum.inr "heads") (off_at w1).1, _, rfl, ha, xs, _, xe, rfl, rfl, .inl (.inl w2'), atI_nat hxe, _, 0, _, offD gxe, rfl, rfl, fun z hz => ?_⟩
  cases hz with
  | @tup pa px _ sqp hpp =>
  have hpl := dpAll_len hpp
  rw [List.length_map] at hpl
  have hel := (W.ok.2.2 e (List.mem_of_getElem? he)).1
  refine ⟨pa, rfl, ⟨px, sqp⟩, fun D hD => ?_⟩
  have nD := dk5.has hD
  refine lc_tup (xs := px) (fun i H6 => ∃ us os, H6 D = some (.lst us) ∧ DpAll K (off d c H6) us ((os : List Op).map Op.D) ∧ os.length = i ∧ (∀ o ∈ os, OpOk o) ∧ Deck d c (n + 4 + 6 * i) H6 ∧ Ext d c H5 H6) ⟨[], [], upd_same, .nil, rfl, (fun _ h => nomatch h), dk5.new hD, Ext.new hD⟩ ?_ ?_ ?_
  · rintro i H6 _ ⟨_, _, _, _, _, _, _, X6⟩
    exact sqT_kt (ext_kt dk5 X6) sqp
  · rintro i x H6 hi ⟨us, os, h6, hus, hol, hos, dk6, X6⟩
    have hi4 : i < px.length := (List.getElem?_eq_some_iff.mp hi).1
    refine ⟨rfl, tyes ⟨_, rfl, _, rfl, d, c, _, _, rfl, by omega, dk6, fun o v H7 ho dk7 X7 hv => ?_⟩⟩
    have h7 := X7.at nD.1 nD.2 h6
    have hul := dpAll_len hus
    rw [List.length_map] at hul
    refine ⟨us, h7, small_line (by omega), us ++ [v], os ++ [o], upd_same, ?_, by rw [List.length_append, hol]; rfl, fun o' h => ?_, dk7.upd nD.1 nD.2, (X6.trans X7).mut hD⟩
    · rw [List.map_append]
      exact lst_step nD h6 hus (nlAll nlO) X7 hv (nlO o)
    · rcases List.mem_append.mp h with h | h
      · exact hos o' h
      · rw [List.mem_singleton.mp h]; exact ho
  rintro H6 ⟨us, os, h6, hus, hol, hos, dk6, X6⟩
  refine ⟨D, us, rfl, .inl ⟨.inl (.inl h6), fun p1 hp1 => ⟨(by show 4 ≤ sizeLine; decide), fun p2 hp2 => ?_⟩⟩⟩
  have g1 := dp_tupO dk6 hp1 hus
  have dk7 := dk6.new (o := .tup us) hp1
  have g2 := dp_tupO dk7 hp2 (.cons (.str "call") (.cons (gt _) (.cons (.int (k : Int)) (.cons g1 .nil))))
  exact q (.ca t k os) _ _ (fun size pc ret h1 h2 => ⟨h1, h2, _, imH_at he, fun s hs => ⟨ht s hs, hte s hs⟩, by show os.length = e.1.length; omega, hos⟩) ((dk7.new hp2).up (by omega)) (X5.trans (X6.trans ((Ext.new hp1).trans (Ext.new hp2)))) g2
end
end K18

set_option maxHeartbeats 4000000
namespace K18
open PySem PySem.Spec PyProof.Rows L2 HG P18
theorem lt_dec {a b : Nat} : decide ((a : Int) < (b : Int)) = decide (a < b) := by
  by_cases h : a < b
  · rw [decide_eq_true h, decide_eq_true (show (a : Int) < (b : Int) by omega)]
  · rw [decide_eq_false h, decide_eq_false (show ¬ (a : Int) < (b : Int) by omega)]
section
variable {P : Program} {w : World} {K : PySem.W.Frag} {mg : Str → Option Value} {base : Heap}
set_option pp.maxSteps 600 in
theorem c_row (T : Txt w K mg) : Cal P w K mg base "_law_row" 5 ["_law_deck_here", "_law_world", "_law_at", "_law_size"] (spRow K) := by
  obtain ⟨fd, F⟩ := T.d__law_row
  have C__law_draw := c_draw (P := P) (w := w) (base := base) T
  have C__law_pick := c_pick (P := P) (w := w) (base := base) T
  have C__law_data_row := c_data_row (P := P) (w := w) (base := base) T
  have C__law_call_row := c_call_row (P := P) (w := w) (base := base) T
  have C__law_operand := c_operand (P := P) (w := w) (base := base) T
  refine ⟨⟨fd, F.ok sc__law_row (fun vs H Q E h => by repeat (first | (obtain ⟨e, _⟩ := h; subst e; rfl) | (obtain ⟨_, h⟩ := h))) (fun cdv A outer s H vs Q E hr h => ?_), F.bindsN fun _ _ _ _ _ _ us hl => match us, hl with | [_, _, _, _], _ => rfl⟩, T.g _ (by decide), F.kp⟩
  obtain ⟨hs, d, c, wd, n, size, x, rfl, hn, hs0, hs1, dk, W, q⟩ := h
  have hu := hu_of hr
  refine ⟨_, PSs.nox (pss_cons (ps_par (i := 4) (j := 5) rfl sc__law_row.nd rfl rfl (by decide) rfl rfl (pa_cons (pe_cal C__law_draw (hr.mono (by omega)) (by rfl) (pa_cons (pv 0) (pa_cons pe_int pa_nil))) (pa_cons (pe_cal C__law_draw (hr.mono (by omega)) (by rfl) (pa_cons (pv 0) (pa_cons pe_int pa_nil))) pa_nil)) (by rfl))
      (pss_cons (ps_if (pt_cmpR op_lt (pv 4) pe_int (nomark _)) (pss_cons (ps_set (i := 6) sc__law_row.nd rfl (.inl rfl) (pe_cal C__law_pick (hr.mono (by omega)) (by rfl) (pa_cons (pv 0) (pa_cons (pe_lst (pa_cons pe_str (pa_cons pe_str (pa_cons pe_str (pa_cons pe_str (pa_cons pe_str (pa_cons pe_str (pa_cons pe_str (pa_cons pe_str pa_nil))))))))) pa_nil))))
      (pss_one (ps_ret (pe_tup (pa_cons pe_str (pa_cons (pv 5) (pa_cons (pv 6) (pa_cons (pe_cal C__law_operand (hr.mono (by omega)) (by rfl) (pa_cons (pv 0) (pa_cons (pv 1) pa_nil))) (pa_cons (pe_cal C__law_operand (hr.mono (by omega)) (by rfl) (pa_cons (pv 0) (pa_cons (pv 1) pa_nil))) pa_nil))))))))) pss_nil)
      (pss_cons (ps_if (pt_cmpR op_lt (pv 4) pe_int (nomark _)) (pss_one (ps_ret (pe_tup (pa_cons pe_str (pa_cons (pe_cal C__law_operand (hr.mono (by omega)) (by rfl) (pa_cons (pv 0) (pa_cons (pv 1) pa_nil))) pa_nil))))) pss_nil)
      (pss_cons (ps_if (pt_cmpR op_lt (pv 4) pe_int (nomark _)) (pss_one (ps_ret (pe_ix (ix_listK (K := K) rfl) (pe_lst (pa_cons (pe_tup (pa_cons pe_str (pa_cons (pv 5) (pa_cons (pe_cal C__law_draw (hr.mono (by omega)) (by rfl) (pa_cons (pv 0) (pa_cons pe_int pa_nil))) pa_nil)))) (pa_cons (pe_tup (pa_cons pe_str (pa_cons (pv 5) (pa_cons (pe_cal C__law_draw (hr.mono (by omega)) (by rfl) (pa_cons (pv 0) (pa_cons pe_int pa_nil))) pa_nil)))) pa_nil))) (pe_op op_sub (pv 4) pe_int) (fun _ _ => rfl)))) pss_nil)
      (pss_cons (ps_if (pt_cmpR op_lt (pv 4) pe_int (nomark _)) (pss_one (ps_ret (pe_cal C__law_data_row (hr.mono (by omega)) (by rfl) (pa_cons (pv 0) (pa_cons (pv 1) (pa_cons (pv 2) (pa_cons (pv 3) pa_nil))))))) pss_nil)
      (pss_cons (ps_if (pt_cmpR op_lt (pv 4) pe_int (nomark _)) (pss_one (ps_ret (pe_cal C__law_call_row (hr.mono (by omega)) (by rfl) (pa_cons (pv 0) (pa_cons (pv 1) pa_nil))))) pss_nil)
      (pss_cons (ps_if (PW.pt (pw_and (pt_cmpR op_eq (pv 4) pe_int (nomark _)) (pw_and1 (pt_cmpR op_eq (pe_cal C__law_draw (hr.mono (by omega)) (by rfl) (pa_cons (pv 0) (pa_cons pe_int pa_nil))) pe_int (nomark _))))) (pss_one (ps_ret (pe_tup (pa_cons pe_str (pa_cons (pe_cal C__law_draw (hr.mono (by omega)) (by rfl) (pa_cons (pv 0) (pa_cons pe_int pa_nil))) pa_nil))))) pss_nil)
      (pss_cons (ps_set (i := 7) sc__law_row.nd rfl (.inl rfl) (pe_cal C__law_draw (hr.mono (by omega)) (by rfl) (pa_cons (pv 0) (pa_cons (pv 3) pa_nil))))
      (pss_one (ps_ret (pe_ix (ix_listK (K := K) rfl) (pe_lst (pa_cons (pe_tup (pa_cons pe_str (pa_cons (pv 7) pa_nil))) (pa_cons (pe_tup (pa_cons pe_str (pa_cons (pe_cal C__law_operand (hr.mono (by omega)) (by rfl) (pa_cons (pv 0) (pa_cons (pv 1) pa_nil))) (pa_cons (pv 7) pa_nil)))) (pa_cons (pe_tup (pa_cons pe_str (pa_cons (pe_tup (pa_cons pe_str (pa_cons (pv 5) pa_nil))) (pa_cons (pv 7) pa_nil)))) pa_nil)))) (pe_op op_mod (pv 4) pe_int) (fun _ _ => rfl)))))))))))), ?_⟩
  have hn5 := n58 hn
  have hn6 := n60 (show n < 2 ^ 50 by omega)
  refine ⟨_, rfl, d, c, n, 16, rfl, by decide, by decide, by omega, dk, fun r H1 r0 r1 dk1 X1 => ?_⟩
  obtain ⟨r, rfl, hr16⟩ := draw_lt (many := 16) r0 r1
  refine ⟨_, rfl, d, c, n + 1, 4, rfl, by decide, by decide, by omega, dk1, fun u H2 r0 r1 dk2 X2 => ?_⟩
  obtain ⟨u, rfl, hu4⟩ := draw_lt (many := 4) r0 r1
  have X2 := X1.trans X2
  have W2 := W.mono X2
  refine ⟨_, _, rfl, _, rfl, _, _, rfl, rfl, _, rfl, ?_⟩
  by_cases e0 : r < 4
  · rw [show decide ((r : Int) < 4) = true from decide_eq_true (by omega)]
    refine iteT ⟨_, rfl, (by show 8 ≤ sizeLine; decide), fun p hp => ?_⟩
    have np := dk2.has hp
    have dk3 := dk2.new (o := .lst (ops8.map V.str)) hp
    have X3 : Ext d c H2 (upd H2 p (.lst (ops8.map V.str))) := Ext.new hp
    have e3 : (upd H2 p (.lst (ops8.map V.str))) p = some (.lst (ops8.map V.str)) := upd_same
    generalize eH : upd H2 p (.lst (ops8.map V.str)) = H3 at dk3 X3 e3
    have eH' : upd H2 p (.lst [.str "add", .str "sub", .str "mul", .str "div", .str "rem", .str "less", .str "same", .str "xor"]) = H3 := eH
    rw [eH']
    refine ⟨d, c, n + 2, p, ops8.map V.str, rfl, by omega, dk3, .inl (.inl ?_), by show 0 < 8; decide, by show 8 ≤ 1000; decide, fun y H4 hy dk4 X4 => ?_⟩
    · rw [off_get np.1 np.2]
      exact e3
    obtain ⟨o, ho, rfl⟩ := List.mem_map.mp hy
    have X4 := X2.trans (X3.trans X4)
    refine ⟨_, rfl, _, rfl, _, rfl, _, rfl, d, c, n + 3, _, rfl, by omega, dk4, fun a va H5 ha dk5 X5 hva => ?_⟩
    refine ⟨_, rfl, _, rfl, d, c, n + 9, _, rfl, by omega, dk5, fun b vb H6 hb dk6 X6 hvb => ⟨(by show 5 ≤ sizeLine; decide), fun p1 hp1 => ?_⟩⟩
    exact q (.op u o a b) _ _ (fun pc ret h1 h2 => ⟨h1, h2, hu4, ho, ha, hb⟩) ((dk6.new hp1).up (by omega)) (X4.trans (X5.trans (X6.trans (Ext.new hp1)))) (dp_tupO dk6 hp1 (.cons (.str "op") (.cons (.int (u : Int)) (.cons (.str o) (.cons (X6.dp hva) (.cons hvb .nil))))))
  rw [show decide ((r : Int) < 4) = false from decide_eq_false (by omega)]
  refine iteF ⟨_, rfl, _, _, rfl, rfl, _, rfl, ?_⟩
  by_cases e1 : r < 6
  · rw [show decide ((r : Int) < 6) = true from decide_eq_true (by omega)]
    refine iteT ⟨_, rfl, _, rfl, d, c, n + 2, _, rfl, by omega, dk2, fun a va H3 ha dk3 X3 hva => ⟨(by show 2 ≤ sizeLine; decide), fun p1 hp1 => ?_⟩⟩
    exact q (.pr a) _ _ (fun pc ret h1 h2 => ⟨h1, h2, ha⟩) ((dk3.new hp1).up (by omega)) (X2.trans (X3.trans (Ext.new hp1))) (dp_tupO dk3 hp1 (.cons (.str "print") (.cons hva .nil)))
  rw [show decide ((r : Int) < 6) = false from decide_eq_false (by omega)]
  refine iteF ⟨_, rfl, _, _, rfl, rfl, _, rfl, ?_⟩
  by_cases e2 : r < 8
  · rw [show decide ((r : Int) < 8) = true from decide_eq_true (by omega)]
    refine iteT ⟨_, rfl, _, rfl, d, c, n + 2, 9, rfl, by decide, by decide, by omega, dk2, fun m1 H3 r0 r1 dk3 X3 => ?_⟩
    obtain ⟨m1, rfl, hm1⟩ := draw_lt (many := 9) r0 r1
    refine ⟨(by show 3 ≤ sizeLine; decide), fun p1 hp1 => ?_⟩
    have g1 := dp_tupO (K := K) dk3 hp1 (.cons (.str "const") (.cons (.int (u : Int)) (.cons (.int (m1 : Int)) .nil)))
    have dk3 := dk3.new (o := .tup [.str "const", .int (u : Int), .int (m1 : Int)]) hp1
    have X3 : Ext d c H2 (upd H3 p1 (.tup [.str "const", .int (u : Int), .int (m1 : Int)])) := X3.trans (Ext.new hp1)
    generalize upd H3 p1 (.tup [.str "const", .int (u : Int), .int (m1 : Int)]) = H4 at g1 dk3 X3 ⊢
    refine ⟨_, rfl, _, rfl, d, c, n + 3, 4, rfl, by decide, by decide, by omega, dk3, fun m2 H5 r0 r1 dk5 X5 => ?_⟩
    obtain ⟨m2, rfl, hm2⟩ := draw_lt (many := 4) r0 r1
    refine ⟨(by show 3 ≤ sizeLine; decide), fun p2 hp2 => ?_⟩
    have g2 := dp_tupO (K := K) dk5 hp2 (.cons (.str "copy") (.cons (.int (u : Int)) (.cons (.int (m2 : Int)) .nil)))
    have dk6 := dk5.new (o := .tup [.str "copy", .int (u : Int), .int (m2 : Int)]) hp2
    have X6 : Ext d c H4 (upd H5 p2 (.tup [.str "copy", .int (u : Int), .int (m2 : Int)])) := X5.trans (Ext.new hp2)
    have g1 := X6.dp g1
    have X6 := X2.trans (X3.trans X6)
    generalize upd H5 p2 (.tup [.str "copy", .int (u : Int), .int (m2 : Int)]) = H6 at g1 g2 dk6 X6 ⊢
    refine ⟨(by show 2 ≤ sizeLine; decide), fun p3 hp3 => ?_⟩
    have X7 : Ext d c H6 (upd H6 p3 (.lst [.ref p1, .ref p2])) := Ext.new hp3
    have e7 : (upd H6 p3 (.lst [.ref p1, .ref p2])) p3 = some (.lst [.ref p1, .ref p2]) := upd_same
    have dk7 := dk6.new (o := .lst [.ref p1, .ref p2]) hp3
    generalize upd H6 p3 (.lst [.ref p1, .ref p2]) = H7 at X7 e7 dk7 ⊢
    refine ⟨_, rfl, _, _, rfl, rfl, ?_⟩
    have hr2 : r = 6 ∨ r = 7 := by omega
    rcases hr2 with rfl | rfl
    · exact ⟨p3, _, _, _, rfl, rfl, .inl (.inl e7), atI_nat (j := 0) rfl, q (.cw u m1) _ _ (fun pc ret h1 h2 => ⟨h1, h2, hu4, by omega⟩) (dk7.up (by omega)) (X6.trans X7) (X7.dp g1)⟩
    · exact ⟨p3, _, _, _, rfl, rfl, .inl (.inl e7), atI_nat (j := 1) rfl, q (.cp u m2) _ _ (fun pc ret h1 h2 => ⟨h1, h2, .inl ⟨hu4, hm2⟩⟩) (dk7.up (by omega)) (X6.trans X7) (X7.dp g2)⟩
  rw [show decide ((r : Int) < 8) = false from decide_eq_false (by omega)]
  refine iteF ⟨_, rfl, _, _, rfl, rfl, _, rfl, ?_⟩
  by_cases e3 : r < 11
  · rw [show decide ((r : Int) < 11) = true from decide_eq_true (by omega)]
    exact iteT ⟨_, rfl, _, rfl, _, rfl, _, rfl, hs, d, c, wd, n + 2, _, _, rfl, by omega, dk2, W2, fun R v H3 hR dk3 X3 hv => q R v H3 (hR size) (dk3.up (by omega)) (X2.trans X3) hv⟩
  rw [show decide ((r : Int) < 11) = false from decide_eq_false (by omega)]
  refine iteF ⟨_, rfl, _, _, rfl, rfl, _, rfl, ?_⟩
  by_cases e4 : r < 13
  · rw [show decide ((r : Int) < 13) = true from decide_eq_true (by omega)]
    exact iteT ⟨_, rfl, _, rfl, hs, d, c, wd, n + 2, rfl, by omega, dk2, W2, fun R v H3 hR dk3 X3 hv => q R v H3 (hR size) (dk3.up (by omega)) (X2.trans X3) hv⟩
  rw [show decide ((r : Int) < 13) = false from decide_eq_false (by omega)]
  refine iteF ?_
  have rest : ∀ H3, Deck d c (n + 3) H3 → Ext d c H H3 →
      tSeq (tAsg (tCall spDraw [] E0 (tCons (tVar 0) (tCons (tVar 3) tNil))) (gName 7))
            (tRet
              (tOp (rIxL K)
                (tLst
                  (tCons (tTup (tCons (tC (V.str "jump")) (tCons (tVar 7) tNil)))
                    (tCons
                      (tTup
                        (tCons (tC (V.str "branch"))
                          (tCons (tCall (spOperand K) [] E0 (tCons (tVar 0) (tCons (tVar 1) tNil)))
                            (tCons (tVar 7) tNil))))
                      (tCons
                        (tTup
                          (tCons (tC (V.str "unless"))
                            (tCons (tTup (tCons (tC (V.str "var")) (tCons (tVar 5) tNil)))
                              (tCons (tVar 7) tNil))))
                        tNil))))
                (tOp (rI (fun x j => 0 < j) fun i j => V.int (i % j)) (tVar 4) (tC (V.int 3)))))
          { nx := fun x H' => Q V.non H', rt := Q } (((L2.start N__law_row [V.ref d, V.ref wd, x, nV size]).set 4 (some (V.int (r : Int)))).set 5 (some (V.int (u : Int)))) H3 := by
    intro H3 dk3 X3
    refine ⟨_, rfl, _, rfl, d, c, n + 3, size, rfl, by omega, many40 (by omega), by omega, dk3, fun m H4 r0 r1 dk4 X4 => ?_⟩
    obtain ⟨m, rfl, hm⟩ := draw_lt (many := size) r0 r1
    have X4 := X3.trans X4
    refine ⟨_, rfl, (by show 2 ≤ sizeLine; decide), fun p1 hp1 => ?_⟩
    have g1 := dp_tupO (K := K) dk4 hp1 (.cons (.str "jump") (.cons (.int (m : Int)) .nil))
    have dk5 := dk4.new (o := .tup [.str "jump", .int (m : Int)]) hp1
    have X5 : Ext d c H (upd H4 p1 (.tup [.str "jump", .int (m : Int)])) := X4.trans (Ext.new hp1)
    generalize upd H4 p1 (.tup [.str "jump", .int (m : Int)]) = H5 at g1 dk5 X5 ⊢
    refine ⟨_, rfl, _, rfl, d, c, n + 4, _, rfl, by omega, dk5, fun a va H6 ha dk6 X6 hva => ⟨_, rfl, (by show 3 ≤ sizeLine; decide), fun p2 hp2 => ?_⟩⟩
    have g2 := dp_tupO (K := K) dk6 hp2 (.cons (.str "branch") (.cons hva (.cons (.int (m : Int)) .nil)))
    have dk7 := dk6.new (o := .tup [.str "branch", va, .int (m : Int)]) hp2
    have X7 : Ext d c H5 (upd H6 p2 (.tup [.str "branch", va, .int (m : Int)])) := X6.trans (Ext.new hp2)
    have g1 := X7.dp g1
    have X7 := X5.trans X7
    generalize upd H6 p2 (.tup [.str "branch", va, .int (m : Int)]) = H7 at g1 g2 dk7 X7 ⊢
    refine ⟨_, rfl, (by show 2 ≤ sizeLine; decide), fun p3 hp3 => ?_⟩
    have g3 := dp_tupO (K := K) dk7 hp3 (.cons (.str "var") (.cons (.int (u : Int)) .nil))
    have dk8 := dk7.new (o := .tup [.str "var", .int (u : Int)]) hp3
    have X8 : Ext d c H7 (upd H7 p3 (.tup [.str "var", .int (u : Int)])) := Ext.new hp3
    have g1 := X8.dp g1
    have g2 := X8.dp g2
    have X8 := X7.trans X8
    generalize upd H7 p3 (.tup [.str "var", .int (u : Int)]) = H8 at g1 g2 g3 dk8 X8 ⊢
    refine ⟨_, rfl, (by show 3 ≤ sizeLine; decide), fun p4 hp4 => ?_⟩
    have g4 := dp_tupO (K := K) dk8 hp4 (.cons (.str "unless") (.cons g3 (.cons (.int (m : Int)) .nil)))
    have dk9 := dk8.new (o := .tup [.str "unless", .ref p3, .int (m : Int)]) hp4
    have X9 : Ext d c H8 (upd H8 p4 (.tup [.str "unless", .ref p3, .int (m : Int)])) := Ext.new hp4
    have g1 := X9.dp g1
    have g2 := X9.dp g2
    have X9 := X8.trans X9
    generalize upd H8 p4 (.tup [.str "unless", .ref p3, .int (m : Int)]) = H9 at g1 g2 g4 dk9 X9 ⊢
    refine ⟨(by show 3 ≤ sizeLine; decide), fun p5 hp5 => ?_⟩
    have X10 : Ext d c H9 (upd H9 p5 (.lst [.ref p1, .ref p2, .ref p4])) := Ext.new hp5
    have e10 : (upd H9 p5 (.lst [.ref p1, .ref p2, .ref p4])) p5 = some (.lst [.ref p1, .ref p2, .ref p4]) := upd_same
    have dk10 := dk9.new (o := .lst [.ref p1, .ref p2, .ref p4]) hp5
    generalize upd H9 p5 (.lst [.ref p1, .ref p2, .ref p4]) = H10 at X10 e10 dk10 ⊢
    have dkE : Deck d c (n + 50) H10 := dk10.up (by omega)
    refine ⟨_, rfl, _, _, rfl, rfl, (by decide : (0 : Int) < 3), ?_⟩
    have e3 : ((r : Int) % 3) = ((r % 3 : Nat) : Int) := by omega
    have h3 : r % 3 = 0 ∨ r % 3 = 1 ∨ r % 3 = 2 := by omega
    rcases h3 with h3 | h3 | h3
    · exact ⟨p5, _, _, _, rfl, rfl, .inl (.inl e10), by rw [e3, h3]; exact atI_nat (j := 0) rfl, q (.jp m) _ _ (fun pc ret h1 h2 => ⟨h1, h2, hm⟩) dkE (X9.trans X10) (X10.dp g1)⟩
    · exact ⟨p5, _, _, _, rfl, rfl, .inl (.inl e10), by rw [e3, h3]; exact atI_nat (j := 1) rfl, q (.br a m) _ _ (fun pc ret h1 h2 => ⟨h1, h2, ha, hm⟩) dkE (X9.trans X10) (X10.dp g2)⟩
    · exact ⟨p5, _, _, _, rfl, rfl, .inl (.inl e10), by rw [e3, h3]; exact atI_nat (j := 2) rfl, q (.un u m) _ _ (fun pc ret h1 h2 => ⟨h1, h2, hu4, hm⟩) dkE (X9.trans X10) (X10.dp g4)⟩
  refine ⟨_, rfl, rfl, _, rfl, ?_⟩
  by_cases e5 : r = 13
  · rw [show decide (V.int (r : Int) = V.int 13) = true from decide_eq_true (by rw [e5]; rfl)]
    refine iteT ⟨_, rfl, d, c, n + 2, 8, rfl, by decide, by decide, by omega, dk2, fun m H3 r0 r1 dk3 X3 => ?_⟩
    obtain ⟨m, rfl, hm⟩ := draw_lt (many := 8) r0 r1
    have X3 := X2.trans X3
    refine ⟨rfl, _, rfl, ?_⟩
    by_cases e6 : m = 0
    · rw [show decide (V.int (m : Int) = V.int 0) = true from decide_eq_true (by rw [e6]; rfl)]
      refine iteT ⟨_, rfl, d, c, n + 3, 9, rfl, by decide, by decide, by omega, dk3, fun m H4 r0 r1 dk4 X4 => ?_⟩
      obtain ⟨m, rfl, hm⟩ := draw_lt (many := 9) r0 r1
      refine ⟨(by show 2 ≤ sizeLine; decide), fun p1 hp1 => ?_⟩
      exact q (.ha m) _ _ (fun pc ret h1 h2 => ⟨h1, h2, by omega⟩) ((dk4.new hp1).up (by omega)) (X3.trans (X4.trans (Ext.new hp1))) (dp_tupO dk4 hp1 (.cons (.str "halt") (.cons (.int (m : Int)) .nil)))
    · rw [show decide (V.int (m : Int) = V.int 0) = false from ne_int (b := 0) e6]
      exact iteF (rest H3 dk3 X3)
  · rw [show decide (V.int (r : Int) = V.int 13) = false from ne_int (b := 13) e5]
    exact iteF (iteF (rest H2 (dk2.up (by omega)) X2))
end
end K18

set_option maxHeartbeats 4000000
namespace K18
open PySem PySem.Spec PyProof.Rows L2 HG P18
def spCode (K : PySem.W.Frag) : Sp := fun vs H Q _ => ∃ (hs : List (List Nat × Bool)) (d c wd : Addr) (n : Nat) (x : V) (e : List Nat × Bool), vs = [.ref d, .ref wd, x] ∧ n < 2 ^ 47 ∧ Deck d c n H ∧ Wd K (off d c H) wd hs ∧ Dp K (off d c H) x (hdD e) ∧ e ∈ hs ∧
  ∀ (cd : Cd) (v : V) (H' : Hp), cd.ps = e.1 → cd.ret = e.2 → CdOk (imH hs) cd → Deck d c (n + 800) H' → Ext d c H H' → Dp K (off d c H') v cd.D → Q v H'
theorem n57 {n : Nat} (h : n < 2 ^ 47) : n + 1000 < 2 ^ 48 := by
  have : (2 : Nat) ^ 47 + 1000 < 2 ^ 48 := by decide
  omega
theorem if_call {b : Bool} {sp : Sp} {dvs : List V} {E : XK} {t : TA} {σ : L2.St} {H : Hp} {k : VK} {v : V} {Pre : V → Hp → Prop} (h1 : b = true → (∀ y H', Pre y H' → k y H') → tCall sp dvs E t σ H k) (h2 : b = false → Pre v H) (hk : ∀ y H', Pre y H' → k y H') :
    if b = true then tCall sp dvs E t σ H k else tC v σ H k := by
  cases b with
  | true => exact iteT (h1 rfl hk)
  | false => exact iteF (hk _ _ (h2 rfl))
section
variable {P : Program} {w : World} {K : PySem.W.Frag} {mg : Str → Option Value} {base : Heap}
set_option pp.maxSteps 600 in
theorem c_code (T : Txt w K mg) : Cal P w K mg base "_law_code" 6 ["_law_deck_here", "_law_world", "_law_head"] (spCode K) := by
  obtain ⟨fd, F⟩ := T.d__law_code
  have C__law_draw := c_draw (P := P) (w := w) (base := base) T
  have C__law_row := c_row (P := P) (w := w) (base := base) T
  have C__law_pick := c_pick (P := P) (w := w) (base := base) T
  have C__law_operand := c_operand (P := P) (w := w) (base := base) T
  refine ⟨⟨fd, F.ok sc__law_code (fun vs H Q E h => by repeat (first | (obtain ⟨e, _⟩ := h; subst e; rfl) | (obtain ⟨_, h⟩ := h))) (fun cdv A outer s H vs Q E hr h => ?_), F.bindsN fun _ _ _ _ _ _ us hl => match us, hl with | [_, _, _], _ => rfl⟩, T.g _ (by decide), F.kp⟩
  obtain ⟨hs, d, c, wd, n, x, e, rfl, hn, dk, W, hx, he, q⟩ := h
  have hu := hu_of hr
  refine ⟨_, PSs.nox (pss_cons (ps_set (i := 3) sc__law_code.nd rfl (.inl rfl) (pe_op op_add pe_int (pe_cal C__law_draw (hr.mono (by omega)) (by rfl) (pa_cons (pv 0) (pa_cons pe_int pa_nil)))))
      (pss_cons (ps_setLc (i := 4) (own := [("_law_k", 6)]) (by rfl) sc__law_code.nd rfl rfl (sw_true rfl rfl rfl (by decide +kernel)) (pi_range1 (by rfl) T.n_range (pa_cons pe_int pa_nil)) (blkOk_by (own := [("_law_k", 6)]) (N := N__law_code) (sc := defScope s__law_code) (by decide +kernel)) (fun _ _ _ _ _ => (pg_name (i := 6) sc__law_code.nd rfl (.inl rfl))) (fun _ _ _ _ _ => pts_nil) (fun _ _ _ _ _ => (pe_tup (pa_cons pe_str (pa_cons (pe_op op_add pe_int (pv 6)) (pa_cons (pe_tup (pa_cons pe_str (pa_cons (pe_cal C__law_pick (hr.mono (by omega)) (by rfl) (pa_cons (pv 0) (pa_cons (pe_dget hu (pv 1) pe_str (fun _ _ => rfl)) pa_nil))) pa_nil))) pa_nil))))))
      (pss_cons (ps_for PassesOwn.never rfl (pi_range2 (by rfl) T.n_range (pa_cons pe_int (pa_cons (pe_op op_sub (pv 3) pe_int) pa_nil))) (pg_name (i := 5) sc__law_code.nd rfl (.inl rfl)) (pss_one (ps_expr (pe_bm PySem.F.plainAttrs_list PySem.F.slot_list_append PySem.F.type_list_append mt_append (pv 4) (pa_cons (pe_cal C__law_row (hr.mono (by omega)) (by rfl) (pa_cons (pv 0) (pa_cons (pv 1) (pa_cons (pv 5) (pa_cons (pv 3) pa_nil))))) pa_nil)))))
      (pss_one (ps_ret (pe_tup (pa_cons (pe_ix (ix_P (K := K) rfl) (pv 2) pe_int (fun _ _ => rfl)) (pa_cons (pe_ix (ix_P (K := K) rfl) (pv 2) pe_int (fun _ _ => rfl)) (pa_cons (pe_callTy call_tuple_of (by rfl) T.n_tuple (by decide +kernel) (pa_cons (pe_op op_cat (pv 4) (pe_lst (pa_cons (pe_tup (pa_cons pe_str (pa_cons (pe_ifExp (pt_val (pe_ix (ix_P (K := K) rfl) (pv 2) pe_int (fun _ _ => rfl))) (pe_cal C__law_operand (hr.mono (by omega)) (by rfl) (pa_cons (pv 0) (pa_cons (pv 1) pa_nil))) pe_non) pa_nil))) pa_nil))) pa_nil)) pa_nil))))))))), ?_⟩
  have hn5 := n57 hn
  have hn6 := n60 (show n < 2 ^ 50 by omega)
  refine ⟨_, rfl, d, c, n, 8, rfl, by decide, by decide, by omega, dk, fun s H1 r0 r1 dk1 X1 => ?_⟩
  obtain ⟨s, rfl, hs8⟩ := draw_lt (many := 8) r0 r1
  refine ⟨_, _, rfl, rfl, ?_⟩
  have es : (5 : Int) + (s : Int) = ((5 + s : Nat) : Int) := by omega
  obtain ⟨size, hz⟩ : ∃ size, size = 5 + s := ⟨_, rfl⟩
  rw [← hz] at es
  refine ⟨2, rfl, by decide, by decide, fun D hD => ?_⟩
  have nD := dk1.has hD
  refine lc_range (lo := 0) (n := (2 : Int).toNat) (fun i H2 => ∃ (us : List V) (rows : List Rw), H2 D = some (.lst us) ∧ DpAll K (off d c H2) us (rows.map Rw.D) ∧ rows.length = i ∧ (∀ (pc : Nat) (R : Rw), rows[pc]? = some R → ∃ k : Nat, R = Rw.cf (8 + pc) k ∧ Single (imH hs) k) ∧ Deck d c (n + 1 + i) H2 ∧ Ext d c H1 H2) ⟨[], [], upd_same, .nil, rfl, (fun pc R h => by cases h), dk1.new hD, Ext.new hD⟩ ?_ ?_
  · rintro i H2 hi ⟨us, rows, h2, hus, hrl, hrs, dk2, X2⟩
    have hi2 : i < 2 := hi
    have W2 := W.mono (X1.trans X2)
    obtain ⟨ha, sa, xs, ss, w1, w2, w3, w4, w5, w6, w7⟩ := W2.ex
    have hpos : 0 < ss.length := List.length_pos_iff.mpr w5
    obtain ⟨w4', ns1, ns2⟩ := off_at w4
    refine ⟨rfl, tyes ⟨_, rfl, _, _, rfl, rfl, _, rfl, _, rfl, _, _, rfl, DGet.k (k := Sum.inr "single") (off_at w1).1, d, c, n + 1 + i, sa, ss.map nV, rfl, by omega, dk2, .inl (.inl w4), by rw [List.length_map]; exact hpos, by rw [List.length_map]; omega, fun y H3 hy dk3 X3 => ⟨(by show 2 ≤ sizeLine; decide), fun p1 hp1 => ⟨(by show 3 ≤ sizeLine; decide), fun p2 hp2 => ?_⟩⟩⟩⟩
    obtain ⟨k, hk, rfl⟩ := List.mem_map.mp hy
    obtain ⟨p0, hp0⟩ := w7 k hk
    have g1 := dp_tupO (K := K) dk3 hp1 (.cons (.str "func") (.cons (.int (k : Int)) .nil))
    have dk4 := dk3.new (o := .tup [.str "func", .int (k : Int)]) hp1
    have X4 : Ext d c H2 (upd H3 p1 (.tup [.str "func", .int (k : Int)])) := X3.trans (Ext.new hp1)
    generalize upd H3 p1 (.tup [.str "func", .int (k : Int)]) = H4 at g1 dk4 X4 hp2 ⊢
    have e8 : (8 : Int) + ((0 : Int) + (i : Int)) = ((8 + i : Nat) : Int) := by omega
    have g2 := dp_tupO (K := K) (vs := [.str "const", .int (8 + (0 + (i : Int))), .ref p1]) (ds := [.str "const", .int ((8 + i : Nat) : Int), (Wv.f k).D]) dk4 hp2 (.cons (.str "const") (.cons (by rw [e8]; exact .int _) (.cons g1 .nil)))
    have dk5 := dk4.new (o := .tup [.str "const", .int (8 + (0 + (i : Int))), .ref p1]) hp2
    have X5 : Ext d c H2 (upd H4 p2 (.tup [.str "const", .int (8 + (0 + (i : Int))), .ref p1])) := X4.trans (Ext.new hp2)
    have h5 := X5.at nD.1 nD.2 h2
    have hul := dpAll_len hus
    rw [List.length_map] at hul
    refine ⟨us, h5, small_line (by omega), us ++ [.ref p2], rows ++ [.cf (8 + i) k], upd_same, ?_, by rw [List.length_append, hrl]; rfl, fun pc R h => ?_, dk5.upd nD.1 nD.2, (X2.trans X5).mut hD⟩
    · rw [List.map_append]
      exact lst_step nD h2 hus (nlAll nlR) X5 g2 (nlR (.cf (8 + i) k))
    · by_cases hpc : pc < rows.length
      · rw [List.getElem?_append_left hpc] at h
        exact hrs pc R h
      · rw [List.getElem?_append_right (by omega)] at h
        have : pc - rows.length = 0 := by
          cases e : pc - rows.length with
          | zero => rfl
          | succ j => rw [e] at h; cases h
        rw [this] at h
        cases h
        have : pc = i := by omega
        rw [this]
        exact ⟨k, rfl, _, imH_at hp0, rfl, _, rfl⟩
  rintro H2 ⟨us, rows, h2, hus, hrl, hrs, dk2, X2⟩
  have hrl : rows.length = 2 := hrl
  have dk2 : Deck d c (n + 3) H2 := dk2
  have X2 := X1.trans X2
  have hpD := grow X1 dk1 hD
  refine ⟨.int (size : Int), by rw [← es]; rfl, _, _, rfl, rfl, 2, (size : Int) - 1, rfl, ⟨by decide, by decide, by omega, by omega⟩, for_range (lo := 2) (n := ((size : Int) - 1 - 2).toNat) (fun i σ H3 => ∃ x5 us rows, σ = [some (.ref d), some (.ref wd), some x, some (.int (size : Int)), some (.ref D), x5, none] ∧ H3 D = some (.lst us) ∧ DpAll K (off d c H3) us ((rows : List Rw).map Rw.D) ∧ rows.length = 2 + i ∧ (∀ (pc : Nat) (R : Rw), rows[pc]? = some R → RwOk (imH hs) pc size e.2 R) ∧ Deck d c (n + 3 + 50 * i) H3 ∧ Ext d c H H3) ⟨none, us, rows, by rw [← es]; rfl, h2, hus, hrl, fun pc R h => ?_, dk2, X2⟩ ?_ ?_⟩
  · have hpc := (List.getElem?_eq_some_iff.mp h).1
    obtain ⟨k, rfl, hk⟩ := hrs pc R h
    exact ⟨by omega, by omega, rfl, hk⟩
  · rintro i σ H3 hi ⟨x5, us, rows, rfl, h3, hus, hrl, hrs, dk3, X3⟩
    have hi2 : 2 + i + 1 < size := by omega
    refine ⟨_, rfl, .inl ⟨rfl, _, .inl (.inl h3)⟩, _, rfl, _, rfl, _, rfl, _, rfl, hs, d, c, wd, n + 3 + 50 * i, size, _, rfl, by omega, by omega, by omega, dk3, W.mono X3, fun R v H4 hR dk4 X4 hv => ?_⟩
    have h4 := X4.at nD.1 nD.2 h3
    have hul := dpAll_len hus
    rw [List.length_map] at hul
    refine ⟨D, us, v, rfl, rfl, h4, small_line (by omega), some (.int (2 + (i : Int))), us ++ [v], rows ++ [R], rfl, upd_same, ?_, by rw [List.length_append, hrl]; rfl, fun pc R' h => ?_, (dk4.upd nD.1 nD.2).up (by omega), (X3.trans X4).mut hpD⟩
    · rw [List.map_append]
      exact lst_step nD h3 hus (nlAll nlR) X4 hv (nlR R)
    · by_cases hpc : pc < rows.length
      · rw [List.getElem?_append_left hpc] at h
        exact hrs pc R' h
      · rw [List.getElem?_append_right (by omega)] at h
        have e0 : pc - rows.length = 0 := by
          cases e : pc - rows.length with
          | zero => rfl
          | succ j => rw [e] at h; cases h
        rw [e0] at h
        cases h
        exact hR pc e.2 (by omega) (by omega)
  rintro σ H3 ⟨x5, us, rows, rfl, h3, hus, hrl, hrs, dk3, X3⟩
  have e1 : ((size : Int) - 1 - 2).toNat = size - 3 := by omega
  rw [e1] at hrl dk3
  have hul := dpAll_len hus
  rw [List.length_map] at hul
  have hx3 := X3.dp hx
  refine ⟨x, rfl, _, 0, _, offD hx3, rfl, rfl, fun z0 hz0 => ⟨x, rfl, _, 1, _, offD hx3, rfl, rfl, fun z1 hz1 => ?_⟩⟩
  cases hz1
  -- the return
  refine ⟨_, rfl, x, rfl, _, 1, _, offD hx3, rfl, rfl, fun z1 hz1 => ?_⟩
  cases hz1
  refine ⟨_, rfl, if_call (Pre := fun va H4 => ∃ a : Option Op, (e.2 = true ↔ a.isSome = true) ∧ (∀ o, a = some o → OpOk o) ∧ Dp K (off d c H4) va (match a with | none => .none | some o => o.D) ∧ Deck d c (n + 3 + 50 * (size - 3) + 6) H4 ∧ Ext d c H3 H4) (fun hb hk => ?_) (fun hb => ?_) ?_⟩
  · exact ⟨_, rfl, _, rfl, d, c, n + 3 + 50 * (size - 3), _, rfl, by omega, dk3, fun o v H4 ho dk4 X4 hv => hk _ _ ⟨some o, by rw [hb]; simp, (fun o' h => by cases h; exact ho), hv, dk4, X4⟩⟩
  · exact ⟨none, by rw [hb]; simp, (fun o' h => by cases h), .non, dk3.up (by omega), Ext.refl _⟩
  rintro va H4 ⟨a, ha1, ha2, hva, dk4, X4⟩
  refine ⟨(by show 2 ≤ sizeLine; decide), fun p1 hp1 => ⟨(by show 1 ≤ sizeLine; decide), fun p2 hp2 => ?_⟩⟩
  have g1 := dp_tupO (K := K) dk4 hp1 (.cons (.str "return") (.cons hva .nil))
  have g1 : Dp K (off d c (upd H4 p1 (.tup [.str "return", va]))) (.ref p1) (Rw.rt a).D := by
    cases a with
    | none => exact g1
    | some o => exact g1
  have dk5 := dk4.new (o := .tup [.str "return", va]) hp1
  have X5 : Ext d c H3 (upd H4 p1 (.tup [.str "return", va])) := X4.trans (Ext.new hp1)
  generalize upd H4 p1 (.tup [.str "return", va]) = H5 at g1 dk5 X5 hp2 ⊢
  have e6 : (upd H5 p2 (.lst [.ref p1])) p2 = some (.lst [.ref p1]) := upd_same
  have dk6 := dk5.new (o := .lst [.ref p1]) hp2
  have X6 : Ext d c H5 (upd H5 p2 (.lst [.ref p1])) := Ext.new hp2
  have g1 := X6.dp g1
  have X6 := X5.trans X6
  have h6 := X6.at nD.1 nD.2 h3
  generalize upd H5 p2 (.lst [.ref p1]) = H6 at e6 g1 dk6 X6 h6 ⊢
  have hD2 : D ≠ p2 := fun z => by
    have := X5.at nD.1 nD.2 h3
    rw [z] at this
    rw [this] at hp2
    cases hp2
  refine ⟨D, p2, us, [.ref p1], rfl, rfl, h6, e6, by rw [List.length_singleton, sizeLine_eq]; omega, fun p3 hp3 => ?_⟩
  have g6 : DpAll K (off d c H6) (us ++ [.ref p1]) ((rows ++ [Rw.rt a]).map Rw.D) := by
    rw [List.map_append]
    exact dpAll_app (dpAll_mono X6 _ _ hus) (.cons g1 .nil)
  have e7 : (upd H6 p3 (.lst (us ++ [.ref p1]))) p3 = some (.lst (us ++ [.ref p1])) := upd_same
  have dk7 := dk6.new (o := .lst (us ++ [.ref p1])) hp3
  have X7 : Ext d c H6 (upd H6 p3 (.lst (us ++ [.ref p1]))) := Ext.new hp3
  have g7 := dpAll_mono X7 _ _ g6
  have X7 := X6.trans X7
  generalize upd H6 p3 (.lst (us ++ [.ref p1])) = H7 at e7 dk7 X7 g7 ⊢
  refine ⟨p3, _, rfl, .inl ⟨.inl (.inl e7), fun p4 hp4 => ⟨(by show 3 ≤ sizeLine; decide), fun p5 hp5 => ?_⟩⟩⟩
  have g8 := dp_tupO (K := K) dk7 hp4 g7
  have dk8 := dk7.new (o := .tup (us ++ [.ref p1])) hp4
  have X8 : Ext d c H3 (upd H7 p4 (.tup (us ++ [.ref p1]))) := X7.trans (Ext.new hp4)
  generalize upd H7 p4 (.tup (us ++ [.ref p1])) = H8 at g8 dk8 X8 hp5 ⊢
  have g9 := dp_tupO (K := K) dk8 hp5 (.cons (X8.dp (dp_kt (off_kt dk3) (.tuple (e.1.map P18.nD)) _ (noLAll_map (f := P18.nD) (as := e.1) fun _ _ => rfl) hz0)) (.cons (.bl e.2) (.cons g8 .nil)))
  refine q ⟨e.1, e.2, rows ++ [.rt a]⟩ _ _ rfl rfl ⟨W.ok.2.2 e he, ?_, ?_⟩ ((dk8.new hp5).up (by omega)) (X3.trans (X8.trans (Ext.new hp5))) g9
  · show 3 ≤ (rows ++ [Rw.rt a]).length ∧ (rows ++ [Rw.rt a]).length ≤ 12
    rw [List.length_append, List.length_singleton]
    omega
  · intro pc R h
    have hlen : (rows ++ [Rw.rt a]).length = size := by
      rw [List.length_append, List.length_singleton]
      omega
    have h : (rows ++ [Rw.rt a])[pc]? = some R := h
    show RwOk (imH hs) pc (rows ++ [Rw.rt a]).length e.2 R
    rw [hlen]
    by_cases hpc : pc < rows.length
    · rw [List.getElem?_append_left hpc] at h
      exact hrs pc R h
    · rw [List.getElem?_append_right (by omega)] at h
      have e0 : pc - rows.length = 0 := by
        cases e : pc - rows.length with
        | zero => rfl
        | succ j => rw [e] at h; cases h
      rw [e0] at h
      cases h
      exact ⟨by omega, ha1, ha2⟩
end
end K18

set_option maxHeartbeats 4000000
/-! HStep: xs[::s] where s is 1 or -1 by a value; sorted(list of tuples (text, int, int)). -/
namespace HG
open PySem PySem.Spec PyProof.Rows L2
def tStepL (K : PySem.W.Frag) (te : TE) (tp : TO) : TE := fun σ H Q => te σ H fun x H1 => tp σ H1 fun y H2 => ∃ (a : Addr) (xs : List V) (b : Bool), x = .ref a ∧ y = some (if b then -1 else 1) ∧ SqL K H2 a xs ∧ ∀ p, H2 p = none → Q (.ref p) (upd H2 p (.lst (if b then xs.reverse else xs)))
section
variable {X : Cx}
theorem pick_one (items : Array Value) : slicePick items none none (some 1) = items := (show slicePick items none none (some 1) = slicePick items none none none from rfl).trans (slicePick_all items)
theorem pe_stepL {e es : Expr} {te : TE} {tp : TO} {p3 pos : Pos} (he : PE X e te) (hst : PO X (some es) tp) : PE X (.Subscript e (.Slice none none (some es) p3) pos) (tStepL X.K te tp) := by
  refine ⟨fun pins s σ H Q I h => ?_⟩
  refine Subscript_ (thn (he.run pins s σ H _ I h) fun v s1 ⟨x, H1, I1, r1, q1⟩ => ?_)
  refine wpAny_Slice (thn (po_none.run pins s1 σ H1 (fun o H2 => o = none ∧ H2 = H1) I1 ⟨rfl, rfl⟩) fun vl s2 ⟨l, H2, I2, pl, el, e2⟩ => ?_)
  subst el e2
  refine thn (po_none.run pins s2 σ H2 (fun o H3 => o = none ∧ H3 = H2) I2 ⟨rfl, rfl⟩) fun vu s3 ⟨u, H3, I3, pu, eu, e3⟩ => ?_
  subst eu e3
  refine thn (hst.run pins s3 σ H3 _ I3 q1) fun vs s4 ⟨o, H4, I4, ps, a, xs, b, ex, eo, hx, q⟩ => ?_
  subst ex eo
  cases r1
  have I5 : Inv X pins σ H4 { s4 with heap := s4.heap.push { cls := .type "slice", data := .fields #[vl, vu, vs] } } := I4.kept (t' := s4.toks) fun b ob q => Heap.get?_push_of_some _ q
  obtain ⟨its, r, ht, hz⟩ := I5.list hx
  have hlen := r.length
  show wpAny (model X.prog X.w) X.A (subscriptTail e (.Slice none none (some es) p3) (.ref a) (.ref s4.heap.objs.size)) (EP X pins σ Q) X.xe { s4 with heap := s4.heap.push { cls := .type "slice", data := .fields #[vl, vu, vs] } }
  refine tail_any (ops := [.ref a, .ref s4.heap.objs.size]) ht.isList.typeIs (PySem.slot_list_getitem.lookup) ?_ (by with_unfolding_all rfl)
  refine wpAny_getItem_list_slice ht.isList (Heap.IsSliceOf.new _ vl vu vs) pl pu ps (by cases b <;> decide) ?_ (by rw [List.size_toArray]; omega)
  cases b with
  | false =>
    rw [show (if false = true then (-1 : Int) else 1) = 1 from rfl, pick_one]
    refine ⟨.ref _, _, I5.laid (t' := s4.toks) (o := .lst xs) (fun b ob q => Heap.get?_push_of_some _ q) (Nat.le_refl _) ?_, rfl, q _ (I5.hok.fresh (Nat.le_refl _))⟩
    exact ⟨hz, _, 0, r, Heap.get?_push_size _ rfl⟩
  | true =>
    rw [show (if true = true then (-1 : Int) else 1) = -1 from rfl, PySem.W.krv_pick]
    refine ⟨.ref _, _, I5.laid (t' := s4.toks) (o := .lst xs.reverse) (fun b ob q => Heap.get?_push_of_some _ q) (Nat.le_refl _) ?_, rfl, q _ (I5.hok.fresh (Nat.le_refl _))⟩
    exact ⟨by rw [List.length_reverse]; exact hz, _, 0, r.reverse, Heap.get?_push_size _ rfl⟩
end
end HG
/-! ### sorted -/
namespace HG
open PySem PySem.SeqAt PySem.W PyProof.Rows Srt
abbrev key3 (p : Str × Int × Int) : List L2.Key := [Sum.inr p.1, Sum.inl p.2.1, Sum.inl p.2.2]
theorem lex3 (p q : Str × Int × Int) : ∃ z, LexR (key3 p) (key3 q) z := by
  obtain ⟨x, i, j⟩ := p
  obtain ⟨y, i', j'⟩ := q
  by_cases h1 : x = y
  · subst h1
    by_cases h2 : i = i'
    · subst h2
      by_cases h3 : j = j'
      · subst h3
        exact ⟨_, .eq (.eq (.eq .nn))⟩
      · exact ⟨_, .eq (.eq (.ii h3))⟩
    · exact ⟨_, .eq (.ii h2)⟩
  · exact ⟨_, .ss h1⟩
/-- v is such a tuple in the heap -/
def Is3 (h : Heap) (v : Value) : Prop := ∃ a o us n p, v = .ref a ∧ h.get? a = some o ∧ o.cls = .type "tuple" ∧ o.data = .seq us n ∧ L2.Vals ((key3 p).map L2.kV) us.toList
theorem Is3.keeps {h h' : Heap} {v : Value} (p : Is3 h v) (k : ∀ b o, h.get? b = some o → o.cls = .type "tuple" → h'.get? b = some o) : Is3 h' v := by
  obtain ⟨a, o, us, n, p, e, ho, hc, hd, hv⟩ := p
  exact ⟨a, o, us, n, p, e, k _ _ ho hc, hc, hd, hv⟩
section
variable {prog : Program} {w : World} {A : Around} {s : Shared} {E : Value → Shared → Prop}
theorem tot3 {vs : List Value} (hp : ∀ v ∈ vs, Is3 s.heap v) : Tot prog w A s (tuples' true) (fun p => p.1 ∈ vs) := by
  intro p q hm hm'
  obtain ⟨a, o, us, n, k, e, ho, hc, hd, hv⟩ := hp _ hm
  obtain ⟨a', o', us', n', k', e', ho', hc', hd', hv'⟩ := hp _ hm'
  obtain ⟨z, hz⟩ := lex3 k k'
  rw [e, e']
  refine ⟨z, PySem.W.kat_lt ho hd ho' hd' ?_⟩
  have hx := lexV_of hz hv hv'
  rw [Array.length_toList, Array.length_toList] at hx
  exact katlex_of hx ⟨rfl, rfl⟩ 0
theorem firsts3 {h : Heap} : ∀ {vs : List Value}, (∀ v ∈ vs, Is3 h v) → ∃ fs : List Value, PySem.W.KatTups h vs fs ∧ fs.length = vs.length ∧ ∀ f ∈ fs, ∃ x t, f = Value.str x t
  | [], _ => ⟨[], PySem.W.KatTups.nil, rfl, fun _ hm => by simp at hm⟩
  | v :: vs, hp => by
    obtain ⟨fs, h1, h2, h3⟩ := firsts3 (vs := vs) fun v' hm => hp v' (List.mem_cons_of_mem _ hm)
    obtain ⟨a, o, us, n, k, e, ho, hc, hd, hv⟩ := hp v (List.mem_cons_self ..)
    subst e
    obtain ⟨l⟩ := us
    cases hv with
    | cons r1 _ =>
      obtain ⟨t, rfl⟩ := r1
      refine ⟨.str k.1 t :: fs, PySem.W.KatTups.cons ho hc hd rfl h1, by rw [List.length_cons, List.length_cons, h2], fun f hm => ?_⟩
      rcases List.mem_cons.mp hm with rfl | hm
      · exact ⟨k.1, t, rfl⟩
      · exact h3 f hm
theorem sortable3 {a : Addr} {vs : List Value} (h0 : 0 < vs.length) (hp : ∀ v ∈ vs, Is3 s.heap v) (ha : ∀ o, s.heap.get? a = some o → o.cls ≠ .type "tuple") : Sortable prog w A s a vs := by
  intro h' keep
  have hp' : ∀ v ∈ vs, Is3 h' v := fun v hm => (hp v hm).keeps fun b o e c => keep b o (fun z => by subst z; exact ha o e c) e
  obtain ⟨fs, h1, h2, h3⟩ := firsts3 hp'
  refine ⟨tuples' true, fun Q E hq => ?_, tot3 hp'⟩
  refine PySem.W.kat_kind (T := .type "str") h1 (by omega) (fun f hm => ?_) (by rfl) ?_
  · obtain ⟨x, t, rfl⟩ := h3 f hm
    exact PySem.W.Looks.now
  · have e : (Value.type "str" != Value.type "tuple") = true := by decide +kernel
    rw [e]
    exact hq
end
end HG
namespace HG
open PySem PySem.Spec PyProof.Rows L2
section
variable {X : Cx}
/-- sorted(xs), xs a list of tuples (text, int, int): the same ones in some order -/
def rSort3 (K : PySem.W.Frag) : List V → Hp → VK → Prop := fun vs H Q => ∃ (a : Addr) (xs : List V), vs = [V.ref a] ∧ SqL K H a xs ∧ (∀ x ∈ xs, ∃ t p, x = V.ref t ∧ SqT K H t ((key3 p).map kV)) ∧
  ∀ ys p, ys.Perm xs → H p = none → Q (.ref p) (upd H p (.lst ys))
theorem cr_sort3 : CallR X (.builtin "sorted") (rSort3 X.K) := by
  intro pins s σ H vs us Q I r h
  obtain ⟨a, xs, rfl, hs, hx, q⟩ := h
  obtain ⟨its, rv, hl, hz⟩ := I.list hs
  obtain rfl := Vals.ref1 r
  obtain ⟨e1, e2⟩ := refs_back rv fun x m => by
    obtain ⟨t, _, e, _⟩ := hx x m
    exact ⟨t, e⟩
  have h3 : ∀ v ∈ its, Is3 s.heap v := fun v hv => by
    obtain ⟨t, rfl⟩ := e2 v hv
    have hm : V.ref t ∈ xs := by rw [e1]; exact List.mem_map.mpr ⟨_, hv, rfl⟩
    obtain ⟨t', p, e, ht⟩ := hx _ hm
    cases e
    obtain ⟨its2, r2, ⟨o, ho, hc, n, hd⟩, _⟩ := I.tuple ht
    exact ⟨t, o, _, n, p, rfl, ho, hc, hd, by simpa using r2⟩
  refine Srt.sorted_any hl.isList (by rw [← rv.length]; exact hz) (fun h2 h₁ a ha k => ?_) fun out ho => ?_
  · refine sortable3 (s := { s with heap := h₁ }) (by omega) (fun v hm => (h3 v hm).keeps fun b o e _ => (k b o e).2) fun o e => ?_
    have e' : some o = some (PyProof.Rows.seqObj "list" its.toArray 0) := e.symm.trans ha
    cases e'
    intro c
    exact absurd (Value.type.inj c) (by decide)
  · obtain ⟨ee, hee⟩ := PyProof.Rows.sortedAll_at s.heap its out.toArray
    have h4 : ∀ u ∈ out, ∃ a, u = Value.ref a := fun u hu => e2 u (ho.mem_iff.mp hu)
    refine ⟨.ref _, upd H _ (.lst (out.map backV)), I.laid (t' := s.toks) (fun b o e => PyProof.Rows.sortedAll_old e) (Nat.le_succ _) ⟨?_, out, ee, vals_back h4, hee⟩, rfl, q _ _ ?_ (I.hok.fresh (Nat.le_succ _))⟩
    · rw [List.length_map, ho.length_eq, ← rv.length]; exact hz
    · rw [e1]; exact ho.map backV
end
end HG

set_option maxHeartbeats 4000000
/-! HL: ints and bools alike: x + i, x - i, int(x), str(x). -/
namespace HG
open PySem PySem.Spec PyProof.Rows L2
def b2I (b : Bool) : Int := if b = true then 1 else 0
section
variable {X : Cx}
def rB (g : Int → Int → V) : R2 := fun x y H Q => ∃ b j, x = .bl b ∧ y = .int j ∧ Q (g (b2I b) j) H
theorem op_addBI : OpR X (binaryOp .Add) (rB fun i j => .int (i + j)) := by
  intro pins s σ H x y v u Q I rx ry h
  obtain ⟨b, j, rfl, rfl, q⟩ := h
  obtain rfl : v = .bool b := rx
  obtain ⟨t, rfl⟩ := ry
  exact PySem.IntBool.add_bool_int ⟨.int _, H, I.tok _, ⟨_, rfl⟩, q⟩
theorem op_subBI : OpR X (binaryOp .Sub) (rB fun i j => .int (i - j)) := by
  intro pins s σ H x y v u Q I rx ry h
  obtain ⟨b, j, rfl, rfl, q⟩ := h
  obtain rfl : v = .bool b := rx
  obtain ⟨t, rfl⟩ := ry
  exact PySem.IntBool.sub_bool_int ⟨.int _, H, I.tok _, ⟨_, rfl⟩, q⟩
theorem op_addIB : OpR X (binaryOp .Add) (fun x y H Q => (rI0 fun i j => .int (i + j)) x y H Q ∨ (rB fun i j => .int (i + j)) x y H Q) := op_add.or op_addBI
theorem op_subIB : OpR X (binaryOp .Sub) (fun x y H Q => (rI0 fun i j => .int (i - j)) x y H Q ∨ (rB fun i j => .int (i - j)) x y H Q) := op_sub.or op_subBI
def rIntIB : List V → Hp → VK → Prop := fun xs H Q => (∃ i, xs = [.int i] ∧ Q (.int i) H) ∨ ∃ b, xs = [.bl b] ∧ Q (.int (b2I b)) H
theorem call_intIB : CallR X (.type "int") rIntIB := by
  intro pins s σ H xs us Q I r h
  rcases h with ⟨i, rfl, q⟩ | ⟨b, rfl, q⟩
  · obtain ⟨u, rfl, t, rfl⟩ := vals1 r
    exact PySem.call_int_int ⟨.int _, H, I, ⟨_, rfl⟩, q⟩
  · obtain ⟨u, rfl, r1⟩ := vals1 r
    obtain rfl : u = .bool b := r1
    exact PySem.call_int_bool ⟨.int _, H, I.tok _, ⟨_, rfl⟩, q⟩
def bText (b : Bool) : Str := if b then "True" else "False"
def rStrIB : List V → Hp → VK → Prop := fun xs H Q => (∃ i, xs = [.int i] ∧ i.natAbs.log2 < 1920 ∧ Q (.str (toString i)) H) ∨ ∃ b, xs = [.bl b] ∧ Q (.str (bText b)) H
theorem call_strIB : CallR X (.type "str") rStrIB := by
  intro pins s σ H xs us Q I r h
  rcases h with h | ⟨b, rfl, q⟩
  · exact call_str_int pins s σ H xs us Q I r h
  · obtain ⟨u, rfl, r1⟩ := vals1 r
    obtain rfl : u = .bool b := r1
    exact PySem.P.str_of_bool ⟨.str _, H, I.tok _, ⟨_, rfl⟩, q⟩
end
end HG

set_option maxHeartbeats 4000000
/-! HMg2: a dict made of entries with distinct keys. -/
namespace HG
open PySem PySem.Spec PyProof.Rows L2
theorem putK_new {kvs : List (Key × V)} {k : Key} {v : V} (h : k ∉ kvs.map (·.1)) : putK kvs k v = kvs ++ [(k, v)] := by
  unfold putK
  rw [if_neg]
  intro z
  obtain ⟨p, hp, e⟩ := List.any_eq_true.mp z
  exact h (List.mem_map.mpr ⟨p, hp, of_decide_eq_true e⟩)
theorem mergeK_app : ∀ (more acc : List (Key × V)), ((acc ++ more).map (·.1)).Nodup → mergeK acc more = acc ++ more
  | [], acc, _ => (List.append_nil acc).symm
  | p :: more, acc, h => by
    show mergeK (putK acc p.1 p.2) more = _
    have hn : p.1 ∉ acc.map (·.1) := fun hm => by
      rw [List.map_append, List.map_cons, List.nodup_append] at h
      exact h.2.2 _ hm _ List.mem_cons_self rfl
    rw [putK_new hn, mergeK_app more (acc ++ [(p.1, p.2)]) (by rw [List.append_assoc]; exact h), List.append_assoc]
    rfl
theorem mergeK_nd {kvs : List (Key × V)} (h : (kvs.map (·.1)).Nodup) : mergeK [] kvs = kvs := mergeK_app kvs [] h
end HG

set_option maxHeartbeats 4000000
namespace K18
open PySem PySem.Spec PyProof.Rows L2 HG P18
abbrev cdH (cd : Cd) : List Nat × Bool := (cd.ps, cd.ret)
theorem codes_at {im : Im} {hs : List (List Nat × Bool)} (h : im.codes.map cdH = hs) {k : Nat} {e : Cd} (he : (imH hs).codes[k]? = some e) : ∃ cd, im.codes[k]? = some cd ∧ cd.ps = e.ps ∧ cd.ret = e.ret := by
  subst h
  have he : ((im.codes.map cdH).map fun e => (⟨e.1, e.2, []⟩ : Cd))[k]? = some e := he
  rw [List.getElem?_map, List.getElem?_map] at he
  cases hc : im.codes[k]? with
  | none => rw [hc] at he; cases he
  | some cd => rw [hc] at he; cases he; exact ⟨cd, rfl, rfl, rfl⟩
theorem single_of {im : Im} {hs : List (List Nat × Bool)} (h : im.codes.map cdH = hs) {k : Nat} (hk : Single (imH hs) k) : Single im k := by
  obtain ⟨e, h1, h2, p, h3⟩ := hk
  obtain ⟨cd, g1, g2, g3⟩ := codes_at h h1
  exact ⟨cd, g1, g3.trans h2, p, g2.trans h3⟩
theorem rwOk_of {im : Im} {hs : List (List Nat × Bool)} (h : im.codes.map cdH = hs) {pc size : Nat} {ret : Bool} {R : Rw} (hR : RwOk (imH hs) pc size ret R) : RwOk im pc size ret R := by
  cases R with
  | cf t k => exact ⟨hR.1, hR.2.1, hR.2.2.1, single_of h hR.2.2.2⟩
  | ca t k as =>
    obtain ⟨h1, h2, e, h3, h4, h5, h6⟩ := hR
    obtain ⟨cd, g1, g2, g3⟩ := codes_at h h3
    exact ⟨h1, h2, cd, g1, g3 ▸ h4, by rw [g2]; exact h5, h6⟩
  | _ => exact hR
theorem cdOk_of {im : Im} {hs : List (List Nat × Bool)} (h : im.codes.map cdH = hs) {cd : Cd} (hc : CdOk (imH hs) cd) : CdOk im cd := ⟨hc.ps, hc.size, fun pc R hR => rwOk_of h (hc.rows pc R hR)⟩
theorem nlC (cd : Cd) : noL cd.D = true := by simp only [Cd.D, noL, noLAll, nlAll nlN, nlAll nlR, Bool.and_true]
theorem shaped_hd (e : List Nat × Bool) : SeqAt.shaped (hdD e) = true := by
  have h1 := canLay_ints (e.1.map fun n : Nat => (n : Int))
  have h2 := depth_ints (e.1.map fun n : Nat => (n : Int))
  rw [List.map_map] at h1 h2
  have h1 : PyData.canLayAll0 (e.1.map nD) = true := h1
  have h2 : PyData.depthAll (e.1.map nD) ≤ 1 := h2
  unfold SeqAt.shaped
  simp only [hdD, PyData.canLay0, PyData.canLayAll0, PyData.depth, PyData.depthAll, h1, Bool.and_true, Bool.true_and, decide_eq_true_eq, Bool.and_eq_true]
  exact decide_eq_true (by omega)
theorem eqv_main (e : List Nat × Bool) : PyData.eqv (hdD e) (.tuple [.tuple [], .bool true]) = true → e = ([], true) := by
  obtain ⟨ps, b⟩ := e
  cases ps with
  | nil => cases b <;> simp [hdD, PyData.eqv, PyData.eqvAll]
  | cons p ps => simp [hdD, PyData.eqv, PyData.eqvAll]
theorem ent_key {K : PySem.W.Frag} {H : Hp} {x : V} {e : Str × Nat × Nat} (h : Dp K H x (enD e)) : ∃ t p, x = V.ref t ∧ SqT K H t ((key3 p).map kV) := by
  cases h with
  | @tup a zs _ sq ha =>
    refine ⟨a, (e.1, (e.2.1 : Int), (e.2.2 : Int)), rfl, ?_⟩
    cases ha with
    | cons h1 t1 =>
      cases t1 with
      | cons h2 t2 =>
        cases t2 with
        | cons h3 t3 =>
          cases t3
          cases h1
          cases h2
          cases h3
          exact sq
abbrev nm5 : List Str := ["f", "main", "g", "a", "zz"]
theorem n47 {n : Nat} (h : n < 2 ^ 40) : n + 100000 < 2 ^ 47 := by
  have : (2 : Nat) ^ 40 + 100000 < 2 ^ 47 := by decide
  omega
/-- the list of heads -/
def HsH (K : PySem.W.Frag) (H : Hp) (hp : Addr) (hs : List (List Nat × Bool)) : Prop := ∃ xs, H hp = some (.lst xs) ∧ DpAll K H xs (hs.map hdD)
def spImage (K : PySem.W.Frag) : Sp := fun vs H Q _ => ∃ (d c : Addr) (n : Nat), vs = [.ref d] ∧ n < 2 ^ 40 ∧ Deck d c n H ∧
  ∀ (im : Im) (v : V) (H' : Hp), ImOk im → (∀ e ∈ im.entries, e.1 ∈ nm5) → Deck d c (n + 9000) H' → Ext d c H H' → Dp K (off d c H') v im.D → Q v H'
section
variable {P : Program} {w : World} {K : PySem.W.Frag} {mg : Str → Option Value} {base : Heap}
set_option pp.maxSteps 600 in
theorem c_image (T : Txt w K mg) : Cal P w K mg base "_law_image" 7 ["_law_deck_here"] (spImage K) := by
  obtain ⟨fd, F⟩ := T.d__law_image
  have C__law_draw := c_draw (P := P) (w := w) (base := base) T
  have C__law_code := c_code (P := P) (w := w) (base := base) T
  have C__law_pick := c_pick (P := P) (w := w) (base := base) T
  refine ⟨⟨fd, F.ok sc__law_image (fun vs H Q E h => by repeat (first | (obtain ⟨e, _⟩ := h; subst e; rfl) | (obtain ⟨_, h⟩ := h))) (fun cdv A outer s H vs Q E hr h => ?_), F.bindsN fun _ _ _ _ _ _ us hl => match us, hl with | [_], _ => rfl⟩, T.g _ (by decide), F.kp⟩
  obtain ⟨d, c, n, rfl, hn, dk, q⟩ := h
  have hu := hu_of hr
  refine ⟨_, PSs.nox (pss_cons (ps_set (i := 1) sc__law_image.nd rfl (.inl rfl) (pe_lst (pa_cons (pe_tup (pa_cons (pe_tup (pa_cons pe_int pa_nil)) (pa_cons pe_bl pa_nil))) (pa_cons (pe_tup (pa_cons (pe_tup pa_nil) (pa_cons pe_bl pa_nil))) pa_nil))))
      (pss_cons (ps_for PassesOwn.never rfl (pi_range1 (by rfl) T.n_range (pa_cons (pe_cal C__law_draw (hr.mono (by omega)) (by rfl) (pa_cons (pv 0) (pa_cons pe_int pa_nil))) pa_nil)) (pg_name (i := 2) sc__law_image.nd rfl (.inl rfl)) (pss_cons (ps_set (i := 3) sc__law_image.nd rfl (.inl rfl) (pe_slice (sl_listK (K := K) rfl) (pe_lst (pa_cons pe_int (pa_cons pe_int (pa_cons pe_int (pa_cons pe_int pa_nil))))) po_none (po_some (pe_cal C__law_draw (hr.mono (by omega)) (by rfl) (pa_cons (pv 0) (pa_cons pe_int pa_nil))))))
      (pss_one (ps_expr (pe_bm PySem.F.plainAttrs_list PySem.F.slot_list_append PySem.F.type_list_append mt_append (pv 1) (pa_cons (pe_tup (pa_cons (pe_callTy call_tuple_of (by rfl) T.n_tuple (by decide +kernel) (pa_cons (pe_stepL (pv 3) (po_some (pe_ix (ix_listK (K := K) rfl) (pe_lst (pa_cons pe_int (pa_cons (pe_un un_neg pe_int) pa_nil))) (pe_cal C__law_draw (hr.mono (by omega)) (by rfl) (pa_cons (pv 0) (pa_cons pe_int pa_nil))) (fun _ _ => rfl)))) pa_nil)) (pa_cons (pe_cmpR op_gt (pe_cal C__law_draw (hr.mono (by omega)) (by rfl) (pa_cons (pv 0) (pa_cons pe_int pa_nil))) pe_int (nomark _)) pa_nil))) pa_nil))))))
      (pss_cons (ps_set (i := 4) sc__law_image.nd rfl (.inr rfl) (pe_disp (pps_cons pe_str (pv 1) (pps_cons pe_str (pe_lc (own := [("_law_k", 2), ("_law_head", 12)]) (by rfl) sc__law_image.nd (pi_enum (by rfl) T.n_enumerate (pa_cons (pv 1) pa_nil)) (blkOk_by (own := [("_law_k", 2), ("_law_head", 12)]) (N := N__law_image) (sc := defScope s__law_image) (by decide +kernel)) (fun _ _ _ _ _ => (pg_tupK (K := K) (n := 2) rfl rfl (pgs_cons (pg_name (i := 2) sc__law_image.nd rfl (.inl rfl)) (pgs_cons (pg_name (i := 12) sc__law_image.nd rfl (.inl rfl)) pgs_nil)))) (fun _ _ _ _ _ => pts_one (PW.pt (pw_and (pt_val (pe_ix (ix_P (K := K) rfl) (pv 12) pe_int (fun _ _ => rfl))) (pw_and1 (pt_cmpR op_eq (pe_callB (lenK (K := K) rfl) (by rfl) T.n_len (by decide +kernel) (pa_cons (pe_ix (ix_P (K := K) rfl) (pv 12) pe_int (fun _ _ => rfl)) pa_nil)) pe_int (nomark _)))))) (fun _ _ _ _ _ => (pv 2))) pps_nil)) (by rfl) (by rfl) (fun z => by cases z) (by decide)))
      (pss_cons (ps_set (i := 5) sc__law_image.nd rfl (.inl rfl) (pe_callTy call_tuple_of (by rfl) T.n_tuple (by decide +kernel) (pa_cons (pe_lc (own := [("_law_head", 12)]) (by rfl) sc__law_image.nd (pi_list (pv 1)) (blkOk_by (own := [("_law_head", 12)]) (N := N__law_image) (sc := defScope s__law_image) (by decide +kernel)) (fun _ _ _ _ _ => (pg_name (i := 12) sc__law_image.nd rfl (.inl rfl))) (fun _ _ _ _ _ => pts_nil) (fun _ _ _ _ _ => (pe_cal C__law_code (hr.mono (by omega)) (by rfl) (pa_cons (pv 0) (pa_cons (pv 4) (pa_cons (pv 12) pa_nil)))))) pa_nil)))
      (pss_cons (ps_set (i := 6) sc__law_image.nd rfl (.inl rfl) (pe_tup (pa_cons (pe_tup (pa_cons pe_str (pa_cons (pe_cal C__law_draw (hr.mono (by omega)) (by rfl) (pa_cons (pv 0) (pa_cons pe_int pa_nil))) pa_nil))) (pa_cons (pe_tup (pa_cons pe_str (pa_cons (pe_tup (pa_cons pe_str (pa_cons (pe_cal C__law_pick (hr.mono (by omega)) (by rfl) (pa_cons (pv 0) (pa_cons (pe_dget hu (pv 4) pe_str (fun _ _ => rfl)) pa_nil))) pa_nil))) pa_nil))) pa_nil))))
      (pss_cons (ps_set (i := 7) sc__law_image.nd rfl (.inl rfl) (pe_tup (pa_cons (pe_tup (pa_cons pe_str (pa_cons (pe_callTy call_tuple_of (by rfl) T.n_tuple (by decide +kernel) (pa_cons (pe_lc (own := [("_law_k", 2)]) (by rfl) sc__law_image.nd (pi_range1 (by rfl) T.n_range (pa_cons (pe_op op_add pe_int (pe_cal C__law_draw (hr.mono (by omega)) (by rfl) (pa_cons (pv 0) (pa_cons pe_int pa_nil)))) pa_nil)) (blkOk_by (own := [("_law_k", 2)]) (N := N__law_image) (sc := defScope s__law_image) (by decide +kernel)) (fun _ _ _ _ _ => (pg_name (i := 2) sc__law_image.nd rfl (.inl rfl))) (fun _ _ _ _ _ => pts_nil) (fun _ _ _ _ _ => (pe_cal C__law_draw (hr.mono (by omega)) (by rfl) (pa_cons (pv 0) (pa_cons pe_int pa_nil))))) pa_nil)) pa_nil))) pa_nil)))
      (pss_cons (ps_set (i := 7) sc__law_image.nd rfl (.inl rfl) (pe_op (op_catP (K := K) rfl) (pv 7) (pe_tup (pa_cons (pe_tup (pa_cons pe_str (pa_cons (pe_tup (pa_cons (pe_tup (pa_cons pe_str (pa_cons (pe_cal C__law_pick (hr.mono (by omega)) (by rfl) (pa_cons (pv 0) (pa_cons (pe_dget hu (pv 4) pe_str (fun _ _ => rfl)) pa_nil))) pa_nil))) pa_nil)) pa_nil))) pa_nil))))
      (pss_cons (ps_set (i := 8) sc__law_image.nd rfl (.inr rfl) (pe_lc (own := [("_law_k", 2), ("_law_head", 12)]) (by rfl) sc__law_image.nd (pi_enum (by rfl) T.n_enumerate (pa_cons (pv 1) pa_nil)) (blkOk_by (own := [("_law_k", 2), ("_law_head", 12)]) (N := N__law_image) (sc := defScope s__law_image) (by decide +kernel)) (fun _ _ _ _ _ => (pg_tupK (K := K) (n := 2) rfl rfl (pgs_cons (pg_name (i := 2) sc__law_image.nd rfl (.inl rfl)) (pgs_cons (pg_name (i := 12) sc__law_image.nd rfl (.inl rfl)) pgs_nil)))) (fun _ _ _ _ _ => pts_one (pt_cmpR (op_eqDK (K := K) rfl hr.units) (pv 12) (pe_tup (pa_cons (pe_tup pa_nil) (pa_cons pe_bl pa_nil))) (nomark _))) (fun _ _ _ _ _ => (pv 2))))
      (pss_cons (ps_set (i := 9) sc__law_image.nd rfl (.inl rfl) (pe_callTy call_tuple_of (by rfl) T.n_tuple (by decide +kernel) (pa_cons (pe_lc (own := [("_law_k", 2)]) (by rfl) sc__law_image.nd (pi_range1 (by rfl) T.n_range (pa_cons (pe_op op_mul (pe_cal C__law_draw (hr.mono (by omega)) (by rfl) (pa_cons (pv 0) (pa_cons pe_int pa_nil))) (pe_callTy call_intIB (by rfl) T.n_int (by decide +kernel) (pa_cons (pe_cmpR (op_neDK (K := K) rfl hr.units) (pv 8) (pe_lst pa_nil) (nomark _)) pa_nil))) pa_nil)) (blkOk_by (own := [("_law_k", 2)]) (N := N__law_image) (sc := defScope s__law_image) (by decide +kernel)) (fun _ _ _ _ _ => (pg_name (i := 2) sc__law_image.nd rfl (.inl rfl))) (fun _ _ _ _ _ => pts_nil) (fun _ _ _ _ _ => (pe_cal C__law_pick (hr.mono (by omega)) (by rfl) (pa_cons (pv 0) (pa_cons (pv 8) pa_nil))))) pa_nil)))
      (pss_cons (ps_set (i := 10) sc__law_image.nd rfl (.inr rfl) (pe_lst (pa_cons pe_str (pa_cons pe_str (pa_cons pe_str (pa_cons pe_str (pa_cons pe_str pa_nil)))))))
      (pss_cons (ps_setLc (i := 11) (own := [("_law_k", 2), ("_law_head", 12)]) (by rfl) sc__law_image.nd rfl rfl (sw_true rfl rfl rfl (by decide +kernel)) (pi_enum (by rfl) T.n_enumerate (pa_cons (pv 1) pa_nil)) (blkOk_by (own := [("_law_k", 2), ("_law_head", 12)]) (N := N__law_image) (sc := defScope s__law_image) (by decide +kernel)) (fun _ _ _ _ _ => (pg_tupK (K := K) (n := 2) rfl rfl (pgs_cons (pg_name (i := 2) sc__law_image.nd rfl (.inl rfl)) (pgs_cons (pg_name (i := 12) sc__law_image.nd rfl (.inl rfl)) pgs_nil)))) (fun _ _ _ _ _ => pts_one (pt_val (pe_ix (ix_P (K := K) rfl) (pv 12) pe_int (fun _ _ => rfl)))) (fun _ _ _ _ _ => (pe_tup (pa_cons (pe_ix (ix_listK (K := K) rfl) (pv 10) (pv 2) (fun _ _ => rfl)) (pa_cons (pv 2) (pa_cons (pe_callB (lenK (K := K) rfl) (by rfl) T.n_len (by decide +kernel) (pa_cons (pe_ix (ix_P (K := K) rfl) (pv 12) pe_int (fun _ _ => rfl)) pa_nil)) pa_nil))))))
      (pss_one (ps_ret (pe_tup (pa_cons (pv 5) (pa_cons (pv 6) (pa_cons (pv 7) (pa_cons (pv 9) (pa_cons (pe_callTy call_tuple_of (by rfl) T.n_tuple (by decide +kernel) (pa_cons (pe_callB cr_sort3 (by rfl) T.n_sorted (by decide +kernel) (pa_cons (pv 11) pa_nil)) pa_nil)) pa_nil))))))))))))))))))), ?_⟩
  have hn5 := n47 hn
  have hn6 := n60 (show n < 2 ^ 50 by omega)
  refine ⟨(by show 1 ≤ sizeLine; decide), fun p1 hp1 => ⟨(by show 2 ≤ sizeLine; decide), fun p2 hp2 => ?_⟩⟩
  have g1 := dp_tupO (K := K) dk hp1 (.cons (.int 0) .nil)
  have dk1 := dk.new (o := .tup [.int 0]) hp1
  have X1 : Ext d c H (upd H p1 (.tup [.int 0])) := Ext.new hp1
  generalize upd H p1 (.tup [.int 0]) = H1 at g1 dk1 X1 hp2 ⊢
  have g2 := dp_tupO (K := K) dk1 hp2 (.cons g1 (.cons (.bl true) .nil))
  have dk2 := dk1.new (o := .tup [.ref p1, .bl true]) hp2
  have X2 : Ext d c H (upd H1 p2 (.tup [.ref p1, .bl true])) := X1.trans (Ext.new hp2)
  generalize upd H1 p2 (.tup [.ref p1, .bl true]) = H2 at g2 dk2 X2 ⊢
  refine ⟨(by show 0 ≤ sizeLine; decide), fun p3 hp3 => ⟨(by show 2 ≤ sizeLine; decide), fun p4 hp4 => ⟨(by show 2 ≤ sizeLine; decide), fun hp hhp => ?_⟩⟩⟩
  have g3 := dp_tupO (K := K) dk2 hp3 .nil
  have dk3 := dk2.new (o := .tup []) hp3
  have X3 : Ext d c H2 (upd H2 p3 (.tup [])) := Ext.new hp3
  generalize upd H2 p3 (.tup []) = H3 at g3 dk3 X3 hp4 hhp ⊢
  have g4 := dp_tupO (K := K) dk3 hp4 (.cons g3 (.cons (.bl true) .nil))
  have dk4 := dk3.new (o := .tup [.ref p3, .bl true]) hp4
  have X4 : Ext d c H2 (upd H3 p4 (.tup [.ref p3, .bl true])) := X3.trans (Ext.new hp4)
  have g2 := X4.dp g2
  have X4 := X2.trans X4
  generalize upd H3 p4 (.tup [.ref p3, .bl true]) = H4 at g2 g4 dk4 X4 hhp ⊢
  have nh := dk4.has hhp
  have hhpH := grow X4 dk4 hhp
  have dk5 := dk4.new (o := .lst [.ref p2, .ref p4]) hhp
  have X45 : Ext d c H4 (upd H4 hp (.lst [.ref p2, .ref p4])) := Ext.new hhp
  have e5 : (upd H4 hp (.lst [.ref p2, .ref p4])) hp = some (.lst [.ref p2, .ref p4]) := upd_same
  have g5 : DpAll K (off d c (upd H4 hp (.lst [.ref p2, .ref p4]))) [.ref p2, .ref p4] ([([0], true), ([], true)].map hdD) := .cons (X45.dp g2) (.cons (X45.dp g4) .nil)
  have X5 := X4.trans X45
  clear X45
  generalize upd H4 hp (.lst [.ref p2, .ref p4]) = H5 at e5 g5 dk5 X5 ⊢
  refine ⟨_, rfl, d, c, n, 4, rfl, by decide, by decide, by omega, dk5, fun m H6 r0 r1 dk6 X6 => ?_⟩
  obtain ⟨m, rfl, hm4⟩ := draw_lt (many := 4) r0 r1
  have e6 := X6.at nh.1 nh.2 e5
  have g6 := dpAll_mono X6 _ _ g5
  have X6 := X5.trans X6
  refine ⟨m, rfl, by omega, by omega, for_range (lo := 0) (n := (m : Int).toNat) (fun i σ H7 => ∃ x2 x3 xs hs, σ = [some (.ref d), some (.ref hp), x2, x3, none, none, none, none, none, none, none, none, none] ∧ H7 hp = some (.lst xs) ∧ DpAll K (off d c H7) xs ((hs : List (List Nat × Bool)).map hdD) ∧ hs.length = 2 + i ∧ HdOk hs ∧ Deck d c (n + 1 + 3 * i) H7 ∧ Ext d c H H7) ⟨_, _, _, _, rfl, e6, g6, rfl, ⟨by show 2 ≤ 5; decide, rfl, fun e he => ?_⟩, dk6, X6⟩ ?_ ?_⟩
  · simp only [List.mem_cons, List.not_mem_nil, or_false] at he
    rcases he with rfl | rfl
    · exact ⟨by decide, by decide, by decide⟩
    · exact ⟨by decide, by decide, by decide⟩
  · rintro i σ H7 hi ⟨x2, x3, xs, hs, rfl, e7, g7, hl7, ok7, dk7, X7⟩
    refine ⟨(by show 4 ≤ sizeLine; decide), fun pl hpl => ?_⟩
    have npl := dk7.has hpl
    have X8 : Ext d c H7 (upd H7 pl (.lst ([0, 1, 2, 3].map nV))) := Ext.new hpl
    have dk8 := dk7.new (o := .lst ([0, 1, 2, 3].map nV)) hpl
    have e8 : (upd H7 pl (.lst ([0, 1, 2, 3].map nV))) pl = some (.lst ([0, 1, 2, 3].map nV)) := upd_same
    have g8 := dpAll_mono X8 _ _ g7
    have h8 := X8.at nh.1 nh.2 e7
    have X8 := X7.trans X8
    generalize eH8 : upd H7 pl (.lst ([0, 1, 2, 3].map nV)) = H8 at e8 g8 h8 dk8 X8
    rw [show upd H7 pl (.lst [V.int 0, V.int 1, V.int 2, V.int 3]) = H8 from eH8]
    refine ⟨_, rfl, d, c, n + 1 + 3 * i, 4, rfl, by decide, by decide, by omega, dk8, fun r H9 r0 r1 dk9 X9 => ?_⟩
    obtain ⟨r, rfl, hr4⟩ := draw_lt (many := 4) r0 r1
    have e9 := X9.at npl.1 npl.2 e8
    have g9 := dpAll_mono X9 _ _ g8
    have h9 := X9.at nh.1 nh.2 h8
    have X9 := X8.trans X9
    refine ⟨r, rfl, pl, _, rfl, .inl (.inl e9), fun ps hps => ?_⟩
    rw [cut_to, ← List.map_take]
    generalize hss : ([0, 1, 2, 3] : List Nat).take r = ss
    have okS : ss.length ≤ 4 ∧ ss.Nodup ∧ ∀ s ∈ ss, s < 4 := by
      rw [← hss]
      match r, hr4 with
      | 0, _ => decide
      | 1, _ => decide
      | 2, _ => decide
      | 3, _ => decide
    have X10 : Ext d c H9 (upd H9 ps (.lst (ss.map nV))) := Ext.new hps
    have dk10 := dk9.new (o := .lst (ss.map nV)) hps
    have nps := dk9.has hps
    have e10 : (upd H9 ps (.lst (ss.map nV))) ps = some (.lst (ss.map nV)) := upd_same
    have g10 := dpAll_mono X10 _ _ g9
    have h10 := X10.at nh.1 nh.2 h9
    have X10 := X9.trans X10
    clear e8 e9 g8 g9 h8 h9
    generalize upd H9 ps (.lst (ss.map nV)) = H10 at e10 g10 h10 dk10 X10 ⊢
    refine ⟨_, rfl, .inl ⟨rfl, _, .inl (.inl h10)⟩, _, rfl, _, rfl, (by show 2 ≤ sizeLine; decide), fun pm hpm => ?_⟩
    have npm := dk10.has hpm
    have X11 : Ext d c H10 (upd H10 pm (.lst [.int 1, .int (-1)])) := Ext.new hpm
    have dk11 := dk10.new (o := .lst [.int 1, .int (-1)]) hpm
    have e11 : (upd H10 pm (.lst [.int 1, .int (-1)])) pm = some (.lst [.int 1, .int (-1)]) := upd_same
    refine ⟨_, rfl, d, c, n + 2 + 3 * i, 2, rfl, by decide, by decide, by omega, dk11.up (by omega), fun b H12 r0 r1 dk12 X12 => ?_⟩
    obtain ⟨b, rfl, hb2⟩ := draw_lt (many := 2) r0 r1
    have e12 := X12.at npm.1 npm.2 e11
    have X12 := X11.trans X12
    have g12 := dpAll_mono X12 _ _ g10
    have h12 := X12.at nh.1 nh.2 h10
    have s12 := X12.at nps.1 nps.2 e10
    have X12 := X10.trans X12
    obtain ⟨bb, hbb⟩ : ∃ bb : Bool, atI [V.int 1, .int (-1)] (b : Int) = some (.int (if bb then -1 else 1)) := by
      match b, hb2 with
      | 0, _ => exact ⟨false, atI_nat (j := 0) rfl⟩
      | 1, _ => exact ⟨true, atI_nat (j := 1) rfl⟩
    refine ⟨pm, _, _, _, rfl, rfl, .inl (.inl e12), hbb, _, rfl, ps, _, bb, rfl, rfl, .inl (.inl s12), fun pt hpt => ?_⟩
    obtain ⟨tt, ht1, ht2⟩ : ∃ tt : List Nat, (if bb = true then (ss.map nV).reverse else ss.map nV) = tt.map nV ∧ (tt.length ≤ 4 ∧ tt.Nodup ∧ ∀ s ∈ tt, s < 4) := by
      cases bb with
      | false => exact ⟨ss, rfl, okS⟩
      | true => exact ⟨ss.reverse, (List.map_reverse ..).symm, by rw [List.length_reverse]; exact okS.1, (List.reverse_perm ss).nodup_iff.mpr okS.2.1, fun s hs => okS.2.2 s (List.mem_reverse.mp hs)⟩
    rw [ht1]
    have X13 : Ext d c H12 (upd H12 pt (.lst (tt.map nV))) := Ext.new hpt
    have dk13 := dk12.new (o := .lst (tt.map nV)) hpt
    have e13 : (upd H12 pt (.lst (tt.map nV))) pt = some (.lst (tt.map nV)) := upd_same
    have g13 := dpAll_mono X13 _ _ g12
    have h13 := X13.at nh.1 nh.2 h12
    have X13 := X12.trans X13
    clear e12 s12 g12 h12 e10 e11 g10 h10 hbb
    generalize upd H12 pt (.lst (tt.map nV)) = H13 at e13 g13 h13 dk13 X13 ⊢
    refine ⟨pt, _, rfl, .inl ⟨.inl (.inl e13), fun pu hpu => ?_⟩⟩
    have g14 := dp_tupO (K := K) (ds := tt.map P18.nD) dk13 hpu (dpAll_map tt fun x _ => .int _)
    have dk14 := dk13.new (o := .tup (tt.map nV)) hpu
    have X14 : Ext d c H13 (upd H13 pu (.tup (tt.map nV))) := Ext.new hpu
    have gg := dpAll_mono X14 _ _ g13
    have h14 := X14.at nh.1 nh.2 h13
    have X14 := X13.trans X14
    generalize upd H13 pu (.tup (tt.map nV)) = H14 at g14 gg h14 dk14 X14 ⊢
    refine ⟨_, rfl, d, c, n + 3 + 3 * i, 3, rfl, by decide, by decide, by omega, dk14.up (by omega), fun e H15 r0 r1 dk15 X15 => ?_⟩
    obtain ⟨e, rfl, he3⟩ := draw_lt (many := 3) r0 r1
    have g15 := X15.dp g14
    have gg := dpAll_mono X15 _ _ gg
    have h15 := X15.at nh.1 nh.2 h14
    have X15 := X14.trans X15
    refine ⟨_, _, rfl, rfl, (by show 2 ≤ sizeLine; decide), fun pw hpw => ?_⟩
    have g16 := dp_tupO (K := K) dk15 hpw (.cons g15 (.cons (.bl (decide ((0 : Int) < (e : Int)))) .nil))
    have X16 : Ext d c H15 (upd H15 pw (.tup [.ref pu, .bl (decide ((0 : Int) < (e : Int)))])) := Ext.new hpw
    have dk16 := dk15.new (o := .tup [.ref pu, .bl (decide ((0 : Int) < (e : Int)))]) hpw
    have h16 := X16.at nh.1 nh.2 h15
    have X156 := X16
    have X16 := X15.trans X16
    have hxl := dpAll_len gg
    rw [List.length_map] at hxl
    have hm : i < 3 := by omega
    refine ⟨hp, xs, _, rfl, rfl, h16, small_line (by omega), _, _, xs ++ [.ref pw], hs ++ [(tt, decide ((0 : Int) < (e : Int)))], rfl, upd_same, ?_, by rw [List.length_append, hl7]; rfl, ⟨?_, ?_, fun e' he' => ?_⟩, (dk16.upd nh.1 nh.2).up (by omega), X16.mut hhpH⟩
    · rw [List.map_append]
      exact lst_step nh h15 gg (nlAll fun e => by simp only [hdD, noL, noLAll, nlAll nlN, Bool.and_true]) X156 g16 (by simp only [hdD, noL, noLAll, nlAll nlN, Bool.and_true])
    · rw [List.length_append]
      show hs.length + 1 ≤ 5
      omega
    · rw [List.getElem?_append_left (by omega)]
      exact ok7.2.1
    · rcases List.mem_append.mp he' with h | h
      · exact ok7.2.2 e' h
      · rw [List.mem_singleton.mp h]
        exact ht2
  rintro σ H7 ⟨x2, x3, xs, hs, rfl, e7, g7, hl7, ok7, dk7, X7⟩
  have emt : ((m : Nat) : Int).toNat = m := by omega
  rw [emt] at hl7 dk7
  clear e6 g6 e5 g5 g4 g2 X6 X5 X4 X2 X1 dk6 dk5 dk4 dk3 dk2 dk1
  have hxl := dpAll_len g7
  rw [List.length_map] at hxl
  intro wd hwd
  have nwd := dk7.has hwd
  have hwdH := grow X7 dk7 hwd
  have dk8 := dk7.new (o := .dK []) hwd
  have X78 : Ext d c H7 (upd H7 wd (.dK [])) := Ext.new hwd
  have w8 : (upd H7 wd (.dK [])) wd = some (.dK []) := upd_same
  have e8 := X78.at nh.1 nh.2 e7
  have g8 := dpAll_mono X78 _ _ g7
  have X8 := X7.trans X78
  have nwh : wd ≠ hp := (ne_of_none e7 hwd).symm
  clear e7 g7 X78
  generalize upd H7 wd (.dK []) = H8 at dk8 w8 e8 g8 X8 ⊢
  refine ⟨_, rfl, _, rfl, hp, xs, rfl, .inl (.inl e8), fun D hD => ?_⟩
  have nD := dk8.has hD
  have nDw : wd ≠ D := ne_of_none w8 hD
  refine lc_it (walk_enum (K := K) (xs := xs)) (fun i H9 => ∃ ks : List Nat, H9 D = some (.lst (ks.map nV)) ∧ ks.length ≤ i ∧ (0 < i → ks ≠ []) ∧ (∀ k ∈ ks, ∃ p, hs[k]? = some ([p], true)) ∧ Same H8 H9) ⟨[], upd_same, Nat.le_refl _, fun h => absurd h (Nat.lt_irrefl _), (fun _ h => nomatch h), same_new hD⟩ ?_ ?_ ?_
  · rintro i H9 _ ⟨_, _, _, _, _, s9⟩
    exact .inl (.inl (s9 _ _ e8))
  · rintro i x H9 H10 hi ⟨ks, h9, hkl, hk0, hks, s9⟩ ⟨T1, y1, y2, rfl, hT1, rfl, f1, f2⟩
    injection f1 with f1
    subst f1
    obtain ⟨e, he, hye⟩ := dpAll_map_get g8 f2
    have sT := same_new (o := .tup [.int (i : Nat), y2]) hT1
    have hye := dp_mono (s9.trans sT) _ _ (offD hye)
    have eT : (upd H9 T1 (.tup [.int (i : Nat), y2])) T1 = some (.tup [.int (i : Nat), y2]) := upd_same
    have h9 := sT _ _ h9
    have s10 := s9.trans sT
    generalize upd H9 T1 (.tup [.int (i : Nat), y2]) = H10 at hye eT h9 s10 ⊢
    refine ⟨T1, _, rfl, .inl (.inl eT), rfl, _, _, rfl, _, _, rfl, rfl, rfl, ?_⟩
    refine ⟨y2, rfl, _, 1, _, hye, rfl, rfl, fun z hz => ?_⟩
    cases hz
    refine ⟨_, rfl, ?_⟩
    have skip : ¬ (e.1.length = 1 ∧ e.2 = true) → (0 < i + 1 → ks ≠ []) := fun hne _ => by
      cases i with
      | zero =>
        rw [ok7.2.1] at he
        cases he
        exact absurd ⟨rfl, rfl⟩ hne
      | succ i => exact hk0 (Nat.succ_pos i)
    cases hb : e.2 with
    | false => exact iteF (iteF ⟨ks, h9, Nat.le_succ_of_le hkl, skip (fun h => by rw [hb] at h; exact absurd h.2 Bool.false_ne_true), hks, s10⟩)
    | true =>
      refine iteT ⟨y2, rfl, _, 0, _, hye, rfl, rfl, fun z hz => ?_⟩
      cases hz with
      | @tup pa px _ sqp hpp =>
      have hpl := dpAll_len hpp
      rw [List.length_map] at hpl
      refine ⟨_, px.length, rfl, .inr ⟨_, sqp, rfl⟩, rfl, _, rfl, ?_⟩
      by_cases hl1 : e.1.length = 1
      · rw [show decide (V.int ((px.length : Nat) : Int) = V.int 1) = true from decide_eq_true (by rw [hpl, hl1]; rfl)]
        refine iteT ⟨_, rfl, _, h9, by rw [List.length_map]; exact small_line (by omega), ks ++ [i], by rw [upd_same, List.map_append]; rfl, by rw [List.length_append]; exact Nat.succ_le_succ hkl, fun _ => by simp, fun k hk => ?_, fun b o hbo => by rw [upd_ne (ne_of_none hbo hD)]; exact s10 _ _ hbo⟩
        rcases List.mem_append.mp hk with hk | hk
        · exact hks k hk
        · rw [List.mem_singleton.mp hk, he]
          obtain ⟨p, ep⟩ := List.length_eq_one_iff.mp hl1
          refine ⟨p, ?_⟩
          rw [show e = (e.1, e.2) from rfl, ep, hb]
      · rw [show decide (V.int ((px.length : Nat) : Int) = V.int 1) = false from ne_int (b := 1) (by omega)]
        exact iteF ⟨ks, h9, Nat.le_succ_of_le hkl, skip (fun h => hl1 h.1), hks, s10⟩
  rintro H9 ⟨ks, h9, hkl, hk0, hks, s9⟩
  rw [hxl] at hkl hk0
  have hkne := hk0 (by omega)
  refine ⟨s9 _ _ w8, [(Sum.inr "heads", .ref hp), (Sum.inr "single", .ref D)], rfl, by show 2 ≤ 15; decide, ?_⟩
  rw [mergeK_nd (kvs := [(Sum.inr "heads", .ref hp), (Sum.inr "single", .ref D)]) (show ([Sum.inr "heads", Sum.inr "single"] : List Key).Nodup by decide +kernel)]
  have w9 := s9 _ _ w8
  have nDh : hp ≠ D := ne_of_none e8 hD
  have dk10 : Deck d c (n + 10) (upd H9 wd (.dK [(Sum.inr "heads", .ref hp), (Sum.inr "single", .ref D)])) := ((dk8.same s9).upd nwd.1 nwd.2).up (by omega)
  have X10 : Ext d c H (upd H9 wd (.dK [(Sum.inr "heads", .ref hp), (Sum.inr "single", .ref D)])) := (X8.trans (off_same_mono s9)).mut hwdH
  have W10 : Wd K (off d c (upd H9 wd (.dK [(Sum.inr "heads", .ref hp), (Sum.inr "single", .ref D)]))) wd hs := by
    refine ⟨ok7, hp, D, xs, ks, ?_, ?_, ?_, ?_, hkne, by omega, hks⟩
    · rw [off_get nwd.1 nwd.2]; exact upd_same
    · rw [off_get nh.1 nh.2, upd_ne nwh.symm]; exact s9 _ _ e8
    · rw [off_upd nwd.1 nwd.2]
      exact dpAll_kt (KT.dK (l := []) (by rw [off_get nwd.1 nwd.2]; exact w9)) _ _ (nlAll fun e => by simp only [hdD, noL, noLAll, nlAll nlN, Bool.and_true]) (dpAll_mono (off_same_mono s9) _ _ g8)
    · rw [off_get nD.1 nD.2, upd_ne nDw.symm]; exact h9
  have e10 : (upd H9 wd (.dK [(Sum.inr "heads", .ref hp), (Sum.inr "single", .ref D)])) hp = some (.lst xs) := by rw [upd_ne nwh.symm]; exact s9 _ _ e8
  have g10 : DpAll K (off d c (upd H9 wd (.dK [(Sum.inr "heads", .ref hp), (Sum.inr "single", .ref D)]))) xs (hs.map hdD) := by
    rw [off_upd nwd.1 nwd.2]
    exact dpAll_kt (KT.dK (l := []) (by rw [off_get nwd.1 nwd.2]; exact w9)) _ _ (nlAll fun e => by simp only [hdD, noL, noLAll, nlAll nlN, Bool.and_true]) (dpAll_mono (off_same_mono s9) _ _ g8)
  clear g8 e8 w8 w9 h9 s9 X8 dk8
  generalize upd H9 wd (.dK [(Sum.inr "heads", .ref hp), (Sum.inr "single", .ref D)]) = H10 at dk10 X10 W10 e10 g10 ⊢
  -- the codes
  refine ⟨_, rfl, hp, rfl, ⟨_, .inl (.inl e10)⟩, fun D2 hD2 => ?_⟩
  have nD2 := dk10.has hD2
  have hhl := ok7.1
  refine lc_list (xs := xs) (fun i H11 => ∃ us cds, H11 D2 = some (.lst us) ∧ DpAll K (off d c H11) us ((cds : List Cd).map Cd.D) ∧ cds.map cdH = hs.take i ∧ (∀ cd ∈ cds, CdOk (imH hs) cd) ∧ Deck d c (n + 10 + 800 * i) H11 ∧ Ext d c H10 H11) ⟨[], [], upd_same, .nil, rfl, (fun _ h => nomatch h), dk10.new hD2, Ext.new hD2⟩ ?_ ?_ ?_
  · rintro i H11 _ ⟨_, _, _, _, _, _, _, X11⟩
    exact .inl (.inl (X11.at nh.1 nh.2 e10))
  · rintro i x H11 hi ⟨us, cds, h11, hus, hcds, hok, dk11, X11⟩
    obtain ⟨e, he, hxe⟩ := dpAll_map_get g10 hi
    have hi5 : i < hs.length := (List.getElem?_eq_some_iff.mp he).1
    refine ⟨rfl, tyes ⟨_, rfl, _, rfl, _, rfl, hs, d, c, wd, n + 10 + 800 * i, x, e, rfl, by omega, dk11, W10.mono X11, X11.dp hxe, List.mem_of_getElem? he, fun cd v H12 hc1 hc2 hc3 dk12 X12 hv => ?_⟩⟩
    have h12 := X12.at nD2.1 nD2.2 h11
    have hul := dpAll_len hus
    rw [List.length_map] at hul
    have hcl : cds.length = i := by
      have e := congrArg List.length hcds
      rw [List.length_map, List.length_take] at e
      omega
    refine ⟨us, h12, small_line (by omega), us ++ [v], cds ++ [cd], upd_same, ?_, ?_, fun cd' h => ?_, (dk12.upd nD2.1 nD2.2).up (by omega), (X11.trans X12).mut hD2⟩
    · rw [List.map_append]
      exact lst_step nD2 h11 hus (nlAll nlC) X12 hv (nlC cd)
    · rw [List.map_append, hcds, List.take_add_one, he]
      show hs.take i ++ [(cd.ps, cd.ret)] = _
      rw [hc1, hc2]
      rfl
    · rcases List.mem_append.mp h with h | h
      · exact hok cd' h
      · rw [List.mem_singleton.mp h]; exact hc3
  rintro H11 ⟨us, cds, h11, hus, hcds, hok, dk11, X11⟩
  rw [hxl] at dk11 hcds
  rw [List.take_of_length_le (Nat.le_refl _)] at hcds
  refine ⟨D2, us, rfl, .inl ⟨.inl (.inl h11), fun pc hpc => ?_⟩⟩
  have gc := dp_tupO (K := K) dk11 hpc hus
  have W11 := W10.mono X11
  have e11 := X11.at nh.1 nh.2 e10
  have g11 := dpAll_mono X11 _ _ g10
  have X11 := X10.trans X11
  have X112 : Ext d c H11 (upd H11 pc (.tup us)) := Ext.new hpc
  have dk12 : Deck d c (n + 4010) (upd H11 pc (.tup us)) := (dk11.new hpc).up (by omega)
  have W12 := W11.mono X112
  have e12 := X112.at nh.1 nh.2 e11
  have g12 := dpAll_mono X112 _ _ g11
  have X12 := X11.trans X112
  clear X112 hD2 nD2 e10 g10 X10 e11 g11 W10 W11 dk10 dk11 X11
  generalize upd H11 pc (.tup us) = H12 at gc dk12 W12 e12 g12 X12 ⊢
  have pickS : ∀ H : Hp, Wd K (off d c H) wd hs → ∃ sa ss, DGet H wd (.str "single") (some (.ref sa)) ∧ SqL K (off d c H) sa ((ss : List Nat).map nV) ∧ 0 < (ss.map nV).length ∧ (ss.map nV).length ≤ 1000 ∧ ∀ k ∈ ss, Single (imH hs) k := fun H W => by
    obtain ⟨ha, sa, xs, ss, w1, w2, w3, w4, w5, w6, w7⟩ := W.ex
    refine ⟨sa, ss, DGet.k (k := Sum.inr "single") (off_at w1).1, .inl (.inl w4), by rw [List.length_map]; exact List.length_pos_iff.mpr w5, by rw [List.length_map]; omega, fun k hk => ?_⟩
    obtain ⟨p, hp⟩ := w7 k hk
    exact ⟨_, imH_at hp, rfl, p, rfl⟩
  -- the globals
  refine ⟨_, rfl, d, c, n + 4010, 9, rfl, by decide, by decide, by omega, dk12, fun ga H13 r0 r1 dk13 X13 => ?_⟩
  obtain ⟨ga, rfl, hga⟩ := draw_lt (many := 9) r0 r1
  refine ⟨(by show 2 ≤ sizeLine; decide), fun q1 hq1 => ?_⟩
  have g13 := dp_tupO (K := K) dk13 hq1 (.cons (.str "ga") (.cons (.int (ga : Int)) .nil))
  have X14 := X13.trans (Ext.new (o := .tup [.str "ga", .int (ga : Int)]) hq1)
  have dk14 := dk13.new (o := .tup [.str "ga", .int (ga : Int)]) hq1
  generalize upd H13 q1 (.tup [.str "ga", .int (ga : Int)]) = H14 at g13 X14 dk14 ⊢
  obtain ⟨sa, ss, s1, s2, s3, s4, s5⟩ := pickS H14 (W12.mono X14)
  refine ⟨_, rfl, _, rfl, _, _, rfl, s1, d, c, n + 4011, sa, _, rfl, by omega, dk14, s2, s3, s4, fun y H15 hy dk15 X15 => ?_⟩
  obtain ⟨gf, hgf, rfl⟩ := List.mem_map.mp hy
  have hgf := s5 gf hgf
  refine ⟨(by show 2 ≤ sizeLine; decide), fun q2 hq2 => ⟨(by show 2 ≤ sizeLine; decide), fun q3 hq3 => ⟨(by show 2 ≤ sizeLine; decide), fun q4 hq4 => ?_⟩⟩⟩
  have g16 := dp_tupO (K := K) dk15 hq2 (.cons (.str "func") (.cons (.int (gf : Int)) .nil))
  have dk16 := dk15.new (o := .tup [.str "func", nV gf]) hq2
  have X16 : Ext d c H14 (upd H15 q2 (.tup [.str "func", nV gf])) := X15.trans (Ext.new hq2)
  generalize upd H15 q2 (.tup [.str "func", nV gf]) = H16 at g16 dk16 X16 hq3 hq4 ⊢
  have g17 := dp_tupO (K := K) dk16 hq3 (.cons (.str "gf") (.cons g16 .nil))
  have dk17 := dk16.new (o := .tup [.str "gf", .ref q2]) hq3
  have X17 : Ext d c H14 (upd H16 q3 (.tup [.str "gf", .ref q2])) := X16.trans (Ext.new hq3)
  have g13 := X17.dp g13
  generalize upd H16 q3 (.tup [.str "gf", .ref q2]) = H17 at g13 g17 dk17 X17 hq4 ⊢
  have g18 := dp_tupO (K := K) dk17 hq4 (.cons g13 (.cons g17 .nil))
  have dk18 := (dk17.new (o := .tup [.ref q1, .ref q3]) hq4).up (show _ ≤ n + 4012 by omega)
  have X18 : Ext d c H12 (upd H17 q4 (.tup [.ref q1, .ref q3])) := X14.trans (X17.trans (Ext.new hq4))
  have W18 := W12.mono X18
  have gc := X18.dp gc
  have e18 := X18.at nh.1 nh.2 e12
  have g12 := dpAll_mono X18 _ _ g12
  have X18 := X12.trans X18
  clear g13 g16 g17 X17 X16 X15 X14 X13 dk13 dk14 dk15 dk16 dk17 s1 s2 s3 s4 s5 W12 e12
  generalize upd H17 q4 (.tup [.ref q1, .ref q3]) = H18 at g18 dk18 W18 gc e18 g12 X18 ⊢
  -- the arrays
  refine ⟨_, rfl, d, c, n + 4012, 3, rfl, by decide, by decide, by omega, dk18, fun m H19 r0 r1 dk19 X19 => ?_⟩
  obtain ⟨m, rfl, hm3⟩ := draw_lt (many := 3) r0 r1
  refine ⟨_, _, rfl, rfl, 1 + (m : Int), rfl, by omega, by omega, fun D3 hD3 => ?_⟩
  have nD3 := dk19.has hD3
  refine lc_range (lo := 0) (n := (1 + (m : Int)).toNat) (fun i H20 => ∃ ns : List Nat, H20 D3 = some (.lst (ns.map nV)) ∧ ns.length = i ∧ (∀ n ∈ ns, n < 65536) ∧ Deck d c (n + 4013 + i) H20 ∧ Ext d c H19 H20) ⟨[], upd_same, rfl, (fun _ h => nomatch h), dk19.new hD3, Ext.new hD3⟩ ?_ ?_
  · rintro i H20 hi ⟨ns, h20, hnl, hns, dk20, X20⟩
    refine ⟨rfl, tyes ⟨_, rfl, d, c, n + 4013 + i, 9, rfl, by decide, by decide, by omega, dk20, fun r H21 r0 r1 dk21 X21 => ?_⟩⟩
    obtain ⟨r, rfl, hr9⟩ := draw_lt (many := 9) r0 r1
    refine ⟨_, X21.at nD3.1 nD3.2 h20, by rw [List.length_map]; exact small_line (by omega), ns ++ [r], by rw [upd_same, List.map_append]; rfl, by rw [List.length_append, hnl]; rfl, fun k hk => ?_, (dk21.upd nD3.1 nD3.2), (X20.trans X21).mut hD3⟩
    rcases List.mem_append.mp hk with hk | hk
    · exact hns k hk
    · rw [List.mem_singleton.mp hk]; omega
  rintro H20 ⟨ta, h20, htl, hta, dk20, X20⟩
  have etm : (1 + (m : Int)).toNat = 1 + m := by omega
  rw [etm] at htl dk20
  refine ⟨D3, _, rfl, .inl ⟨.inl (.inl h20), fun q5 hq5 => ⟨(by show 2 ≤ sizeLine; decide), fun q6 hq6 => ⟨(by show 1 ≤ sizeLine; decide), fun q7 hq7 => ?_⟩⟩⟩⟩
  have g20 := dp_tupO (K := K) (ds := ta.map P18.nD) dk20 hq5 (dpAll_map ta fun x _ => .int _)
  have dk21 := dk20.new (o := .tup (ta.map nV)) hq5
  have X21 : Ext d c H18 (upd H20 q5 (.tup (ta.map nV))) := X19.trans (X20.trans (Ext.new hq5))
  generalize upd H20 q5 (.tup (ta.map nV)) = H21 at g20 dk21 X21 hq6 hq7 ⊢
  have g22 := dp_tupO (K := K) dk21 hq6 (.cons (.str "ta") (.cons g20 .nil))
  have dk22 := dk21.new (o := .tup [.str "ta", .ref q5]) hq6
  have X22 : Ext d c H18 (upd H21 q6 (.tup [.str "ta", .ref q5])) := X21.trans (Ext.new hq6)
  generalize upd H21 q6 (.tup [.str "ta", .ref q5]) = H22 at g22 dk22 X22 hq7 ⊢
  have g23 := dp_tupO (K := K) dk22 hq7 (.cons g22 .nil)
  have dk23 := (dk22.new (o := .tup [.ref q6]) hq7).up (show _ ≤ n + 4020 by omega)
  have X23 : Ext d c H18 (upd H22 q7 (.tup [.ref q6])) := X22.trans (Ext.new hq7)
  have W23 := W18.mono X23
  have gc := X23.dp gc
  have gg := X23.dp g18
  have e23 := X23.at nh.1 nh.2 e18
  have g12 := dpAll_mono X23 _ _ g12
  have X23 := X18.trans X23
  clear g20 g22 X22 X21 X20 X19 dk19 dk20 dk21 dk22 h20 hD3 nD3 g18 W18 e18 X18 dk18
  generalize upd H22 q7 (.tup [.ref q6]) = H23 at g23 dk23 W23 gc gg e23 g12 X23 ⊢
  refine ⟨_, rfl, ?_⟩
  obtain ⟨sa, ss, s1, s2, s3, s4, s5⟩ := pickS H23 W23
  refine ⟨_, rfl, _, rfl, _, _, rfl, s1, d, c, n + 4020, sa, _, rfl, by omega, dk23, s2, s3, s4, fun y H24 hy dk24 X24 => ?_⟩
  obtain ⟨tf, htf, rfl⟩ := List.mem_map.mp hy
  have htf := s5 tf htf
  refine ⟨(by show 2 ≤ sizeLine; decide), fun q8 hq8 => ⟨(by show 1 ≤ sizeLine; decide), fun q9 hq9 => ⟨(by show 2 ≤ sizeLine; decide), fun qa hqa => ⟨(by show 1 ≤ sizeLine; decide), fun qb hqb => ?_⟩⟩⟩⟩
  have g25 := dp_tupO (K := K) dk24 hq8 (.cons (.str "func") (.cons (.int (tf : Int)) .nil))
  have dk25 := dk24.new (o := .tup [.str "func", nV tf]) hq8
  have X25 : Ext d c H23 (upd H24 q8 (.tup [.str "func", nV tf])) := X24.trans (Ext.new hq8)
  generalize upd H24 q8 (.tup [.str "func", nV tf]) = H25 at g25 dk25 X25 hq9 hqa hqb ⊢
  have g26 := dp_tupO (K := K) dk25 hq9 (.cons g25 .nil)
  have dk26 := dk25.new (o := .tup [.ref q8]) hq9
  have X26 : Ext d c H23 (upd H25 q9 (.tup [.ref q8])) := X25.trans (Ext.new hq9)
  generalize upd H25 q9 (.tup [.ref q8]) = H26 at g26 dk26 X26 hqa hqb ⊢
  have g27 := dp_tupO (K := K) dk26 hqa (.cons (.str "tf") (.cons g26 .nil))
  have dk27 := dk26.new (o := .tup [.str "tf", .ref q9]) hqa
  have X27 : Ext d c H23 (upd H26 qa (.tup [.str "tf", .ref q9])) := X26.trans (Ext.new hqa)
  generalize upd H26 qa (.tup [.str "tf", .ref q9]) = H27 at g27 dk27 X27 hqb ⊢
  have g28 := dp_tupO (K := K) dk27 hqb (.cons g27 .nil)
  have dk28 := dk27.new (o := .tup [.ref qa]) hqb
  have X28 : Ext d c H23 (upd H27 qb (.tup [.ref qa])) := X27.trans (Ext.new hqb)
  have g23 := X28.dp g23
  generalize upd H27 qb (.tup [.ref qa]) = H28 at g23 g28 dk28 X28 ⊢
  refine ⟨_, _, offD g23, offD g28, by show 1 + 1 ≤ sizeLine; decide, fun va H29 s29 hva => ?_⟩
  have dk29 := (dk28.same s29).up (show _ ≤ n + 4030 by omega)
  have hva := dp_kt (off_kt dk29) _ _ (by simp only [List.cons_append, List.nil_append, noL, noLAll, nlAll nlN, Bool.and_true]) hva
  have X29 := X28.trans (off_same_mono s29)
  have W29 := W23.mono X29
  have gc := X29.dp gc
  have gg := X29.dp gg
  have e29 := X29.at nh.1 nh.2 e23
  have g12 := dpAll_mono X29 _ _ g12
  have X29 := X23.trans X29
  clear g23 g25 g26 g27 g28 X28 X27 X26 X25 X24 s29 dk24 dk25 dk26 dk27 dk28 W23 e23 X23 dk23 s1 s2 s3 s4 s5
  -- the plain ones
  refine ⟨_, rfl, hp, xs, rfl, .inl (.inl e29), fun D4 hD4 => ?_⟩
  have nD4 := dk29.has hD4
  refine lc_it (walk_enum (K := K) (xs := xs)) (fun i H30 => ∃ ks : List Nat, H30 D4 = some (.lst (ks.map nV)) ∧ ks.length ≤ i ∧ (∀ k ∈ ks, hs[k]? = some ([], true)) ∧ Same H29 H30) ⟨[], upd_same, Nat.le_refl _, (fun _ h => nomatch h), same_new hD4⟩ ?_ ?_ ?_
  · rintro i H30 _ ⟨_, _, _, _, s30⟩
    exact .inl (.inl (s30 _ _ e29))
  · rintro i x H30 H31 hi ⟨ks, h30, hkl2, hks2, s30⟩ ⟨T1, y1, y2, rfl, hT1, rfl, f1, f2⟩
    injection f1 with f1
    subst f1
    obtain ⟨e, he, hye⟩ := dpAll_map_get g12 f2
    have sT := same_new (o := .tup [.int (i : Nat), y2]) hT1
    have hye := dp_mono (s30.trans sT) _ _ (offD hye)
    have eT : (upd H30 T1 (.tup [.int (i : Nat), y2])) T1 = some (.tup [.int (i : Nat), y2]) := upd_same
    have h30 := sT _ _ h30
    have s31 := s30.trans sT
    generalize upd H30 T1 (.tup [.int (i : Nat), y2]) = H31 at hye eT h30 s31 ⊢
    refine ⟨T1, _, rfl, .inl (.inl eT), rfl, _, _, rfl, _, _, rfl, rfl, rfl, ?_⟩
    refine ⟨y2, rfl, (by show 0 ≤ sizeLine; decide), fun t1 ht1 => ⟨(by show 2 ≤ sizeLine; decide), fun t2 ht2 => ?_⟩⟩
    have s32 := same_new (o := .tup []) ht1
    have k1 := dp_tupN (K := K) ht1 (DpAll.nil)
    have s33 := s32.trans (same_new (o := .tup [.ref t1, .bl true]) ht2)
    have k2 := dp_tupN (K := K) ht2 (.cons k1 (.cons (.bl true) .nil))
    have hye := dp_mono s33 _ _ hye
    have h30 := s33 _ _ h30
    have s31 := s31.trans s33
    generalize upd (upd H31 t1 (.tup [])) t2 (.tup [.ref t1, .bl true]) = H33 at k2 hye h30 s31 ⊢
    refine ⟨_, _, hye, k2, shaped_hd e, by decide +kernel, _, rfl, ?_⟩
    cases hq : PyData.eqv (hdD e) (.tuple [.tuple [], .bool true]) with
    | false => exact iteF ⟨ks, h30, Nat.le_succ_of_le hkl2, hks2, s31⟩
    | true =>
      have hem := eqv_main e hq
      refine iteT ⟨_, rfl, _, h30, by rw [List.length_map]; exact small_line (by omega), ks ++ [i], by rw [upd_same, List.map_append]; rfl, by rw [List.length_append]; exact Nat.succ_le_succ hkl2, fun k hk => ?_, fun b o hbo => by rw [upd_ne (ne_of_none hbo hD4)]; exact s31 _ _ hbo⟩
      rcases List.mem_append.mp hk with hk | hk
      · exact hks2 k hk
      · rw [List.mem_singleton.mp hk, he, hem]
  rintro H30 ⟨ks2, h30, hkl2, hks2, s30⟩
  rw [hxl] at hkl2
  have dk30 := dk29.same s30
  have X30 : Ext d c H29 H30 := off_same_mono s30
  have gc := X30.dp gc
  have gg := X30.dp gg
  have hva := X30.dp hva
  have e30 := s30 _ _ e29
  have g12 := dpAll_mono X30 _ _ g12
  have X30 := X29.trans X30
  clear s30 e29 X29 dk29 hD4 W29
  -- the starts
  refine ⟨_, rfl, d, c, n + 4030, 3, rfl, by decide, by decide, by omega, dk30, fun m2 H31 r0 r1 dk31 X31 => ?_⟩
  obtain ⟨m2, rfl, hm2⟩ := draw_lt (many := 3) r0 r1
  have h31 := X31.at nD4.1 nD4.2 h30
  refine ⟨_, rfl, Nat.zero_le _, fun p5 hp5 => ?_⟩
  have s32 := same_new (o := .lst []) hp5
  have e32 : (upd H31 p5 (.lst [])) p5 = some (.lst []) := upd_same
  have h32 := s32 _ _ h31
  have dk32 := dk31.same s32
  have X32 : Ext d c H30 (upd H31 p5 (.lst [])) := X31.trans (off_same_mono s32)
  generalize upd H31 p5 (.lst []) = H32 at e32 h32 dk32 X32 ⊢
  have h32' : H32 D4 = some (.lst ((ks2.map fun k : Nat => (k : Int)).map V.int)) := by
    rw [List.map_map]
    exact h32
  refine ⟨.list ((ks2.map fun k : Nat => (k : Int)).map PyData.int), .list [], .lst (.inl (.inl h32')) (dpInts _), .lst (.inl (.inl e32)) .nil, shaped_ints _, shaped_ints [], ?_⟩
  refine .inr ⟨_, rfl, _, _, rfl, rfl, ?_⟩
  have hb2 : ∃ z : Nat, b2I (!PyData.eqv (.list ((ks2.map fun k : Nat => (k : Int)).map PyData.int)) (.list [])) = (z : Int) ∧ z ≤ 1 ∧ (ks2 = [] → z = 0) := by
    cases hks : ks2 with
    | nil => exact ⟨0, by simp [PyData.eqv, PyData.eqvAll, b2I], by decide, fun _ => rfl⟩
    | cons k ks => exact ⟨1, by simp [PyData.eqv, PyData.eqvAll, b2I], by decide, fun h => nomatch h⟩
  obtain ⟨z, ez, hz1, hz0⟩ := hb2
  rw [ez]
  refine ⟨.inl (by omega), ?_⟩
  obtain ⟨r, er, hr2, hr0⟩ : ∃ r : Nat, (m2 : Int) * (z : Int) = (r : Int) ∧ r ≤ 2 ∧ (ks2 = [] → r = 0) := by
    have : z = 0 ∨ z = 1 := by omega
    rcases this with rfl | rfl
    · exact ⟨0, by simp, by decide, fun _ => rfl⟩
    · exact ⟨m2, by simp, by omega, fun h => absurd (hz0 h) (by decide)⟩
  refine ⟨(r : Int), by show [V.int ((m2 : Int) * (z : Int))] = _; rw [er], by omega, by omega, fun D5 hD5 => ?_⟩
  have nD5 := dk32.has hD5
  refine lc_range (lo := 0) (n := (r : Int).toNat) (fun i H33 => ∃ ns : List Nat, H33 D5 = some (.lst (ns.map nV)) ∧ ns.length = i ∧ (∀ k ∈ ns, hs[k]? = some ([], true)) ∧ Deck d c (n + 4031 + i) H33 ∧ Ext d c H32 H33) ⟨[], upd_same, rfl, (fun _ h => nomatch h), dk32.new hD5, Ext.new hD5⟩ ?_ ?_
  · rintro i H33 hi ⟨ns, h33, hnl, hns, dk33, X33⟩
    have hne : ks2 ≠ [] := fun z => by have := hr0 z; omega
    have hD4 : off d c H33 D4 = some (.lst (ks2.map nV)) := by
      rw [off_get nD4.1 nD4.2]
      exact X33.at nD4.1 nD4.2 h32
    refine ⟨rfl, tyes ⟨_, rfl, _, rfl, d, c, n + 4031 + i, D4, _, rfl, by omega, dk33, .inl (.inl hD4), by rw [List.length_map]; exact List.length_pos_iff.mpr hne, by rw [List.length_map]; omega, fun y H34 hy dk34 X34 => ?_⟩⟩
    obtain ⟨k, hk, rfl⟩ := List.mem_map.mp hy
    refine ⟨_, X34.at nD5.1 nD5.2 h33, by rw [List.length_map]; exact small_line (by omega), ns ++ [k], by rw [upd_same, List.map_append]; rfl, by rw [List.length_append, hnl]; rfl, fun k' hk' => ?_, (dk34.upd nD5.1 nD5.2), (X33.trans X34).mut hD5⟩
    rcases List.mem_append.mp hk' with h | h
    · exact hns k' h
    · rw [List.mem_singleton.mp h]; exact hks2 k hk
  rintro H33 ⟨st, h33, hstl, hst, dk33, X33⟩
  have etr : ((r : Nat) : Int).toNat = r := by omega
  rw [etr] at hstl dk33
  refine ⟨D5, _, rfl, .inl ⟨.inl (.inl h33), fun qc hqc => ?_⟩⟩
  have g34 := dp_tupO (K := K) (ds := st.map P18.nD) dk33 hqc (dpAll_map st fun x _ => .int _)
  have dk34 := (dk33.new (o := .tup (st.map nV)) hqc).up (show _ ≤ n + 4040 by omega)
  have X34 : Ext d c H30 (upd H33 qc (.tup (st.map nV))) := X32.trans (X33.trans (Ext.new hqc))
  have gc := X34.dp gc
  have gg := X34.dp gg
  have hva := X34.dp hva
  have e34 := X34.at nh.1 nh.2 e30
  have g12 := dpAll_mono X34 _ _ g12
  have X34 := X30.trans X34
  clear X33 X32 X31 dk31 dk32 dk33 h31 h32 h32' e32 h33 hD5 nD5 h30 e30 X30 dk30 nD4 hqc
  generalize upd H33 qc (.tup (st.map nV)) = H34 at g34 dk34 gc gg hva e34 g12 X34 ⊢
  -- the names
  refine ⟨(by show 5 ≤ sizeLine; decide), fun qd hqd => ?_⟩
  have nqd := dk34.has hqd
  have X35 : Ext d c H34 (upd H34 qd (.lst (nm5.map V.str))) := Ext.new hqd
  have dk35 := dk34.new (o := .lst (nm5.map V.str)) hqd
  have n35 : (upd H34 qd (.lst (nm5.map V.str))) qd = some (.lst (nm5.map V.str)) := upd_same
  have gc := X35.dp gc
  have gg := X35.dp gg
  have hva := X35.dp hva
  have g34 := X35.dp g34
  have e35 := X35.at nh.1 nh.2 e34
  have g12 := dpAll_mono X35 _ _ g12
  have X35 := X34.trans X35
  generalize eH35 : upd H34 qd (.lst (nm5.map V.str)) = H35 at n35 dk35 gc gg hva g34 e35 g12 X35
  rw [show upd H34 qd (.lst [.str "f", .str "main", .str "g", .str "a", .str "zz"]) = H35 from eH35]
  refine ⟨_, rfl, hp, xs, rfl, .inl (.inl e35), fun D6 hD6 => ?_⟩
  have nD6 := dk35.has hD6
  refine lc_it (walk_enum (K := K) (xs := xs)) (fun i H36 => ∃ us es, H36 D6 = some (.lst us) ∧ DpAll K (off d c H36) us ((es : List (Str × Nat × Nat)).map enD) ∧ es.length ≤ i ∧ (∀ e ∈ es, e.2.1 < i ∧ nm5[e.2.1]? = some e.1 ∧ ∃ h, hs[e.2.1]? = some h ∧ h.2 = true ∧ h.1.length = e.2.2) ∧ (es.map (·.1)).Nodup ∧ Deck d c (n + 4040) H36 ∧ Ext d c H35 H36) ⟨[], [], upd_same, .nil, Nat.le_refl _, (fun _ h => nomatch h), .nil, dk35.new hD6, Ext.new hD6⟩ ?_ ?_ ?_
  · rintro i H36 _ ⟨_, _, _, _, _, _, _, _, X36⟩
    exact .inl (.inl (X36.at nh.1 nh.2 e35))
  · rintro i x H36 H37 hi ⟨us, es, h36, hus, hel, hes, hnd, dk36, X36⟩ ⟨T1, y1, y2, rfl, hT1, rfl, f1, f2⟩
    injection f1 with f1
    subst f1
    obtain ⟨e, he, hye⟩ := dpAll_map_get g12 f2
    have hi5 : i < hs.length := (List.getElem?_eq_some_iff.mp he).1
    have sT := same_new (o := .tup [.int (i : Nat), y2]) hT1
    have hye := offD (off_same_mono sT |>.trans (Ext.refl _) |> fun X => Ext.dp (d := d) (c := c) X (X36.dp hye))
    have eT : (upd H36 T1 (.tup [.int (i : Nat), y2])) T1 = some (.tup [.int (i : Nat), y2]) := upd_same
    have h36 := sT _ _ h36
    have dk37 := dk36.same sT
    have X67 : Ext d c H36 (upd H36 T1 (.tup [.int (i : Nat), y2])) := off_same_mono sT
    have hus := dpAll_mono X67 _ _ hus
    have X37 := X36.trans X67
    have n37 := X37.at nqd.1 nqd.2 n35
    clear X67
    generalize upd H36 T1 (.tup [.int (i : Nat), y2]) = H37 at hye eT h36 dk37 X37 hus n37 ⊢
    refine ⟨T1, _, rfl, .inl (.inl eT), rfl, _, _, rfl, _, _, rfl, rfl, rfl, ?_⟩
    refine ⟨y2, rfl, _, 1, _, hye, rfl, rfl, fun z hz => ?_⟩
    cases hz
    refine ⟨_, rfl, ?_⟩
    cases hb : e.2 with
    | false => exact iteF ⟨us, es, h36, hus, Nat.le_succ_of_le hel, fun e' h => ⟨Nat.lt_succ_of_lt (hes e' h).1, (hes e' h).2⟩, hnd, dk37, X37⟩
    | true =>
      have hni : i < nm5.length := by show i < 5; omega
      have hnm : nm5[i]? = some nm5[i] := List.getElem?_eq_getElem hni
      have hnv : (nm5.map V.str)[i]? = some (V.str nm5[i]) := by rw [List.getElem?_map, hnm]; rfl
      refine iteT ⟨_, rfl, _, rfl, qd, _, _, _, rfl, rfl, .inl (.inl n37), atI_nat hnv, _, rfl, y2, rfl, _, 0, _, hye, rfl, rfl, fun z hz => ?_⟩
      cases hz with
      | @tup pa px _ sqp hpp =>
      have hpl := dpAll_len hpp
      rw [List.length_map] at hpl
      refine ⟨_, px.length, rfl, .inr ⟨_, sqp, rfl⟩, (by show 3 ≤ sizeLine; decide), fun t1 ht1 => ?_⟩
      have g38 := dp_tupO (K := K) dk37 ht1 (.cons (.str nm5[i]) (.cons (.int (i : Int)) (.cons (.int ((px.length : Nat) : Int)) .nil)))
      have X38 : Ext d c H37 (upd H37 t1 (.tup [.str nm5[i], .int (i : Int), .int ((px.length : Nat) : Int)])) := Ext.new ht1
      have hul := dpAll_len hus
      rw [List.length_map] at hul
      refine ⟨us, X38.at nD6.1 nD6.2 h36, small_line (by omega), us ++ [.ref t1], es ++ [(nm5[i], i, px.length)], upd_same, ?_, by rw [List.length_append]; exact Nat.succ_le_succ hel, fun e' h => ?_, ?_, (dk37.new ht1).upd nD6.1 nD6.2, (X37.trans X38).mut hD6⟩
      · rw [List.map_append]
        exact lst_step nD6 h36 hus (nlAll fun _ => rfl) X38 g38 rfl
      · rcases List.mem_append.mp h with h | h
        · exact ⟨Nat.lt_succ_of_lt (hes e' h).1, (hes e' h).2⟩
        · rw [List.mem_singleton.mp h]
          exact ⟨Nat.lt_succ_self i, hnm, e, he, hb, hpl.symm⟩
      · rw [List.map_append, List.nodup_append]
        refine ⟨hnd, List.nodup_cons.mpr ⟨List.not_mem_nil, .nil⟩, fun a ha b hb2 hab => ?_⟩
        obtain ⟨e', he', rfl⟩ := List.mem_map.mp ha
        obtain ⟨hlt, hn2, _⟩ := hes e' he'
        have : b = nm5[i] := List.mem_singleton.mp hb2
        rw [this] at hab
        rw [hab, ← hnm] at hn2
        have nd : nm5.Nodup := by decide +kernel
        have := (List.getElem?_inj (by show e'.2.1 < 5; omega) nd).mp hn2
        omega
  rintro H36 ⟨us, es, h36, hus, hel, hes, hnd, dk36, X36⟩
  rw [hxl] at hel
  have gc := X36.dp gc
  have gg := X36.dp gg
  have hva := X36.dp hva
  have g34 := X36.dp g34
  have X36 := X35.trans X36
  refine ⟨_, rfl, _, rfl, _, rfl, _, rfl, _, rfl, D6, us, rfl, .inl (.inl h36), fun x hx => ?_, fun ys qe hperm hqe => ?_⟩
  · obtain ⟨j, hj⟩ := List.getElem?_of_mem hx
    obtain ⟨e, he, hxe⟩ := dpAll_map_get hus hj
    exact ent_key (offD hxe)
  obtain ⟨es2, hp2, hys⟩ := dpAll_perm hperm hus
  have X37 : Ext d c H36 (upd H36 qe (.lst ys)) := Ext.new hqe
  have e37 : (upd H36 qe (.lst ys)) qe = some (.lst ys) := upd_same
  have dk37 := dk36.new (o := .lst ys) hqe
  have hys := dpAll_mono X37 _ _ hys
  generalize upd H36 qe (.lst ys) = H37 at X37 e37 dk37 hys ⊢
  refine ⟨qe, ys, rfl, .inl ⟨.inl (.inl e37), fun qf hqf => ⟨(by show 5 ≤ sizeLine; decide), fun qg hqg => ?_⟩⟩⟩
  have g38 := dp_tupO (K := K) dk37 hqf hys
  have dk38 := dk37.new (o := .tup ys) hqf
  have X38 : Ext d c H36 (upd H37 qf (.tup ys)) := X37.trans (Ext.new hqf)
  have gc := X38.dp gc
  have gg := X38.dp gg
  have hva := X38.dp hva
  have g34 := X38.dp g34
  generalize upd H37 qf (.tup ys) = H38 at g38 dk38 X38 gc gg hva g34 hqg ⊢
  have g39 := dp_tupO (K := K) dk38 hqg (.cons gc (.cons gg (.cons hva (.cons g34 (.cons g38 .nil)))))
  refine q ⟨cds, ga, gf, ta, tf, st, es2⟩ _ _ ?_ (fun e he => List.mem_of_getElem? (hes e (hp2.mem_iff.mp he)).2.1) ((dk38.new hqg).up (by omega)) (X36.trans (X38.trans (Ext.new hqg))) g39
  have im0 : (⟨cds, ga, gf, ta, tf, st, es2⟩ : Im).codes.map cdH = hs := hcds
  have cod : ∀ (k : Nat) (e : List Nat × Bool), hs[k]? = some e → ∃ cd, cds[k]? = some cd ∧ cd.ps = e.1 ∧ cd.ret = e.2 := fun k e h => by
    obtain ⟨cd, h1, h2, h3⟩ := codes_at im0 (imH_at h)
    exact ⟨cd, h1, h2, h3⟩
  refine ⟨fun cd h => cdOk_of im0 (hok cd h), ?_, by show ga < 65536; omega, single_of im0 hgf, ⟨?_, by show ta.length ≤ 3; omega, hta⟩, single_of im0 htf, ⟨by show st.length ≤ 2; omega, fun k hk => ?_⟩, ⟨by show es2.length ≤ 5; rw [hp2.length_eq]; omega, (hp2.map _).nodup_iff.mpr hnd, fun e he => ?_⟩⟩
  · have := congrArg List.length hcds
    rw [List.length_map] at this
    show cds.length ≤ 5
    omega
  · intro h
    have h : ta = [] := h
    rw [h] at htl
    simp at htl
    omega
  · obtain ⟨cd, h1, h2, h3⟩ := cod k _ (hst k hk)
    exact ⟨cd, h1, h3, h2⟩
  · obtain ⟨_, _, h, g1, g2, g3⟩ := hes e (hp2.mem_iff.mp he)
    obtain ⟨cd, h1, h2, h3⟩ := cod _ _ g1
    exact ⟨cd, h1, h3.trans g2, by rw [h2]; exact g3⟩
end
end K18

set_option maxHeartbeats 4000000
/-! HNk: dicts whose keys are numbers, texts and None. -/
namespace HG
open PySem PySem.Spec PyProof.Rows L2
abbrev OKey : Type := Option Key
def okIs : OKey → Value → Bool
  | some k, v => keyIs k v
  | none, .none => true
  | none, _ => false
theorem okIs_none {v : Value} (h : okIs none v = true) : v = .none := by
  cases v <;> first | rfl | cases h
theorem okIs_some {k : Key} {v : Value} (h : okIs (some k) v = true) : (∃ i t, k = Sum.inl i ∧ v = Value.int i t) ∨ ∃ x t, k = Sum.inr x ∧ v = Value.str x t := keyIs_shape h
theorem ok_ne (k : Key) : decide ((none : OKey) = some k) = false ∧ decide ((some k : OKey) = none) = false := ⟨decide_eq_false (fun z => nomatch z), decide_eq_false (fun z => nomatch z)⟩
theorem ok_eq (a b : Key) : decide ((some a : OKey) = some b) = decide (a = b) := by
  by_cases e : a = b
  · rw [decide_eq_true e, decide_eq_true (by rw [e])]
  · rw [decide_eq_false e, decide_eq_false (fun z => e (Option.some.inj z))]
def okH (P : Program) (w : World) : OKey → Int
  | some k => (mixKind P w).hash k
  | none => (leafKind P w).hash Leaf.none
def okKind (P : Program) (w : World) : KeyKind P w OKey where
  is := okIs
  hash := okH P w
  inj := fun v a b ha hb => by
    cases a with
    | none =>
      cases okIs_none ha
      cases b with
      | none => rfl
      | some b => rcases okIs_some hb with ⟨_, _, _, e⟩ | ⟨_, _, _, e⟩ <;> cases e
    | some a =>
      cases b with
      | none =>
        cases okIs_none hb
        rcases okIs_some ha with ⟨_, _, _, e⟩ | ⟨_, _, _, e⟩ <;> cases e
      | some b => exact congrArg some ((mixKind P w).inj v a b ha hb)
  byValue := fun k v h => by
    cases k with
    | none => cases okIs_none h; rfl
    | some k => exact (mixKind P w).byValue k v h
  pyHash := fun {A E s k v Q} hv h => by
    cases k with
    | none =>
      cases okIs_none hv
      exact (leafKind P w).pyHash (k := Leaf.none) (v := .none) rfl h
    | some k => exact (mixKind P w).pyHash (k := k) hv h
  eqBool := fun {A E s a b u v Q} hu hv h => by
    cases a with
    | none =>
      cases okIs_none hu
      cases b with
      | none =>
        cases okIs_none hv
        exact (leafKind P w).eqBool (a := Leaf.none) (b := Leaf.none) rfl rfl h
      | some b =>
        rw [(ok_ne b).1] at h
        rcases okIs_some hv with ⟨i, t, rfl, rfl⟩ | ⟨x, t, rfl, rfl⟩
        · exact (leafKind P w).eqBool (a := Leaf.none) (b := Leaf.num i) rfl (leaf_int i t) h
        · exact (leafKind P w).eqBool (a := Leaf.none) (b := Leaf.text x) rfl (leaf_str x t) h
    | some a =>
      cases b with
      | none =>
        cases okIs_none hv
        rw [(ok_ne a).2] at h
        rcases okIs_some hu with ⟨i, t, rfl, rfl⟩ | ⟨x, t, rfl, rfl⟩
        · exact (leafKind P w).eqBool (a := Leaf.num i) (b := Leaf.none) (leaf_int i t) rfl h
        · exact (leafKind P w).eqBool (a := Leaf.text x) (b := Leaf.none) (leaf_str x t) rfl h
      | some b =>
        rw [ok_eq] at h
        exact (mixKind P w).eqBool (a := a) (b := b) hu hv h
  «strs» := fun k x t v h => by
    cases k with
    | none => cases okIs_none h
    | some k => exact (mixKind P w).strs k x t v h
/-! ### such a dict in the heap -/
def nkP (P : Program) (w : World) (kvs : List (OKey × V)) (a : Addr) (h : Heap) : Prop := kvs.length ≤ sizeLine ∧ (a == sysModules) = false ∧ ∃ vs, KV kvs vs ∧ h.DictOf (okKind P w) a vs
def nkO (P : Program) (w : World) (kvs : List (OKey × V)) (a : Addr) : HO := .ext (nkP P w kvs a)
abbrev upK (kvs : List (Key × V)) : List (OKey × V) := kvs.map fun p => (some p.1, p.2)
def NkH (P : Program) (w : World) (H : Hp) (a : Addr) (kvs : List (OKey × V)) : Prop := H a = some (nkO P w kvs a) ∨ ∃ ks, H a = some (.dK ks) ∧ kvs = upK ks
def okV : OKey → V
  | none => .non
  | some k => kV k
theorem okV_is : ∀ {k : OKey} {u : Value}, RelV (okV k) u → okIs k u = true
  | none, _, h => by
    cases (show _ = Value.none from h)
    rfl
  | some (.inl i), _, h => by
    obtain ⟨t, rfl⟩ := h
    exact keyIs_int i t
  | some (.inr x), _, h => by
    obtain ⟨t, rfl⟩ := h
    exact keyIs_str x t
theorem pairs_up {P : Program} {w : World} : ∀ {es : List DictEntry} {vs : List (Key × Value)}, Pairs (mixKind P w) es vs → Pairs (okKind P w) es (vs.map fun p => (some p.1, p.2))
  | _, _, .nil => .nil
  | _, _, .cons h1 h2 t => .cons h1 h2 (pairs_up t)
theorem dictOf_up {P : Program} {w : World} {h : Heap} {a : Addr} {vs : List (Key × Value)} (d : h.DictOf (mixKind P w) a vs) : h.DictOf (okKind P w) a (vs.map fun p => (some p.1, p.2)) := by
  obtain ⟨o, es, ep, h1, h2, h3, h4, h5, h6⟩ := d
  refine ⟨o, es, ep, h1, h2, h3, fun e he => ?_, pairs_up h5, ?_⟩
  · obtain ⟨k, e1, e2⟩ := h4 e he
    exact ⟨some k, e1, e2⟩
  · have e : (vs.map fun p => ((some p.1 : OKey), p.2)).map (·.1) = (vs.map (·.1)).map some := by
      rw [List.map_map, List.map_map]
      rfl
    rw [e]
    exact List.Pairwise.map _ (fun a b h z => h (Option.some.inj z)) h6
theorem kv_up : ∀ {kvs : List (Key × V)} {vs : List (Key × Value)}, KV kvs vs → KV (upK kvs) (vs.map fun p => ((some p.1 : OKey), p.2))
  | _, _, .nil => .nil
  | _, _, .cons h t => .cons ⟨congrArg some h.1, h.2⟩ (kv_up t)
theorem nk_of {P : Program} {w : World} {H : Hp} {h : Heap} {a : Addr} {kvs : List (OKey × V)} (ok : HOk P w H h) (e : NkH P w H a kvs) : nkP P w kvs a h := by
  rcases e with e | ⟨ks, e, rfl⟩
  · exact (show ObjOk P w H h a (nkO P w kvs a) from ok a _ e).1
  · obtain ⟨z, hd, vs, rel, dd⟩ := dk_of ok e
    exact ⟨by rw [List.length_map]; exact z, hd, _, kv_up rel, dictOf_up dd⟩
theorem nk_new {P : Program} {w : World} {H : Hp} {h : Heap} {a : Addr} {kvs : List (OKey × V)} (x : nkP P w kvs a h) : ObjOk P w H h a (nkO P w kvs a) := by
  refine ⟨x, ?_, fun h1 h2 y k => ?_⟩
  · obtain ⟨_, _, vs, _, o, _, _, e, _⟩ := x
    exact ⟨o, e⟩
  · obtain ⟨z, hd, vs, rel, o, es, ep, e, r⟩ := y
    exact ⟨z, hd, vs, rel, o, es, ep, k o e, r⟩
theorem nk_mut {P : Program} {w : World} {H : Hp} {a : Addr} {kvs : List (OKey × V)} (e : NkH P w H a kvs) : Mut (H a) := by
  rcases e with e | ⟨ks, e, _⟩ <;> (rw [e]; exact True.intro)
section
variable {X : Cx} {pins : List (Addr × Obj)} {σ : L2.St} {H : Hp} {s : Shared} {a : Addr} {kvs : List (OKey × V)} {k : OKey} {u r : Value} {v : V} {A : Around} {E : Value → Shared → Prop}
theorem nk_type (I : Inv X pins σ H s) (e : NkH X.prog X.w H a kvs) : s.TypeIs (.ref a) "dict" ∧ (∀ b, Value.ref a = .ref b → ∃ ob, s.heap.get? b = some ob ∧ ob.dict = none) ∧ (a == sysModules) = false := by
  obtain ⟨_, hd, vs, _, dd⟩ := nk_of I.hok e
  refine ⟨dd.typeIs, fun b q => ?_, hd⟩
  cases q
  obtain ⟨ob, _, _, h1, h2, _⟩ := dd
  exact ⟨ob, h1, h2.2.1⟩
theorem nk_getItem {Q : Value → Shared → Prop} (I : Inv X pins σ H s) (e : NkH X.prog X.w H a kvs) (ru : RelV (okV k) u) (g : valV kvs k = some v) (h : ∀ z s', Inv X pins σ H s' → RelV v z → Q z s') : wpAny (model X.prog X.w) A (getItem (.ref a) u) Q E s := by
  obtain ⟨_, _, vs, rel, dd⟩ := nk_of I.hok e
  obtain ⟨z, hz, rz⟩ := RelO.some_of (v := v) (o := valueAt vs k) (g ▸ rel.val k)
  exact wpAny_getItem_of (knd := okKind X.prog X.w) (okV_is ru) dd.mapOf hz (h z _ (I.tok _) rz)
theorem nk_get1 {Q : Value → Shared → Prop} (I : Inv X pins σ H s) (e : NkH X.prog X.w H a kvs) (ru : RelV (okV k) u) (h : ∀ z s', Inv X pins σ H s' → RelV ((valV kvs k).getD .non) z → Q z s') : wpAny (model X.prog X.w) A (call (.builtin "dict.get") [.ref a, u]) Q E s := by
  obtain ⟨_, hd, vs, rel, dd⟩ := nk_of I.hok e
  have q : RelV ((valV kvs k).getD .non) ((valueAt vs k).getD Value.none) := (rel.val k).getD rfl
  exact call_meetsIn PySem.F.slot_dict_get dd.typeIs PySem.F.entry_dict_get (PySem.F.args_dict_get_2 _ _) (meets_dict_get (okKind X.prog X.w) a (okV_is ru) hd) ⟨_, dd.mapOf, h _ _ (I.tok _) q⟩
theorem nk_setItem {Q : Unit → Shared → Prop} (I : Inv X pins σ H s) (e : NkH X.prog X.w H a kvs) (hl : kvs.length < sizeLine) (ru : RelV (okV k) u) (rv : RelV v r) (h : ∀ s', Inv X pins σ (upd H a (nkO X.prog X.w (putK kvs k v) a)) s' → Q () s') : wpAny (model X.prog X.w) A (setItem (.ref a) u r) Q E s := by
  obtain ⟨_, hd, vs, rel, dd⟩ := nk_of I.hok e
  have hz : vs.length ≤ sizeLine := by
    rw [← rel.length]
    exact Nat.le_of_lt hl
  refine wpAny_setItem_pairs (knd := okKind X.prog X.w) (hsz := hz) (okV_is ru) dd fun h' d2 same => h _ (d_write I (nk_mut e) same ?_ (nk_new ⟨?_, hd, _, rel.put k rv, d2⟩))
  · obtain ⟨q, _, _, hq, _⟩ := d2
    exact ⟨q, hq⟩
  · have := length_putK kvs k v
    omega
end
/-! ### the rules -/
def tNGet (P : Program) (w : World) (td ty : TE) : TE := fun σ H Q => td σ H fun x H1 => ty σ H1 fun y H2 => ∃ a kvs k v, x = .ref a ∧ y = okV k ∧ NkH P w H2 a kvs ∧ valV kvs k = some v ∧ Q v H2
def tNGet1 (P : Program) (w : World) (td ty : TE) : TE := fun σ H Q => td σ H fun x H1 => ∃ a ks, x = .ref a ∧ NkH P w H1 a ks ∧ ty σ H1 fun y H2 => ∃ kvs k, y = okV k ∧ NkH P w H2 a kvs ∧ Q ((valV kvs k).getD .non) H2
def sNPut (P : Program) (w : World) (td ty tv : TE) : TS := fun D σ H => tv σ H fun v H1 => td σ H1 fun x H2 => ty σ H2 fun y H3 => ∃ a kvs k, x = .ref a ∧ y = okV k ∧ NkH P w H3 a kvs ∧ kvs.length < sizeLine ∧ D.nx σ (upd H3 a (nkO P w (putK kvs k v) a))
section
variable {X : Cx} {P : Program} {w : World} {o i e value : Expr} {pos pos' tpos apos cpos : Pos} {td ty tv : TE}
theorem pe_nget (hP : X.prog = P) (hw : X.w = w) (ho : PE X o td) (hi : PE X i ty) (hs : NoSl i) : PE X (.Subscript o i pos) (tNGet P w td ty) := by
  subst hP hw
  constructor
  intro pins s σ H Q I h
  refine subD_of PySem.F.slot_dict_getitem.lookup hs (thn (ho.run pins s σ H _ I h) ?_)
  rintro u s1 ⟨x, H1, I1, rx, q1⟩
  refine thn (hi.run pins s1 σ H1 _ I1 q1) ?_
  rintro iv s2 ⟨y, H2, I2, ry, a, kvs, k, v, rfl, rfl, e, g, q2⟩
  obtain rfl : u = Value.ref a := rx
  exact ⟨(nk_type I2 e).1, nk_getItem I2 e ry g fun z s3 I3 rz => ⟨v, H2, I3, rz, q2⟩⟩
theorem pe_nget1 (hP : X.prog = P) (hw : X.w = w) (ho : PE X o td) (he : PE X e ty) (m : M1 X o "get" apos e cpos) : PE X (.Call (.Attribute o "get" apos) [e] [] cpos) (tNGet1 P w td ty) := by
  subst hP hw
  constructor
  intro pins s σ H Q I h
  refine wpAny_Call_method m.base m.few m.line PySem.F.plainAttrs_dict PySem.F.slot_dict_get PySem.F.type_dict_get (thn (ho.run pins s σ H _ I h) ?_)
  rintro u s1 ⟨x, H1, I1, rx, a, ks, rfl, e1, q1⟩
  obtain rfl : u = Value.ref a := rx
  obtain ⟨t1, t2, _⟩ := nk_type I1 e1
  refine ⟨t1, t2, ?_⟩
  rw [m.trees]
  refine Calls.callWith_builtin rfl (Calls.evalArgs_plain (Calls.spliced_cons (thn (he.run pins s1 σ H1 _ I1 q1) ?_)))
  rintro iv s2 ⟨y, H2, I2, ry, kvs, k, rfl, e2, q2⟩
  exact Calls.spliced_nil (nk_get1 I2 e2 ry fun z s3 I3 rz => ⟨_, H2, I3, rz, q2⟩)
theorem ps_nput (hP : X.prog = P) (hw : X.w = w) (ho : PE X o td) (hi : PE X i ty) (hv : PE X value tv) (hs : swapsWith value (some (.Subscript o i pos')) pos.line X.env = pure false) : PS X (.Assign [.Subscript o i pos'] value pos) (sNPut P w td ty tv) := by
  subst hP hw
  constructor
  intro pins s σ H D I h
  refine wpAny_Assign_Subscript (thn (hv.run pins s σ H _ I h) ?_) hs
  rintro r s1 ⟨v, H1, I1, rv, q1⟩
  refine thn (ho.run pins s1 σ H1 _ I1 q1) ?_
  rintro u s2 ⟨x, H2, I2, rx, q2⟩
  refine thn (hi.run pins s2 σ H2 _ I2 q2) ?_
  rintro iv s3 ⟨y, H3, I3, ry, a, kvs, k, rfl, rfl, e, hl, q3⟩
  obtain rfl : u = Value.ref a := rx
  exact nk_setItem I3 e hl ry rv fun s4 I4 => ⟨σ, _, I4, q3⟩
end
end HG

set_option maxHeartbeats 1000000
namespace K18
open PySem PySem.Spec PyProof.Rows L2 HG P18
theorem KT.put {H : Hp} {a : Addr} {o : HO} (h : Mut (H a)) : KT H (upd H a o) := by
  refine ⟨fun b xs e => ?_, fun b x u e => ?_⟩
  · rw [upd_ne (fun z => by rw [← z, e] at h; exact h)]
    exact e
  · rw [upd_ne (fun z => by rw [← z, e] at h; exact h)]
    exact e
/-- all but F stays; F' is F and new places -/
structure Mv (F : List Addr) (H : Hp) (F' : List Addr) (H' : Hp) : Prop where
  st : ∀ b o, b ∉ F → H b = some o → H' b = some o
  kt : KT H H'
  nw : ∀ a, a ∈ F' → a ∈ F ∨ H a = none
  gr : ∀ b, H b ≠ none → H' b ≠ none
section
variable {F F1 F2 : List Addr} {H H1 H2 : Hp}
theorem Mv.refl : Mv F H F H := ⟨fun _ _ _ h => h, KT.refl H, fun _ h => .inl h, fun _ h => h⟩
theorem Mv.trans (x : Mv F H F1 H1) (y : Mv F1 H1 F2 H2) : Mv F H F2 H2 := by
  refine ⟨fun b o n h => y.st b o (fun z => ?_) (x.st b o n h), x.kt.trans y.kt, fun a ha => ?_, fun b h => y.gr b (x.gr b h)⟩
  · rcases x.nw b z with z | z
    · exact n z
    · rw [h] at z; cases z
  · rcases y.nw a ha with z | z
    · exact x.nw a z
    · refine .inr ?_
      cases e : H a with
      | none => rfl
      | some o => exact absurd z (x.gr a (by rw [e]; exact Option.some_ne_none o))
theorem Mv.of (s : Same H H1) : Mv F H F H1 := ⟨fun b o _ h => s b o h, KT.of s, fun _ h => .inl h, fun b h z => by
  cases e : H b with
  | none => exact h e
  | some o => rw [s _ _ e] at z; cases z⟩
theorem Mv.put {a : Addr} {o : HO} (ha : a ∈ F) (h : Mut (H a)) : Mv F H F (upd H a o) := ⟨fun b u n e => by rw [upd_ne (fun (z : b = a) => n (z ▸ ha))]; exact e, KT.put h, fun _ h => .inl h, fun b h z => by
  by_cases e : b = a
  · rw [e, upd_same] at z; cases z
  · rw [upd_ne e] at z; exact h z⟩
/-- fewer places -/
theorem Mv.sub (x : Mv F H F1 H1) (h : ∀ a ∈ F2, a ∈ F1 ∨ H a = none) : Mv F H F2 H1 := ⟨x.st, x.kt, fun a ha => (h a ha).elim (x.nw a) .inr, x.gr⟩
theorem Mv.up (x : Mv F H F1 H1) (h : ∀ a ∈ F, a ∈ F2) : Mv F2 H (F2 ++ F1) H1 := ⟨fun b o n e => x.st b o (fun z => n (h b z)) e, x.kt, fun a ha => by
  rcases List.mem_append.mp ha with z | z
  · exact .inl z
  · rcases x.nw a z with z | z
    · exact .inl (h a z)
    · exact .inr z, x.gr⟩
theorem Mv.out (x : Mv F H F1 H1) {b : Addr} {o : HO} (h : H b = some o) (n : b ∉ F) : b ∉ F1 := fun z => by
  rcases x.nw b z with z | z
  · exact n z
  · rw [h] at z; cases z
end
/-! ### a machine in the heap -/
structure Ad where
  top : Addr
  ce : Addr
  ar : Addr
  r0 : Addr
  r1 : Addr
  wa : Addr
  fr : Addr
abbrev Ad.base (A : Ad) : List Addr := [A.top, A.ce, A.ar, A.r0, A.r1, A.wa, A.fr]
abbrev fas (fa : List (Addr × Addr)) : List Addr := fa.map (·.1) ++ fa.map (·.2)
structure Sh (K : PySem.W.Frag) where
  top : Ad → V → HO
  ce : V → V → HO
  ar : Ad → HO
  fm : HO → V → Nat → Addr → V → Prop
  hd : Hp → Addr → (Nat → Wv) → Nat → Prop
  ex : List Addr
  keep : Hp → Prop
  mtop : ∀ A v, Mut (some (top A v))
  mce : ∀ v u, Mut (some (ce v u))
  mfm : ∀ o v n a u, fm o v n a u → Mut (some o)
  mhd : ∀ H a h n, hd H a h n → Mut (H a)
  hd_mono : ∀ H H' a h n, KT H H' → H' a = H a → hd H a h n → hd H' a h n
  hd_up : ∀ H a h n m, n ≤ m → hd H a h n → hd H a h m
  keep_mono : ∀ H H', (∀ a ∈ ex, ∀ o, H a = some o → H' a = some o) → KT H H' → keep H → keep H'
abbrev allA {K : PySem.W.Frag} (S : Sh K) (A : Ad) (fa : List (Addr × Addr)) : List Addr := A.base ++ S.ex ++ fas fa
def rowsD (im : Im) (k : Nat) : PyData := .tuple ((((im.codes[k]?).map Cd.rows).getD []).map Rw.D)
abbrev callD (p : Nat × List Nat) : PyData := .tuple [nD p.1, .tuple (p.2.map nD)]
def FmH {K : PySem.W.Frag} (S : Sh K) (im : Im) (H : Hp) (p : Addr × Addr) (f : Fm) (n : Nat) : Prop := ∃ o cv, H p.1 = some o ∧ S.fm o cv f.pc p.2 (optV f.t) ∧ Dp K H cv (rowsD im f.k) ∧ S.hd H p.2 f.h n
def Fms {K : PySem.W.Frag} (S : Sh K) (im : Im) (H : Hp) (n : Nat) : List (Addr × Addr) → List Fm → Prop
  | [], [] => True
  | p :: fa, f :: fs => FmH S im H p f n ∧ Fms S im H n fa fs
  | _, _ => False
structure BsH {K : PySem.W.Frag} (S : Sh K) (H : Hp) (A : Ad) (ps : List Addr) (s : Ms) (fin : V) : Prop where
  top : H A.top = some (S.top A fin)
  ce : ∃ v0 v1, H A.ce = some (S.ce v0 v1) ∧ Dp K H v0 s.c0.D ∧ Dp K H v1 s.c1.D
  ar : H A.ar = some (S.ar A)
  r0 : H A.r0 = some (.lst (s.r0.map nV))
  r1 : ∃ v, H A.r1 = some (.lst [v]) ∧ Dp K H v (Wv.f s.r1).D
  wa : ∃ vs, H A.wa = some (.lst vs) ∧ DpAll K H vs (s.calls.map callD)
  fr : H A.fr = some (.lst ((ps.map V.ref).reverse))
  ex : S.keep H
structure MsH {K : PySem.W.Frag} (S : Sh K) (im : Im) (H : Hp) (A : Ad) (fa : List (Addr × Addr)) (s : Ms) (fin : V) (n : Nat) : Prop where
  bs : BsH S H A (fa.map (·.1)) s fin
  fm : Fms S im H n fa s.fr
  nd : (allA S A fa).Nodup
  len : fa.length ≤ n
section
variable {K : PySem.W.Frag} {S : Sh K} {im : Im} {H H' : Hp} {A : Ad} {fa : List (Addr × Addr)} {s : Ms} {fin : V} {n m : Nat}
theorem nlRows (im : Im) (k : Nat) : noL (rowsD im k) = true := nlAll nlR
theorem FmH.mono {p : Addr × Addr} {f : Fm} (h : FmH S im H p f n) (k : KT H H') (h1 : H' p.1 = H p.1) (h2 : H' p.2 = H p.2) : FmH S im H' p f n := by
  obtain ⟨o, cv, e1, e2, e3, e4⟩ := h
  exact ⟨o, cv, h1.trans e1, e2, dp_kt k _ _ (nlRows im f.k) e3, S.hd_mono _ _ _ _ _ k h2 e4⟩
theorem FmH.up {p : Addr × Addr} {f : Fm} (h : FmH S im H p f n) (hn : n ≤ m) : FmH S im H p f m := by
  obtain ⟨o, cv, e1, e2, e3, e4⟩ := h
  exact ⟨o, cv, e1, e2, e3, S.hd_up _ _ _ _ _ hn e4⟩
theorem Fms.mono (k : KT H H') : ∀ {fa : List (Addr × Addr)} {fs : List Fm}, (∀ p ∈ fa, H' p.1 = H p.1 ∧ H' p.2 = H p.2) → Fms S im H n fa fs → Fms S im H' n fa fs
  | [], [], _, h => h
  | [], _ :: _, _, h => h
  | _ :: _, [], _, h => h
  | p :: fa, f :: fs, hh, h => ⟨h.1.mono k (hh p List.mem_cons_self).1 (hh p List.mem_cons_self).2, Fms.mono k (fun q hq => hh q (List.mem_cons_of_mem _ hq)) h.2⟩
theorem Fms.up (hn : n ≤ m) : ∀ {fa : List (Addr × Addr)} {fs : List Fm}, Fms S im H n fa fs → Fms S im H m fa fs
  | [], [], h => h
  | [], _ :: _, h => h
  | _ :: _, [], h => h
  | _ :: _, _ :: _, h => ⟨h.1.up hn, Fms.up hn h.2⟩
theorem MsH.up (h : MsH S im H A fa s fin n) (hn : n ≤ m) : MsH S im H A fa s fin m := ⟨h.bs, h.fm.up hn, h.nd, Nat.le_trans h.len hn⟩
theorem nlCalls (cs : List (Nat × List Nat)) : noLAll (cs.map callD) = true := noLAll_map fun p _ => by simp only [callD, noL, noLAll, nlAll nlN, Bool.and_true]
theorem in_base {a : Addr} (h : a ∈ A.base) : a ∈ allA S A fa := List.mem_append_left _ (List.mem_append_left _ h)
theorem in_ex {a : Addr} (h : a ∈ S.ex) : a ∈ allA S A fa := List.mem_append_left _ (List.mem_append_right _ h)
theorem in_fa1 {p : Addr × Addr} (h : p ∈ fa) : p.1 ∈ allA S A fa := List.mem_append_right _ (List.mem_append_left _ (List.mem_map.mpr ⟨p, h, rfl⟩))
theorem in_fa2 {p : Addr × Addr} (h : p ∈ fa) : p.2 ∈ allA S A fa := List.mem_append_right _ (List.mem_append_right _ (List.mem_map.mpr ⟨p, h, rfl⟩))
theorem fm_some : ∀ {fa : List (Addr × Addr)} {fs : List Fm}, Fms S im H n fa fs → ∀ p ∈ fa, H p.1 ≠ none ∧ H p.2 ≠ none
  | [], _, _, p, hp => by cases hp
  | q :: fa, [], hf, p, hp => hf.elim
  | q :: fa, f :: fs, hf, p, hp => by
    rcases List.mem_cons.mp hp with rfl | hp
    · obtain ⟨o, cv, e1, e2, e3, e4⟩ := hf.1
      exact ⟨by rw [e1]; exact Option.some_ne_none o, fun z => by have := S.mhd _ _ _ _ e4; rw [z] at this; exact this⟩
    · exact fm_some hf.2 p hp
theorem BsH.kp {ps : List Addr} (h : BsH S H A ps s fin) (k : KT H H') (g : ∀ a ∈ A.base ++ S.ex, ∀ o, H a = some o → H' a = some o) : BsH S H' A ps s fin := by
  obtain ⟨v0, v1, c1, c2, c3⟩ := h.ce
  obtain ⟨v, r1, r2⟩ := h.r1
  obtain ⟨vs, w1, w2⟩ := h.wa
  have g' : ∀ a ∈ A.base, ∀ o, H a = some o → H' a = some o := fun a ha => g a (List.mem_append_left _ ha)
  exact ⟨g' _ (by simp) _ h.top, ⟨v0, v1, g' _ (by simp) _ c1, dp_kt k _ _ (nlW _) c2, dp_kt k _ _ (nlW _) c3⟩, g' _ (by simp) _ h.ar, g' _ (by simp) _ h.r0, ⟨v, g' _ (by simp) _ r1, dp_kt k _ _ (nlW _) r2⟩, ⟨vs, g' _ (by simp) _ w1, dpAll_kt k _ _ (nlCalls _) w2⟩, g' _ (by simp) _ h.fr, S.keep_mono _ _ (fun a ha => g a (List.mem_append_right _ ha)) k h.ex⟩
/-- things elsewhere change -/
theorem MsH.mv {F F' : List Addr} (h : MsH S im H A fa s fin n) (x : Mv F H F' H') (hF : ∀ a ∈ allA S A fa, a ∉ F) : MsH S im H' A fa s fin n := by
  have e : ∀ a ∈ allA S A fa, H a ≠ none → H' a = H a := fun a ha n => by
    cases q : H a with
    | none => exact absurd q n
    | some o => exact x.st a o (hF a ha) q
  exact ⟨h.bs.kp x.kt fun a ha o e => x.st a o (hF a (List.mem_append_left _ ha)) e, Fms.mono x.kt (fun p hp => ⟨e _ (in_fa1 hp) (fm_some h.fm p hp).1, e _ (in_fa2 hp) (fm_some h.fm p hp).2⟩) h.fm, h.nd, h.len⟩
theorem MsH.same (h : MsH S im H A fa s fin n) (x : Same H H') : MsH S im H' A fa s fin n := h.mv (F := []) (Mv.of x) fun _ _ z => nomatch z
/-- each place of a machine holds something -/
theorem MsH.has (h : MsH S im H A fa s fin n) (hx : ∀ a ∈ S.ex, H a ≠ none) : ∀ a ∈ allA S A fa, H a ≠ none := by
  intro a ha
  obtain ⟨v0, v1, c1, _⟩ := h.bs.ce
  obtain ⟨v, r1, _⟩ := h.bs.r1
  obtain ⟨vs, w1, _⟩ := h.bs.wa
  have st : ∀ {o : HO}, H a = some o → H a ≠ none := fun e z => by rw [e] at z; cases z
  rcases List.mem_append.mp ha with ha | ha
  · rcases List.mem_append.mp ha with ha | ha
    · simp only [Ad.base, List.mem_cons, List.not_mem_nil, or_false] at ha
      rcases ha with rfl | rfl | rfl | rfl | rfl | rfl | rfl
      · exact st h.bs.top
      · exact st c1
      · exact st h.bs.ar
      · exact st h.bs.r0
      · exact st r1
      · exact st w1
      · exact st h.bs.fr
    · exact hx a ha
  · rcases List.mem_append.mp ha with ha | ha
    · obtain ⟨p, hp, rfl⟩ := List.mem_map.mp ha
      exact (fm_some h.fm p hp).1
    · obtain ⟨p, hp, rfl⟩ := List.mem_map.mp ha
      exact (fm_some h.fm p hp).2
theorem nd_cons {p : Addr × Addr} : (allA S A (p :: fa)).Nodup ↔ p.1 ≠ p.2 ∧ p.1 ∉ allA S A fa ∧ p.2 ∉ allA S A fa ∧ (allA S A fa).Nodup := by
  have e : (allA S A (p :: fa)).Perm (p.1 :: p.2 :: allA S A fa) := by
    show ((A.base ++ S.ex) ++ ((p.1 :: fa.map (·.1)) ++ (p.2 :: fa.map (·.2)))).Perm _
    have h1 : ((p.1 :: fa.map (·.1)) ++ (p.2 :: fa.map (·.2))).Perm (p.1 :: p.2 :: (fa.map (·.1) ++ fa.map (·.2))) := List.Perm.cons _ List.perm_middle
    refine ((List.Perm.append_left _ h1).trans ?_)
    exact (List.perm_middle.trans (List.Perm.cons _ List.perm_middle))
  rw [e.nodup_iff, List.nodup_cons, List.nodup_cons, List.mem_cons, not_or]
  constructor
  · rintro ⟨⟨h1, h2⟩, h3, h4⟩
    exact ⟨h1, h2, h3, h4⟩
  · rintro ⟨h1, h2, h3, h4⟩
    exact ⟨⟨h1, h2⟩, h3, h4⟩
theorem MsH.bne (h : MsH S im H A fa s fin n) (i j : Nat) (hi : i < 7) (hj : j < 7) (hn : i ≠ j) : A.base[i]'hi ≠ A.base[j]'hj := by
  have nb : A.base.Nodup := (List.nodup_append.mp (List.nodup_append.mp h.nd).1).1
  exact fun e => hn ((List.getElem_inj nb).mp e)
theorem MsH.base_fa (h : MsH S im H A fa s fin n) {a : Addr} (ha : a ∈ A.base ++ S.ex) : ∀ p ∈ fa, p.1 ≠ a ∧ p.2 ≠ a := fun p hp =>
  ⟨fun z => (List.nodup_append.mp h.nd).2.2 a ha p.1 (List.mem_append_left _ (List.mem_map.mpr ⟨p, hp, rfl⟩)) z.symm, fun z => (List.nodup_append.mp h.nd).2.2 a ha p.2 (List.mem_append_right _ (List.mem_map.mpr ⟨p, hp, rfl⟩)) z.symm⟩
theorem MsH.base_ex (h : MsH S im H A fa s fin n) {a b : Addr} (ha : a ∈ A.base) (hb : b ∈ S.ex) : b ≠ a := fun z => (List.nodup_append.mp (List.nodup_append.mp h.nd).1).2.2 a ha b hb z.symm
/-- a thing of the base changes -/
theorem MsH.base {a : Addr} {o : HO} {s' : Ms} {fin' : V} (h : MsH S im H A fa s fin n) (ha : a ∈ A.base) (hm : Mut (H a)) (hb : BsH S (upd H a o) A (fa.map (·.1)) s' fin') (hs : s'.fr = s.fr) : MsH S im (upd H a o) A fa s' fin' n :=
  ⟨hb, by rw [hs]; exact Fms.mono (KT.put hm) (fun p hp => ⟨upd_ne (h.base_fa (List.mem_append_left _ ha) p hp).1, upd_ne (h.base_fa (List.mem_append_left _ ha) p hp).2⟩) h.fm, h.nd, h.len⟩
/-- the top frame changes -/
theorem MsH.head1 {p : Addr × Addr} {f f' : Fm} {r : List Fm} {o : HO} (h : MsH S im H A (p :: fa) s fin n) (hs : s.fr = f :: r) (hf : FmH S im (upd H p.1 o) p f' n) : MsH S im (upd H p.1 o) A (p :: fa) { s with fr := f' :: r } fin n := by
  obtain ⟨n1, n2, n3, n4⟩ := nd_cons.mp h.nd
  have hfm := h.fm
  rw [hs] at hfm
  obtain ⟨o1, cv, e1, e2, e3, e4⟩ := hfm.1
  have k : KT H (upd H p.1 o) := KT.put (by rw [e1]; exact S.mfm _ _ _ _ _ e2)
  have b := h.bs.kp (H' := upd H p.1 o) k fun a ha u e => by rw [upd_ne (fun (z : a = p.1) => n2 (by rw [← z]; exact List.mem_append_left _ ha))]; exact e
  exact ⟨⟨b.top, b.ce, b.ar, b.r0, b.r1, b.wa, b.fr, b.ex⟩, ⟨hf, Fms.mono k (fun q hq => ⟨upd_ne (fun z => n2 (by rw [← z]; exact in_fa1 hq)), upd_ne (fun z => n2 (by rw [← z]; exact in_fa2 hq))⟩) hfm.2⟩, h.nd, h.len⟩
theorem MsH.head2 {p : Addr × Addr} {f f' : Fm} {r : List Fm} {o : HO} (h : MsH S im H A (p :: fa) s fin n) (hs : s.fr = f :: r) (hf : FmH S im (upd H p.2 o) p f' n) : MsH S im (upd H p.2 o) A (p :: fa) { s with fr := f' :: r } fin n := by
  obtain ⟨n1, n2, n3, n4⟩ := nd_cons.mp h.nd
  have hfm := h.fm
  rw [hs] at hfm
  obtain ⟨o1, cv, e1, e2, e3, e4⟩ := hfm.1
  have k : KT H (upd H p.2 o) := KT.put (S.mhd _ _ _ _ e4)
  have b := h.bs.kp (H' := upd H p.2 o) k fun a ha u e => by rw [upd_ne (fun (z : a = p.2) => n3 (by rw [← z]; exact List.mem_append_left _ ha))]; exact e
  exact ⟨⟨b.top, b.ce, b.ar, b.r0, b.r1, b.wa, b.fr, b.ex⟩, ⟨hf, Fms.mono k (fun q hq => ⟨upd_ne (fun z => n3 (by rw [← z]; exact in_fa1 hq)), upd_ne (fun z => n3 (by rw [← z]; exact in_fa2 hq))⟩) hfm.2⟩, h.nd, h.len⟩
/-- one more frame -/
theorem MsH.push {p : Addr × Addr} {f : Fm} (h : MsH S im H A fa s fin n) (n1 : p.1 ≠ p.2) (n2 : p.1 ∉ allA S A fa) (n3 : p.2 ∉ allA S A fa) (hf : FmH S im H p f n) (hl : fa.length < n) :
    MsH S im (upd H A.fr (.lst ((fa.map fun q => V.ref q.1).reverse ++ [.ref p.1]))) A (p :: fa) { s with fr := f :: s.fr } fin n := by
  have efr := h.bs.fr
  have k : KT H (upd H A.fr (.lst ((fa.map fun q => V.ref q.1).reverse ++ [.ref p.1]))) := KT.put (by rw [efr]; exact True.intro)
  have hfr : A.fr ∈ A.base := by simp
  obtain ⟨v0, v1, c1, c2, c3⟩ := h.bs.ce
  obtain ⟨v, r1, r2⟩ := h.bs.r1
  obtain ⟨vs, w1, w2⟩ := h.bs.wa
  have hb := h.base_fa (List.mem_append_left S.ex hfr)
  refine ⟨⟨by rw [upd_ne (show A.top ≠ A.fr from h.bne 0 6 (by decide) (by decide) (by decide))]; exact h.bs.top, ⟨v0, v1, by rw [upd_ne (show A.ce ≠ A.fr from h.bne 1 6 (by decide) (by decide) (by decide))]; exact c1, dp_kt k _ _ (nlW _) c2, dp_kt k _ _ (nlW _) c3⟩, by rw [upd_ne (show A.ar ≠ A.fr from h.bne 2 6 (by decide) (by decide) (by decide))]; exact h.bs.ar, by rw [upd_ne (show A.r0 ≠ A.fr from h.bne 3 6 (by decide) (by decide) (by decide))]; exact h.bs.r0, ⟨v, by rw [upd_ne (show A.r1 ≠ A.fr from h.bne 4 6 (by decide) (by decide) (by decide))]; exact r1, dp_kt k _ _ (nlW _) r2⟩, ⟨vs, by rw [upd_ne (show A.wa ≠ A.fr from h.bne 5 6 (by decide) (by decide) (by decide))]; exact w1, dpAll_kt k _ _ (nlCalls _) w2⟩, ?_, S.keep_mono _ _ (fun a ha o e => by rw [upd_ne (h.base_ex hfr ha)]; exact e) k h.bs.ex⟩, ⟨hf.mono k (upd_ne fun z => n2 (by rw [z]; exact in_base hfr)) (upd_ne fun z => n3 (by rw [z]; exact in_base hfr)), Fms.mono k (fun q hq => ⟨upd_ne (hb q hq).1, upd_ne (hb q hq).2⟩) h.fm⟩, nd_cons.mpr ⟨n1, n2, n3, h.nd⟩, hl⟩
  rw [upd_same, List.map_cons, List.map_cons, List.reverse_cons, List.map_map]
  rfl
/-- a frame less -/
theorem MsH.pop {p : Addr × Addr} {f : Fm} {r : List Fm} (h : MsH S im H A (p :: fa) s fin n) (hs : s.fr = f :: r) :
    MsH S im (upd H A.fr (.lst ((fa.map fun q => V.ref q.1).reverse))) A fa { s with fr := r } fin n := by
  have efr := h.bs.fr
  have k : KT H (upd H A.fr (.lst ((fa.map fun q => V.ref q.1).reverse))) := KT.put (by rw [efr]; exact True.intro)
  have hfr : A.fr ∈ A.base := by simp
  obtain ⟨v0, v1, c1, c2, c3⟩ := h.bs.ce
  obtain ⟨v, r1, r2⟩ := h.bs.r1
  obtain ⟨vs, w1, w2⟩ := h.bs.wa
  have hb := h.base_fa (List.mem_append_left S.ex hfr)
  have hfm := h.fm
  rw [hs] at hfm
  have hl := h.len
  rw [List.length_cons] at hl
  refine ⟨⟨by rw [upd_ne (show A.top ≠ A.fr from h.bne 0 6 (by decide) (by decide) (by decide))]; exact h.bs.top, ⟨v0, v1, by rw [upd_ne (show A.ce ≠ A.fr from h.bne 1 6 (by decide) (by decide) (by decide))]; exact c1, dp_kt k _ _ (nlW _) c2, dp_kt k _ _ (nlW _) c3⟩, by rw [upd_ne (show A.ar ≠ A.fr from h.bne 2 6 (by decide) (by decide) (by decide))]; exact h.bs.ar, by rw [upd_ne (show A.r0 ≠ A.fr from h.bne 3 6 (by decide) (by decide) (by decide))]; exact h.bs.r0, ⟨v, by rw [upd_ne (show A.r1 ≠ A.fr from h.bne 4 6 (by decide) (by decide) (by decide))]; exact r1, dp_kt k _ _ (nlW _) r2⟩, ⟨vs, by rw [upd_ne (show A.wa ≠ A.fr from h.bne 5 6 (by decide) (by decide) (by decide))]; exact w1, dpAll_kt k _ _ (nlCalls _) w2⟩, ?_, S.keep_mono _ _ (fun a ha o e => by rw [upd_ne (h.base_ex hfr ha)]; exact e) k h.bs.ex⟩, Fms.mono k (fun q hq => ⟨upd_ne (hb q (List.mem_cons_of_mem _ hq)).1, upd_ne (hb q (List.mem_cons_of_mem _ hq)).2⟩) hfm.2, (nd_cons.mp h.nd).2.2.2, by omega⟩
  rw [upd_same, List.map_map]
  rfl
end
end K18

set_option maxHeartbeats 1000000
namespace K18
open PySem PySem.Spec PyProof.Rows L2 HG P18
abbrev CF (K : PySem.W.Frag) : Addr := He.ga K "Frame"
abbrev CP (K : PySem.W.Frag) : Addr := He.ga K "Process"
abbrev FmO (K : PySem.W.Frag) (dx : Addr) (cv : V) (pc : Nat) (a : Addr) (t : V) : HO := .ins (CF K) dx [("code", cv), ("variables", .ref a), ("target", t), ("next", .int (pc : Int))]
/-- the variables of a frame -/
def HdV (K : PySem.W.Frag) (H : Hp) (kv : List (Key × V)) (h : Nat → Wv) : Prop := ∀ s : Nat, s < 10 → (∃ v, valV kv (Sum.inl (s : Int)) = some v ∧ Dp K H v (h s).D) ∨ (valV kv (Sum.inl (s : Int)) = none ∧ h s = .w 0)
def PcO (K : PySem.W.Frag) (dx co : Addr) (A : Ad) (fin : V) : HO := .ins (CP K) dx [("codes", .ref co), ("cells", .ref A.ce), ("arrays", .ref A.ar), ("waiting", .ref A.wa), ("frames", .ref A.fr), ("end", fin)]
abbrev cdPD (cd : Cd) : PyData := .tuple [.tuple (cd.ps.map nD), .tuple (cd.rows.map Rw.D)]
theorem HdV.kt {K : PySem.W.Frag} {H H' : Hp} {kv : List (Key × V)} {h : Nat → Wv} (x : HdV K H kv h) (k : KT H H') : HdV K H' kv h := fun s hs => by
  rcases x s hs with ⟨v, e, d⟩ | h
  · exact .inl ⟨v, e, dp_kt k _ _ (nlW _) d⟩
  · exact .inr h
theorem nlCd (cd : Cd) : noL (cdPD cd) = true := by simp only [cdPD, noL, noLAll, nlAll nlN, nlAll nlR, Bool.and_true]
def ShP (K : PySem.W.Frag) (im : Im) (dx co : Addr) : Sh K where
  top := PcO K dx co
  ce := fun v u => .dK [(Sum.inl 0, v), (Sum.inl 1, u)]
  ar := fun A => .dK [(Sum.inl 0, .ref A.r0), (Sum.inl 1, .ref A.r1)]
  fm := fun o cv pc a u => ∃ d, o = FmO K d cv pc a u
  hd := fun H a h n => ∃ kv, H a = some (.dK kv) ∧ kv.length ≤ n + 14 ∧ HdV K H kv h
  ex := [co]
  keep := fun H => ∃ kv, H co = some (.dK kv) ∧ ∀ (k : Nat) (cd : Cd), im.codes[k]? = some cd → ∃ v, valV kv (Sum.inl (k : Int)) = some v ∧ Dp K H v (cdPD cd)
  mtop := fun _ _ => True.intro
  mce := fun _ _ => True.intro
  mfm := fun o v n a u h => by obtain ⟨d, rfl⟩ := h; exact True.intro
  mhd := fun H a h n x => by obtain ⟨kv, e, _⟩ := x; rw [e]; exact True.intro
  hd_mono := fun H H' a h n k e x => by
    obtain ⟨kv, e1, e2, e3⟩ := x
    exact ⟨kv, e.trans e1, e2, e3.kt k⟩
  hd_up := fun H a h n m hn x => by
    obtain ⟨kv, e1, e2, e3⟩ := x
    exact ⟨kv, e1, by omega, e3⟩
  keep_mono := fun H H' g k x => by
    obtain ⟨kv, e1, e2⟩ := x
    refine ⟨kv, g co (by simp) _ e1, fun j cd h => ?_⟩
    obtain ⟨v, h1, h2⟩ := e2 j cd h
    exact ⟨v, h1, dp_kt k _ _ (nlCd cd) h2⟩
abbrev oD : Option Op → PyData
  | none => .none
  | some o => o.D
abbrev wD : Option Wv → PyData
  | none => .none
  | some v => v.D
def spValue (K : PySem.W.Frag) : Sp := fun vs H Q _ => ∃ (p dx a : Addr) (cv t v : V) (pc : Nat) (kv : List (Key × V)) (h : Nat → Wv) (o : Option Op), vs = [.ref p, v] ∧ H p = some (FmO K dx cv pc a t) ∧ H a = some (.dK kv) ∧ HdV K H kv h ∧ Dp K H v (oD o) ∧ (∀ s, o = some (.v s) → s < 10) ∧
  ∀ z, Dp K H z (wD (o.map (worth h))) → Q z H
section
variable {P : Program} {w : World} {K : PySem.W.Frag} {mg : Str → Option Value} {base : Heap}
set_option pp.maxSteps 600 in
theorem m_Frame_value (T : Txt w K mg) : C8.Met P w K mg base 1 (He.ga K "Frame") "value" (spValue K) [] := by
  obtain ⟨fd, F⟩ := T.d_Frame_value
  refine ⟨_, fd, ["self", "operand"], [], T.cl_Frame, T.m_Frame_value, F.ok sc_Frame_value (fun vs H Q E h => by repeat (first | (obtain ⟨e, _⟩ := h; subst e; rfl) | (obtain ⟨_, h⟩ := h))) (fun cdv A outer s H vs Q E hr h => ?_), F.bindsN fun _ _ _ _ _ _ us hl => match us, hl with | [_, _], _ => rfl, .nil⟩
  obtain ⟨p, dx, a, cv, t, v, pc, kv, h, o, rfl, hp, ha, hkv, hv, ho, q⟩ := h
  have hu := hu_of hr
  refine ⟨_, PSs.nox (pss_cons (ps_if (pt_val (pe_callB (isiK (K := K) rfl) (by rfl) T.n_isinstance (by decide +kernel) (pa_cons (pv 1) (pa_cons (pe_bltn (v := .ty "tuple") (u := .type "tuple") (by rfl) T.n_tuple (by decide +kernel) rfl) pa_nil)))) (pss_one (ps_ret (pe_dget2 hu (pe_fld (pv 0) rfl) (pe_ix (ix_P (K := K) rfl) (pv 1) pe_int (fun _ _ => rfl)) pe_int ⟨rfl, rfl, rfl, rfl⟩))) pss_nil)
      (pss_one (ps_ret (pv 1)))), ?_⟩
  refine ⟨_, rfl, v, .ty "tuple", _, _, _, rfl, .ty _, dp_ty hv, kit_ty (kit_tuple (oD o)), _, rfl, ?_⟩
  have no : v = .non ∨ (∃ n : Nat, v = .int (n : Int)) → True := fun _ => trivial
  cases o with
  | none =>
    cases hv
    exact iteF ⟨_, rfl, q _ .non⟩
  | some o =>
    cases o with
    | k n => exact iteF ⟨_, rfl, q _ hv⟩
    | v s =>
      refine iteT ?_
      have hs := ho s rfl
      refine ⟨_, rfl, p, CF K, dx, _, .ref a, rfl, hp, T.cl_Frame, T.no_Frame_variables, rfl, ?_⟩
      refine ⟨a, rfl, .inl ⟨kv, .inl ha⟩, _, rfl, _, 1, _, hv, rfl, rfl, fun z hz => ?_⟩
      cases hz
      rcases hkv s hs with ⟨y, e, d⟩ | ⟨e, d⟩
      · exact ⟨some y, .inl ⟨kv, Sum.inl (s : Int), .inl ha, rfl, e.symm⟩, q _ d⟩
      · refine ⟨none, .inl ⟨kv, Sum.inl (s : Int), .inl ha, rfl, e.symm⟩, q _ ?_⟩
        show Dp K H (.int 0) (h s).D
        rw [d]
        exact .int 0
end
end K18

set_option maxHeartbeats 1000000
namespace K18
open PySem PySem.Spec PyProof.Rows L2 HG P18
theorem sne {a b : Str} (h : a ≠ b) : decide (V.str a = V.str b) = false := decide_eq_false (fun z => h (by injection z))
theorem seq (a : Str) : decide (V.str a = V.str a) = true := decide_eq_true rfl
theorem in2a (a b : Str) : inV (.str a) [.str a, .str b] = true := by simp [inV, eqV]
theorem in2b (a b : Str) : inV (.str b) [.str a, .str b] = true := by simp [inV, eqV]
theorem in2n {x a b : Str} (h1 : x ≠ a) (h2 : x ≠ b) : inV (.str x) [.str a, .str b] = false := by simp [inV, eqV, h1.symm, h2.symm]
theorem b2I_nat {p : Prop} [Decidable p] : V.int (b2I (decide p)) = nV (if p then 1 else 0) := by
  by_cases h : p
  · rw [decide_eq_true h, if_pos h]; rfl
  · rw [decide_eq_false h, if_neg h]; rfl
theorem b2I_lt (a b : Nat) : V.int (b2I (decide ((a : Int) < (b : Int)))) = nV (if a < b then 1 else 0) := by
  rw [lt_dec]
  exact b2I_nat
theorem b2I_eq (a b : Nat) : V.int (b2I (decide (V.int (a : Int) = V.int (b : Int)))) = nV (if a = b then 1 else 0) := by
  have : decide (V.int (a : Int) = V.int (b : Int)) = decide (a = b) := by
    by_cases h : a = b
    · rw [h, decide_eq_true rfl, decide_eq_true rfl]
    · rw [ne_int h, decide_eq_false h]
  rw [this]
  exact b2I_nat
theorem add_nat (a b : Nat) : V.int (((a : Int) + (b : Int)) % 65536) = nV ((a + b) % 65536) := by
  show V.int _ = V.int _
  congr 1
theorem sub_nat (a b : Nat) : V.int (((a : Int) - (b : Int)) % 65536) = nV ((((a : Int) - b) % 65536).toNat) := by
  show V.int _ = V.int _
  rw [Int.toNat_of_nonneg (Int.emod_nonneg _ (by decide))]
theorem mul_nat (a b : Nat) : V.int (((a : Int) * (b : Int)) % 65536) = nV (a * b % 65536) := by
  show V.int _ = V.int _
  rw [← Int.natCast_mul]
  rfl
theorem xor_nat (a b : Nat) : V.int (Builtin.bitXor (a : Int) (b : Int)) = nV (a ^^^ b) := by
  show V.int _ = V.int _
  rw [Bits.bitXor_pp (by omega) (by omega), Int.toNat_natCast, Int.toNat_natCast]
theorem log9 {b : Nat} (h0 : b ≠ 0) (hb : b < 65536) : ((b : Nat) : Int).natAbs.log2 < 9000 := by
  rw [Int.natAbs_natCast]
  have := (Nat.log2_lt (n := b) (k := 16) h0).mpr hb
  omega
theorem comp_add (a b : Nat) : comp "add" a b = some ((a + b) % 65536) := by
  unfold comp
  rw [if_neg (show ¬ (("add" : Str) = "less") by decide +kernel), if_neg (show ¬ (("add" : Str) = "same") by decide +kernel), if_neg (show ¬ (("add" : Str) = "div") by decide +kernel), if_neg (show ¬ (("add" : Str) = "rem") by decide +kernel), if_neg (show ¬ (("add" : Str) = "xor") by decide +kernel), if_pos rfl]
theorem comp_sub (a b : Nat) : comp "sub" a b = some ((((a : Int) - b) % 65536).toNat) := by
  unfold comp
  rw [if_neg (show ¬ (("sub" : Str) = "less") by decide +kernel), if_neg (show ¬ (("sub" : Str) = "same") by decide +kernel), if_neg (show ¬ (("sub" : Str) = "div") by decide +kernel), if_neg (show ¬ (("sub" : Str) = "rem") by decide +kernel), if_neg (show ¬ (("sub" : Str) = "xor") by decide +kernel), if_neg (show ¬ (("sub" : Str) = "add") by decide +kernel), if_pos rfl]
theorem comp_mul (a b : Nat) : comp "mul" a b = some (a * b % 65536) := by
  unfold comp
  rw [if_neg (show ¬ (("mul" : Str) = "less") by decide +kernel), if_neg (show ¬ (("mul" : Str) = "same") by decide +kernel), if_neg (show ¬ (("mul" : Str) = "div") by decide +kernel), if_neg (show ¬ (("mul" : Str) = "rem") by decide +kernel), if_neg (show ¬ (("mul" : Str) = "xor") by decide +kernel), if_neg (show ¬ (("mul" : Str) = "add") by decide +kernel), if_neg (show ¬ (("mul" : Str) = "sub") by decide +kernel)]
theorem comp_div (a b : Nat) : comp "div" a b = (if b = 0 then none else some (a / b)) := by
  unfold comp
  rw [if_neg (show ¬ (("div" : Str) = "less") by decide +kernel), if_neg (show ¬ (("div" : Str) = "same") by decide +kernel), if_pos rfl]
theorem comp_rem (a b : Nat) : comp "rem" a b = (if b = 0 then none else some (a % b)) := by
  unfold comp
  rw [if_neg (show ¬ (("rem" : Str) = "less") by decide +kernel), if_neg (show ¬ (("rem" : Str) = "same") by decide +kernel), if_neg (show ¬ (("rem" : Str) = "div") by decide +kernel), if_pos rfl]
theorem comp_less (a b : Nat) : comp "less" a b = some (if a < b then 1 else 0) := by
  unfold comp
  rw [if_pos rfl]
theorem comp_same (a b : Nat) : comp "same" a b = some (if a = b then 1 else 0) := by
  unfold comp
  rw [if_neg (show ¬ (("same" : Str) = "less") by decide +kernel), if_pos rfl]
theorem comp_xor (a b : Nat) : comp "xor" a b = some (a ^^^ b) := by
  unfold comp
  rw [if_neg (show ¬ (("xor" : Str) = "less") by decide +kernel), if_neg (show ¬ (("xor" : Str) = "same") by decide +kernel), if_neg (show ¬ (("xor" : Str) = "div") by decide +kernel), if_neg (show ¬ (("xor" : Str) = "rem") by decide +kernel), if_pos rfl]
abbrev cmpKV (a b : Nat) : List (Key × V) := [(Sum.inr "add", .int ((a : Int) + (b : Int))), (Sum.inr "sub", .int ((a : Int) - (b : Int))), (Sum.inr "mul", .int ((a : Int) * (b : Int)))]
theorem cmp_nd {a b : Nat} : ((cmpKV a b).map (·.1)).Nodup := show ([Sum.inr "add", Sum.inr "sub", Sum.inr "mul"] : List Key).Nodup by decide +kernel
theorem k_ne {x y : Str} (h : x ≠ y) : ¬ ((Sum.inr x : Key) = Sum.inr y) := fun z => h (by injection z)
def spComp : Sp := fun vs H Q _ => ∃ (x : Str) (a b : Nat), vs = [.str x, nV a, nV b] ∧ x ∈ ops8 ∧ a < 65536 ∧ b < 65536 ∧ ∀ H', Same H H' → Q (optV (comp x a b)) H'
section
variable {P : Program} {w : World} {K : PySem.W.Frag} {mg : Str → Option Value} {base : Heap}
set_option pp.maxSteps 600 in
theorem c_computed (T : Txt w K mg) : Cal P w K mg base "computed" 1 ["op", "one", "other"] spComp := by
  obtain ⟨fd, F⟩ := T.d_computed
  refine ⟨⟨fd, F.ok sc_computed (fun vs H Q E h => by repeat (first | (obtain ⟨e, _⟩ := h; subst e; rfl) | (obtain ⟨_, h⟩ := h))) (fun cdv A outer s H vs Q E hr h => ?_), F.bindsN fun _ _ _ _ _ _ us hl => match us, hl with | [_, _, _], _ => rfl⟩, T.g _ (by decide), F.kp⟩
  obtain ⟨x, a, b, rfl, hx, ha, hb, q⟩ := h
  have hu := hu_of hr
  refine ⟨_, PSs.nox (pss_cons (ps_if (PW.pt (pw_and (pt_cmpR (op_in_seqK (K := K) rfl) (pv 0) (pe_tup (pa_cons pe_str (pa_cons pe_str pa_nil))) (by rfl)) (pw_and1 (pt_cmpR op_eq (pv 2) pe_int (nomark _))))) (pss_one (ps_ret pe_non)) pss_nil)
      (pss_cons (ps_if (pt_cmpR op_eq (pv 0) pe_str (nomark _)) (pss_one (ps_ret (pe_op op_fdivW (pv 1) (pv 2)))) pss_nil)
      (pss_cons (ps_if (pt_cmpR op_eq (pv 0) pe_str (nomark _)) (pss_one (ps_ret (pe_op op_mod (pv 1) (pv 2)))) pss_nil)
      (pss_cons (ps_if (pt_cmpR op_eq (pv 0) pe_str (nomark _)) (pss_one (ps_ret (pe_op op_mod (pe_op op_add (pv 1) (pv 2)) (pe_globI T.c_WORDS rfl)))) pss_nil)
      (pss_cons (ps_if (pt_cmpR op_eq (pv 0) pe_str (nomark _)) (pss_one (ps_ret (pe_op op_mod (pe_op op_sub (pv 1) (pv 2)) (pe_globI T.c_WORDS rfl)))) pss_nil)
      (pss_cons (ps_if (pt_cmpR op_eq (pv 0) pe_str (nomark _)) (pss_one (ps_ret (pe_op op_mod (pe_op op_mul (pv 1) (pv 2)) (pe_globI T.c_WORDS rfl)))) pss_nil)
      (pss_cons (ps_if (pt_cmpR op_eq (pv 0) pe_str (nomark _)) (pss_one (ps_ret (pe_callTy call_intIB (by rfl) T.n_int (by decide +kernel) (pa_cons (pe_cmpR op_lt (pv 1) (pv 2) (nomark _)) pa_nil)))) pss_nil)
      (pss_cons (ps_if (pt_cmpR op_eq (pv 0) pe_str (nomark _)) (pss_one (ps_ret (pe_callTy call_intIB (by rfl) T.n_int (by decide +kernel) (pa_cons (pe_cmpR op_eq (pv 1) (pv 2) (nomark _)) pa_nil)))) pss_nil)
      (pss_one (ps_ret (pe_op op_xor (pv 1) (pv 2)))))))))))), ?_⟩
  simp only [List.mem_cons, List.not_mem_nil, or_false] at hx
  refine ⟨_, rfl, (by show 2 ≤ sizeLine; decide), fun p hp => ⟨_, _, rfl, .inr (.inl (.inl upd_same)), rfl, rfl, _, rfl, ?_⟩⟩
  have s1 := same_new (o := .tup [.str "div", .str "rem"]) hp
  have q := q _ s1
  generalize upd H p (.tup [.str "div", .str "rem"]) = H1 at q ⊢
  show if inV (.str x) [.str "div", .str "rem"] = true then _ else _
  rcases hx with rfl | rfl | rfl | rfl | rfl | rfl | rfl | rfl
  · -- add
    rw [comp_add] at q
    rw [in2n (show ("add" : Str) ≠ "div" by decide +kernel) (show ("add" : Str) ≠ "rem" by decide +kernel)]
    refine iteF (iteF ?_)
    refine ⟨_, rfl, rfl, _, rfl, ?_⟩
    rw [sne (show ("add" : Str) ≠ "div" by decide +kernel)]
    refine iteF ?_
    refine ⟨_, rfl, rfl, _, rfl, ?_⟩
    rw [sne (show ("add" : Str) ≠ "rem" by decide +kernel)]
    refine iteF ?_
    refine ⟨_, rfl, rfl, _, rfl, ?_⟩
    rw [seq "add"]
    refine iteT ⟨_, rfl, _, rfl, _, _, rfl, rfl, _, _, rfl, rfl, (by decide : (0 : Int) < 65536), ?_⟩
    show Q (V.int (((a : Int) + (b : Int)) % 65536)) H1
    rw [add_nat]
    exact q
  · -- sub
    rw [comp_sub] at q
    rw [in2n (show ("sub" : Str) ≠ "div" by decide +kernel) (show ("sub" : Str) ≠ "rem" by decide +kernel)]
    refine iteF (iteF ?_)
    refine ⟨_, rfl, rfl, _, rfl, ?_⟩
    rw [sne (show ("sub" : Str) ≠ "div" by decide +kernel)]
    refine iteF ?_
    refine ⟨_, rfl, rfl, _, rfl, ?_⟩
    rw [sne (show ("sub" : Str) ≠ "rem" by decide +kernel)]
    refine iteF ?_
    refine ⟨_, rfl, rfl, _, rfl, ?_⟩
    rw [sne (show ("sub" : Str) ≠ "add" by decide +kernel)]
    refine iteF ?_
    refine ⟨_, rfl, rfl, _, rfl, ?_⟩
    rw [seq "sub"]
    refine iteT ⟨_, rfl, _, rfl, _, _, rfl, rfl, _, _, rfl, rfl, (by decide : (0 : Int) < 65536), ?_⟩
    show Q (V.int (((a : Int) - (b : Int)) % 65536)) H1
    rw [sub_nat]
    exact q
  · -- mul
    rw [comp_mul] at q
    rw [in2n (show ("mul" : Str) ≠ "div" by decide +kernel) (show ("mul" : Str) ≠ "rem" by decide +kernel)]
    refine iteF (iteF ?_)
    refine ⟨_, rfl, rfl, _, rfl, ?_⟩
    rw [sne (show ("mul" : Str) ≠ "div" by decide +kernel)]
    refine iteF ?_
    refine ⟨_, rfl, rfl, _, rfl, ?_⟩
    rw [sne (show ("mul" : Str) ≠ "rem" by decide +kernel)]
    refine iteF ?_
    refine ⟨_, rfl, rfl, _, rfl, ?_⟩
    rw [sne (show ("mul" : Str) ≠ "add" by decide +kernel)]
    refine iteF ?_
    refine ⟨_, rfl, rfl, _, rfl, ?_⟩
    rw [sne (show ("mul" : Str) ≠ "sub" by decide +kernel)]
    refine iteF ?_
    refine ⟨_, rfl, rfl, _, rfl, ?_⟩
    rw [seq "mul"]
    refine iteT ⟨_, rfl, _, rfl, _, _, rfl, rfl, .inl ⟨by omega, by omega⟩, _, _, rfl, rfl, (by decide : (0 : Int) < 65536), ?_⟩
    show Q (V.int (((a : Int) * (b : Int)) % 65536)) H1
    rw [mul_nat]
    exact q
  · -- div
    rw [comp_div] at q
    rw [in2a]
    refine iteT ⟨_, rfl, rfl, _, rfl, ?_⟩
    by_cases hz : b = 0
    · subst hz
      exact iteT q
    rw [if_neg hz] at q
    rw [show decide (V.int (b : Int) = V.int 0) = false from ne_int (b := 0) hz]
    refine iteF ?_
    refine ⟨_, rfl, rfl, _, rfl, ?_⟩
    rw [seq "div"]
    refine iteT ⟨_, rfl, _, rfl, _, _, rfl, rfl, ⟨by omega, log9 hz hb⟩, ?_⟩
    exact q
  · -- rem
    rw [comp_rem] at q
    rw [in2b]
    refine iteT ⟨_, rfl, rfl, _, rfl, ?_⟩
    by_cases hz : b = 0
    · subst hz
      exact iteT q
    rw [if_neg hz] at q
    rw [show decide (V.int (b : Int) = V.int 0) = false from ne_int (b := 0) hz]
    refine iteF ?_
    refine ⟨_, rfl, rfl, _, rfl, ?_⟩
    rw [sne (show ("rem" : Str) ≠ "div" by decide +kernel)]
    refine iteF ?_
    refine ⟨_, rfl, rfl, _, rfl, ?_⟩
    rw [seq "rem"]
    refine iteT ⟨_, rfl, _, rfl, _, _, rfl, rfl, (by omega : (0 : Int) < (b : Int)), ?_⟩
    exact q
  · -- less
    rw [comp_less] at q
    rw [in2n (show ("less" : Str) ≠ "div" by decide +kernel) (show ("less" : Str) ≠ "rem" by decide +kernel)]
    refine iteF (iteF ?_)
    refine ⟨_, rfl, rfl, _, rfl, ?_⟩
    rw [sne (show ("less" : Str) ≠ "div" by decide +kernel)]
    refine iteF ?_
    refine ⟨_, rfl, rfl, _, rfl, ?_⟩
    rw [sne (show ("less" : Str) ≠ "rem" by decide +kernel)]
    refine iteF ?_
    refine ⟨_, rfl, rfl, _, rfl, ?_⟩
    rw [sne (show ("less" : Str) ≠ "add" by decide +kernel)]
    refine iteF ?_
    refine ⟨_, rfl, rfl, _, rfl, ?_⟩
    rw [sne (show ("less" : Str) ≠ "sub" by decide +kernel)]
    refine iteF ?_
    refine ⟨_, rfl, rfl, _, rfl, ?_⟩
    rw [sne (show ("less" : Str) ≠ "mul" by decide +kernel)]
    refine iteF ?_
    refine ⟨_, rfl, rfl, _, rfl, ?_⟩
    rw [seq "less"]
    refine iteT ⟨_, rfl, _, rfl, _, _, rfl, rfl, .inr ⟨_, rfl, ?_⟩⟩
    show Q (V.int (b2I (decide ((a : Int) < (b : Int))))) H1
    rw [b2I_lt]
    exact q
  · -- same
    rw [comp_same] at q
    rw [in2n (show ("same" : Str) ≠ "div" by decide +kernel) (show ("same" : Str) ≠ "rem" by decide +kernel)]
    refine iteF (iteF ?_)
    refine ⟨_, rfl, rfl, _, rfl, ?_⟩
    rw [sne (show ("same" : Str) ≠ "div" by decide +kernel)]
    refine iteF ?_
    refine ⟨_, rfl, rfl, _, rfl, ?_⟩
    rw [sne (show ("same" : Str) ≠ "rem" by decide +kernel)]
    refine iteF ?_
    refine ⟨_, rfl, rfl, _, rfl, ?_⟩
    rw [sne (show ("same" : Str) ≠ "add" by decide +kernel)]
    refine iteF ?_
    refine ⟨_, rfl, rfl, _, rfl, ?_⟩
    rw [sne (show ("same" : Str) ≠ "sub" by decide +kernel)]
    refine iteF ?_
    refine ⟨_, rfl, rfl, _, rfl, ?_⟩
    rw [sne (show ("same" : Str) ≠ "mul" by decide +kernel)]
    refine iteF ?_
    refine ⟨_, rfl, rfl, _, rfl, ?_⟩
    rw [sne (show ("same" : Str) ≠ "less" by decide +kernel)]
    refine iteF ?_
    refine ⟨_, rfl, rfl, _, rfl, ?_⟩
    rw [seq "same"]
    refine iteT ⟨_, rfl, _, rfl, rfl, .inr ⟨_, rfl, ?_⟩⟩
    show Q (V.int (b2I (decide (V.int (a : Int) = V.int (b : Int))))) H1
    rw [b2I_eq]
    exact q
  · -- xor
    rw [comp_xor] at q
    rw [in2n (show ("xor" : Str) ≠ "div" by decide +kernel) (show ("xor" : Str) ≠ "rem" by decide +kernel)]
    refine iteF (iteF ?_)
    refine ⟨_, rfl, rfl, _, rfl, ?_⟩
    rw [sne (show ("xor" : Str) ≠ "div" by decide +kernel)]
    refine iteF ?_
    refine ⟨_, rfl, rfl, _, rfl, ?_⟩
    rw [sne (show ("xor" : Str) ≠ "rem" by decide +kernel)]
    refine iteF ?_
    refine ⟨_, rfl, rfl, _, rfl, ?_⟩
    rw [sne (show ("xor" : Str) ≠ "add" by decide +kernel)]
    refine iteF ?_
    refine ⟨_, rfl, rfl, _, rfl, ?_⟩
    rw [sne (show ("xor" : Str) ≠ "sub" by decide +kernel)]
    refine iteF ?_
    refine ⟨_, rfl, rfl, _, rfl, ?_⟩
    rw [sne (show ("xor" : Str) ≠ "mul" by decide +kernel)]
    refine iteF ?_
    refine ⟨_, rfl, rfl, _, rfl, ?_⟩
    rw [sne (show ("xor" : Str) ≠ "less" by decide +kernel)]
    refine iteF ?_
    refine ⟨_, rfl, rfl, _, rfl, ?_⟩
    rw [sne (show ("xor" : Str) ≠ "same" by decide +kernel)]
    refine iteF ?_
    refine ⟨_, rfl, _, rfl, _, _, rfl, rfl, ?_⟩
    show Q (V.int (Builtin.bitXor (a : Int) (b : Int))) H1
    rw [xor_nat]
    exact q
set_option pp.maxSteps 600 in
theorem c_law_computed (T : Txt w K mg) : Cal P w K mg base "_law_computed" 1 ["_law_word", "_law_one", "_law_other"] spComp := by
  obtain ⟨fd, F⟩ := T.d__law_computed
  refine ⟨⟨fd, F.ok sc__law_computed (fun vs H Q E h => by repeat (first | (obtain ⟨e, _⟩ := h; subst e; rfl) | (obtain ⟨_, h⟩ := h))) (fun cdv A outer s H vs Q E hr h => ?_), F.bindsN fun _ _ _ _ _ _ us hl => match us, hl with | [_, _, _], _ => rfl⟩, T.g _ (by decide), F.kp⟩
  obtain ⟨x, a, b, rfl, hx, ha, hb, q⟩ := h
  have hu := hu_of hr
  refine ⟨_, PSs.nox (pss_cons (ps_if (pt_cmpR (op_in_seqK (K := K) rfl) (pv 0) (pe_tup (pa_cons pe_str (pa_cons pe_str pa_nil))) (by rfl)) (pss_one (ps_ret (pe_ifExp (pt_cmpR op_eq (pv 0) pe_str (nomark _)) (pe_callTy call_intIB (by rfl) T.n_int (by decide +kernel) (pa_cons (pe_cmpR op_lt (pv 1) (pv 2) (nomark _)) pa_nil)) (pe_callTy call_intIB (by rfl) T.n_int (by decide +kernel) (pa_cons (pe_cmpR op_eq (pv 1) (pv 2) (nomark _)) pa_nil))))) pss_nil)
      (pss_cons (ps_if (pt_cmpR (op_in_seqK (K := K) rfl) (pv 0) (pe_tup (pa_cons pe_str (pa_cons pe_str pa_nil))) (by rfl)) (pss_one (ps_ret (pe_ifExp (pt_cmpR op_eq (pv 2) pe_int (nomark _)) pe_non (pe_ifExp (pt_cmpR op_eq (pv 0) pe_str (nomark _)) (pe_op op_fdivW (pv 1) (pv 2)) (pe_op op_mod (pv 1) (pv 2)))))) pss_nil)
      (pss_cons (ps_if (pt_cmpR op_eq (pv 0) pe_str (nomark _)) (pss_one (ps_ret (pe_op op_xor (pv 1) (pv 2)))) pss_nil)
      (pss_one (ps_ret (pe_op op_mod (pe_dget hu (pe_disp (pps_cons pe_str (pe_op op_add (pv 1) (pv 2)) (pps_cons pe_str (pe_op op_sub (pv 1) (pv 2)) (pps_cons pe_str (pe_op op_mul (pv 1) (pv 2)) pps_nil))) (by rfl) (by rfl) (fun z => by cases z) (by decide)) (pv 0) (fun _ _ => rfl)) pe_int)))))), ?_⟩
  simp only [List.mem_cons, List.not_mem_nil, or_false] at hx
  refine ⟨_, rfl, (by show 2 ≤ sizeLine; decide), fun p hp => ⟨_, _, rfl, .inr (.inl (.inl upd_same)), rfl, rfl, _, rfl, ?_⟩⟩
  have s1 := same_new (o := .tup [.str "less", .str "same"]) hp
  generalize upd H p (.tup [.str "less", .str "same"]) = H1 at s1 ⊢
  show if inV (.str x) [.str "less", .str "same"] = true then _ else _
  have nxt : ∀ p2, H1 p2 = none → Same H (upd H1 p2 (.tup [.str "div", .str "rem"])) := fun p2 hp2 => s1.trans (same_new hp2)
  rcases hx with rfl | rfl | rfl | rfl | rfl | rfl | rfl | rfl
  · -- add
    rw [comp_add] at q
    rw [in2n (show ("add" : Str) ≠ "less" by decide +kernel) (show ("add" : Str) ≠ "same" by decide +kernel)]
    refine iteF ⟨_, rfl, (by show 2 ≤ sizeLine; decide), fun p2 hp2 => ⟨_, _, rfl, .inr (.inl (.inl upd_same)), rfl, rfl, _, rfl, ?_⟩⟩
    have s2 := nxt p2 hp2
    have q3 : ∀ H3, Same (upd H1 p2 (.tup [.str "div", .str "rem"])) H3 → Q _ H3 := fun H3 s3 => q _ (s2.trans s3)
    have q := q _ s2
    generalize upd H1 p2 (.tup [.str "div", .str "rem"]) = H2 at q q3 ⊢
    show if inV (.str _) [.str "div", .str "rem"] = true then _ else _
    rw [in2n (show ("add" : Str) ≠ "div" by decide +kernel) (show ("add" : Str) ≠ "rem" by decide +kernel)]
    refine iteF ⟨_, rfl, rfl, _, rfl, ?_⟩
    rw [sne (show ("add" : Str) ≠ "xor" by decide +kernel)]
    refine iteF ?_
    intro p3 hp3
    refine ⟨_, rfl, _, rfl, _, _, rfl, rfl, _, rfl, _, rfl, _, _, rfl, rfl, _, rfl, _, rfl, _, _, rfl, rfl, .inl ⟨by omega, by omega⟩, upd_same, cmpKV a b, rfl, by show 3 ≤ 15; decide, ?_⟩
    rw [mergeK_nd (kvs := cmpKV a b) cmp_nd]
    have s3 : Same H2 (upd (upd H2 p3 (.dK [])) p3 (.dK (cmpKV a b))) := fun b o h => by rw [upd_ne (ne_of_none h hp3), upd_ne (ne_of_none h hp3)]; exact h
    have e3 : (upd (upd H2 p3 (.dK [])) p3 (.dK (cmpKV a b))) p3 = some (.dK (cmpKV a b)) := upd_same
    have q := q3 _ s3
    generalize upd (upd H2 p3 (.dK [])) p3 (.dK (cmpKV a b)) = H3 at q e3 ⊢
    refine ⟨_, rfl, p3, V.int ((a : Int) + (b : Int)), rfl, .inl ⟨cmpKV a b, Sum.inr "add", .inl e3, rfl, by unfold cmpKV; rw [valV_pos rfl]⟩, _, _, rfl, rfl, (by decide : (0 : Int) < 65536), ?_⟩
    show Q (V.int (((a : Int) + (b : Int)) % 65536)) H3
    rw [add_nat]
    exact q
  · -- sub
    rw [comp_sub] at q
    rw [in2n (show ("sub" : Str) ≠ "less" by decide +kernel) (show ("sub" : Str) ≠ "same" by decide +kernel)]
    refine iteF ⟨_, rfl, (by show 2 ≤ sizeLine; decide), fun p2 hp2 => ⟨_, _, rfl, .inr (.inl (.inl upd_same)), rfl, rfl, _, rfl, ?_⟩⟩
    have s2 := nxt p2 hp2
    have q3 : ∀ H3, Same (upd H1 p2 (.tup [.str "div", .str "rem"])) H3 → Q _ H3 := fun H3 s3 => q _ (s2.trans s3)
    have q := q _ s2
    generalize upd H1 p2 (.tup [.str "div", .str "rem"]) = H2 at q q3 ⊢
    show if inV (.str _) [.str "div", .str "rem"] = true then _ else _
    rw [in2n (show ("sub" : Str) ≠ "div" by decide +kernel) (show ("sub" : Str) ≠ "rem" by decide +kernel)]
    refine iteF ⟨_, rfl, rfl, _, rfl, ?_⟩
    rw [sne (show ("sub" : Str) ≠ "xor" by decide +kernel)]
    refine iteF ?_
    intro p3 hp3
    refine ⟨_, rfl, _, rfl, _, _, rfl, rfl, _, rfl, _, rfl, _, _, rfl, rfl, _, rfl, _, rfl, _, _, rfl, rfl, .inl ⟨by omega, by omega⟩, upd_same, cmpKV a b, rfl, by show 3 ≤ 15; decide, ?_⟩
    rw [mergeK_nd (kvs := cmpKV a b) cmp_nd]
    have s3 : Same H2 (upd (upd H2 p3 (.dK [])) p3 (.dK (cmpKV a b))) := fun b o h => by rw [upd_ne (ne_of_none h hp3), upd_ne (ne_of_none h hp3)]; exact h
    have e3 : (upd (upd H2 p3 (.dK [])) p3 (.dK (cmpKV a b))) p3 = some (.dK (cmpKV a b)) := upd_same
    have q := q3 _ s3
    generalize upd (upd H2 p3 (.dK [])) p3 (.dK (cmpKV a b)) = H3 at q e3 ⊢
    refine ⟨_, rfl, p3, V.int ((a : Int) - (b : Int)), rfl, .inl ⟨cmpKV a b, Sum.inr "sub", .inl e3, rfl, by unfold cmpKV; rw [valV_neg (k_ne (show ("add" : Str) ≠ "sub" by decide +kernel)), valV_pos rfl]⟩, _, _, rfl, rfl, (by decide : (0 : Int) < 65536), ?_⟩
    show Q (V.int (((a : Int) - (b : Int)) % 65536)) H3
    rw [sub_nat]
    exact q
  · -- mul
    rw [comp_mul] at q
    rw [in2n (show ("mul" : Str) ≠ "less" by decide +kernel) (show ("mul" : Str) ≠ "same" by decide +kernel)]
    refine iteF ⟨_, rfl, (by show 2 ≤ sizeLine; decide), fun p2 hp2 => ⟨_, _, rfl, .inr (.inl (.inl upd_same)), rfl, rfl, _, rfl, ?_⟩⟩
    have s2 := nxt p2 hp2
    have q3 : ∀ H3, Same (upd H1 p2 (.tup [.str "div", .str "rem"])) H3 → Q _ H3 := fun H3 s3 => q _ (s2.trans s3)
    have q := q _ s2
    generalize upd H1 p2 (.tup [.str "div", .str "rem"]) = H2 at q q3 ⊢
    show if inV (.str _) [.str "div", .str "rem"] = true then _ else _
    rw [in2n (show ("mul" : Str) ≠ "div" by decide +kernel) (show ("mul" : Str) ≠ "rem" by decide +kernel)]
    refine iteF ⟨_, rfl, rfl, _, rfl, ?_⟩
    rw [sne (show ("mul" : Str) ≠ "xor" by decide +kernel)]
    refine iteF ?_
    intro p3 hp3
    refine ⟨_, rfl, _, rfl, _, _, rfl, rfl, _, rfl, _, rfl, _, _, rfl, rfl, _, rfl, _, rfl, _, _, rfl, rfl, .inl ⟨by omega, by omega⟩, upd_same, cmpKV a b, rfl, by show 3 ≤ 15; decide, ?_⟩
    rw [mergeK_nd (kvs := cmpKV a b) cmp_nd]
    have s3 : Same H2 (upd (upd H2 p3 (.dK [])) p3 (.dK (cmpKV a b))) := fun b o h => by rw [upd_ne (ne_of_none h hp3), upd_ne (ne_of_none h hp3)]; exact h
    have e3 : (upd (upd H2 p3 (.dK [])) p3 (.dK (cmpKV a b))) p3 = some (.dK (cmpKV a b)) := upd_same
    have q := q3 _ s3
    generalize upd (upd H2 p3 (.dK [])) p3 (.dK (cmpKV a b)) = H3 at q e3 ⊢
    refine ⟨_, rfl, p3, V.int ((a : Int) * (b : Int)), rfl, .inl ⟨cmpKV a b, Sum.inr "mul", .inl e3, rfl, by unfold cmpKV; rw [valV_neg (k_ne (show ("add" : Str) ≠ "mul" by decide +kernel)), valV_neg (k_ne (show ("sub" : Str) ≠ "mul" by decide +kernel)), valV_pos rfl]⟩, _, _, rfl, rfl, (by decide : (0 : Int) < 65536), ?_⟩
    show Q (V.int (((a : Int) * (b : Int)) % 65536)) H3
    rw [mul_nat]
    exact q
  · -- div
    rw [comp_div] at q
    rw [in2n (show ("div" : Str) ≠ "less" by decide +kernel) (show ("div" : Str) ≠ "same" by decide +kernel)]
    refine iteF ⟨_, rfl, (by show 2 ≤ sizeLine; decide), fun p2 hp2 => ⟨_, _, rfl, .inr (.inl (.inl upd_same)), rfl, rfl, _, rfl, ?_⟩⟩
    have s2 := nxt p2 hp2
    have q3 : ∀ H3, Same (upd H1 p2 (.tup [.str "div", .str "rem"])) H3 → Q _ H3 := fun H3 s3 => q _ (s2.trans s3)
    have q := q _ s2
    generalize upd H1 p2 (.tup [.str "div", .str "rem"]) = H2 at q q3 ⊢
    show if inV (.str _) [.str "div", .str "rem"] = true then _ else _
    rw [in2a]
    refine iteT ⟨_, rfl, rfl, _, rfl, ?_⟩
    by_cases hz : b = 0
    · subst hz
      exact iteT q
    rw [if_neg hz] at q
    rw [show decide (V.int (b : Int) = V.int 0) = false from ne_int (b := 0) hz]
    refine iteF ⟨_, rfl, rfl, _, rfl, ?_⟩
    rw [seq "div"]
    refine iteT ⟨_, rfl, _, rfl, _, _, rfl, rfl, ⟨by omega, log9 hz hb⟩, ?_⟩
    exact q
  · -- rem
    rw [comp_rem] at q
    rw [in2n (show ("rem" : Str) ≠ "less" by decide +kernel) (show ("rem" : Str) ≠ "same" by decide +kernel)]
    refine iteF ⟨_, rfl, (by show 2 ≤ sizeLine; decide), fun p2 hp2 => ⟨_, _, rfl, .inr (.inl (.inl upd_same)), rfl, rfl, _, rfl, ?_⟩⟩
    have s2 := nxt p2 hp2
    have q3 : ∀ H3, Same (upd H1 p2 (.tup [.str "div", .str "rem"])) H3 → Q _ H3 := fun H3 s3 => q _ (s2.trans s3)
    have q := q _ s2
    generalize upd H1 p2 (.tup [.str "div", .str "rem"]) = H2 at q q3 ⊢
    show if inV (.str _) [.str "div", .str "rem"] = true then _ else _
    rw [in2b]
    refine iteT ⟨_, rfl, rfl, _, rfl, ?_⟩
    by_cases hz : b = 0
    · subst hz
      exact iteT q
    rw [if_neg hz] at q
    rw [show decide (V.int (b : Int) = V.int 0) = false from ne_int (b := 0) hz]
    refine iteF ⟨_, rfl, rfl, _, rfl, ?_⟩
    rw [sne (show ("rem" : Str) ≠ "div" by decide +kernel)]
    refine iteF ⟨_, rfl, _, rfl, _, _, rfl, rfl, (by omega : (0 : Int) < (b : Int)), ?_⟩
    exact q
  · -- less
    rw [comp_less] at q
    rw [in2a]
    refine iteT ⟨_, rfl, rfl, _, rfl, ?_⟩
    rw [seq "less"]
    refine iteT ⟨_, rfl, _, rfl, _, _, rfl, rfl, .inr ⟨_, rfl, ?_⟩⟩
    show Q (V.int (b2I (decide ((a : Int) < (b : Int))))) H1
    rw [b2I_lt]
    exact q _ s1
  · -- same
    rw [comp_same] at q
    rw [in2b]
    refine iteT ⟨_, rfl, rfl, _, rfl, ?_⟩
    rw [sne (show ("same" : Str) ≠ "less" by decide +kernel)]
    refine iteF ⟨_, rfl, _, rfl, rfl, .inr ⟨_, rfl, ?_⟩⟩
    show Q (V.int (b2I (decide (V.int (a : Int) = V.int (b : Int))))) H1
    rw [b2I_eq]
    exact q _ s1
  · -- xor
    rw [comp_xor] at q
    rw [in2n (show ("xor" : Str) ≠ "less" by decide +kernel) (show ("xor" : Str) ≠ "same" by decide +kernel)]
    refine iteF ⟨_, rfl, (by show 2 ≤ sizeLine; decide), fun p2 hp2 => ⟨_, _, rfl, .inr (.inl (.inl upd_same)), rfl, rfl, _, rfl, ?_⟩⟩
    have s2 := nxt p2 hp2
    have q3 : ∀ H3, Same (upd H1 p2 (.tup [.str "div", .str "rem"])) H3 → Q _ H3 := fun H3 s3 => q _ (s2.trans s3)
    have q := q _ s2
    generalize upd H1 p2 (.tup [.str "div", .str "rem"]) = H2 at q q3 ⊢
    show if inV (.str _) [.str "div", .str "rem"] = true then _ else _
    rw [in2n (show ("xor" : Str) ≠ "div" by decide +kernel) (show ("xor" : Str) ≠ "rem" by decide +kernel)]
    refine iteF ⟨_, rfl, rfl, _, rfl, ?_⟩
    rw [seq "xor"]
    refine iteT ⟨_, rfl, _, rfl, _, _, rfl, rfl, ?_⟩
    show Q (V.int (Builtin.bitXor (a : Int) (b : Int))) H2
    rw [xor_nat]
    exact q
end
end K18

set_option maxHeartbeats 4000000
/-! HNe: xs != [], whatever the list holds. -/
namespace HG
open PySem PySem.Spec PyProof.Rows L2
def rNeE (K : PySem.W.Frag) : R2 := fun x y H Q => ∃ (a b : Addr) (xs : List V), x = .ref a ∧ y = .ref b ∧ SqL K H a xs ∧ SqL K H b [] ∧ Q (.bl (!xs.isEmpty)) H
theorem op_neE {X : Cx} {K : PySem.W.Frag} (hK : X.K = K) (hu : X.A.units < cLine) : OpR X (compareOp .NotEq) (rNeE K) := by
  subst hK
  intro pins s σ H x y v u Q I rx ry h
  obtain ⟨a, b, xs, rfl, rfl, ha, hb, q⟩ := h
  obtain rfl : v = Value.ref a := rx
  obtain rfl : u = Value.ref b := ry
  obtain ⟨us, r1, p1, _⟩ := I.list ha
  obtain ⟨ws, r2, p2, _⟩ := I.list hb
  have e2 : ws = [] := List.length_eq_zero_iff.mp (by have := r2.length; simpa using this.symm)
  subst e2
  cases xs with
  | nil =>
    have e1 : us = [] := List.length_eq_zero_iff.mp (by have := r1.length; simpa using this.symm)
    subst e1
    exact PySem.SeqAt.RcNeAt.lists (e := fun _ => true) p1.isList p2.isList rfl hu (fun j h1 _ => absurd h1 (Nat.not_lt_zero _)) _ _ _ _ ⟨.bl false, H, I, rfl, q⟩
  | cons z zs =>
    have hl := r1.length
    rw [List.length_cons] at hl
    refine PySem.SeqAt.RcNeAt.lists_lengths p1.isList p2.isList ?_ hu _ _ _ _ ⟨.bl true, H, I, rfl, q⟩
    rw [bne_iff_ne, List.size_toArray]
    show us.length ≠ 0
    omega
end HG

set_option maxHeartbeats 1000000
namespace K18
open PySem PySem.Spec PyProof.Rows L2 HG P18
/-- the machine is about to do R: s is the state before, f0 its top frame -/
structure Row (im : Im) (s : Ms) (f0 : Fm) (r : List Fm) (R : Rw) : Prop where
  I : ImOk im
  ok : MsOk im s
  fr : s.fr = f0 :: r
  row : rowAt im f0.k f0.pc = some R
abbrev adv (f : Fm) : Fm := { f with pc := f.pc + 1 }
theorem Row.cd {im : Im} {s : Ms} {f0 : Fm} {r : List Fm} {R : Rw} (h : Row im s f0 r R) : ∃ cd, im.codes[f0.k]? = some cd ∧ f0.pc < cd.rows.length ∧ HOk im f0.pc f0.h ∧ RwOk im f0.pc cd.rows.length cd.ret R ∧ TOk f0.t cd.ret := by
  have hst := h.ok.fr
  rw [h.fr] at hst
  obtain ⟨cd, hf, ht, _⟩ := top_fm hst
  refine ⟨cd, hf.code, hf.pc, hf.h, ?_, ht⟩
  have := h.row
  unfold rowAt at this
  rw [hf.code] at this
  exact (h.I.codes cd (List.mem_of_getElem? hf.code)).rows _ _ this
/-- how a step ends -/
def Post {K : PySem.W.Frag} (S : Sh K) (im : Im) (A : Ad) (fa : List (Addr × Addr)) (H : Hp) (n : Nat) (Q : Hp → Prop) : Out → Prop
  | .go s' _ => ∀ H' fa', Mv (allA S A fa) H (allA S A fa') H' → MsH S im H' A fa' s' .non (n + 1) → Q H'
  | .stop e => ∀ H' fa' v, Mv (allA S A fa) H (allA S A fa') H' → H' A.top = some (S.top A v) → Dp K H' v e.D → Q H'
/-- Process.x(frame, instruction) -/
def Sit (K : PySem.W.Frag) (v : V) (H : Hp) (im : Im) (dx co : Addr) (A : Ad) (p : Addr × Addr) (fa : List (Addr × Addr)) (s : Ms) (f0 : Fm) (r : List Fm) (R : Rw) (n : Nat) : Prop :=
  Dp K H v R.D ∧ Row im s f0 r R ∧ n ≤ 100000 ∧ MsH (ShP K im dx co) im H A (p :: fa) { s with fr := adv f0 :: r } .non n
/-- the value of a read -/
def rdV (s : Ms) (h : Nat → Wv) (c : Nat) (a : Op) : Option Wv := if c = 0 then (if (worth h a).n < s.r0.length then some (.w (s.r0.getD (worth h a).n 0)) else none) else some (.f s.r1)
/-- the target and the value of an instruction that only sets a variable -/
def asgV (s : Ms) (h : Nat → Wv) : Rw → Option (Nat × Option Wv)
  | .op t x a b => some (t, (comp x (worth h a).n (worth h b).n).map Wv.w)
  | .cw t n => some (t, some (.w n))
  | .cf t k => some (t, some (.f k))
  | .cp t u => some (t, some (h u))
  | .ld t c => some (t, some (if c = 0 then s.c0 else s.c1))
  | .rd t c a => some (t, rdV s h c a)
  | _ => none
def spAssign (K : PySem.W.Frag) : Sp := fun vs H Q _ => ∃ (im : Im) (dx co : Addr) (A : Ad) (p : Addr × Addr) (fa : List (Addr × Addr)) (s : Ms) (f0 : Fm) (r : List Fm) (R : Rw) (n t : Nat) (val : Option Wv) (v : V), vs = [.ref A.top, .ref p.1, v] ∧ Sit K v H im dx co A p fa s f0 r R n ∧ asgV s f0.h R = some (t, val) ∧
  Post (ShP K im dx co) im A (p :: fa) H n (Q .non) (stepR im s (adv f0) r R)
theorem HdV.put {K : PySem.W.Frag} {H : Hp} {kv : List (Key × V)} {h : Nat → Wv} {t : Nat} {z : V} {y : Wv} (x : HdV K H kv h) (hz : Dp K H z y.D) : HdV K H (putK kv (Sum.inl (t : Int)) z) (hput h t y) := fun s hs => by
  by_cases e : s = t
  · subst e
    exact .inl ⟨z, by rw [valV_put, if_pos rfl], by rw [hput_same]; exact hz⟩
  · rw [hput_ne e, valV_put, if_neg (fun q => e (by injection q with q; omega))]
    exact x s hs
/-- the end of assign -/
def tlAsg (K : PySem.W.Frag) : TS := tIfS (tTest (tOp (fun x y H Q => y = V.non ∧ Q (V.bl (decide (x = V.non))) H) (tVar 5) (tC V.non))) (sFld K (tVar 0) (tTup (tCons (tC (V.str "trap")) (tCons (tIf (tTest (tOp rEq (tVar 3) (tC (V.str "op")))) (tC (V.str "zero")) (tC (V.str "bounds"))) tNil))) "end") (sDPut (tFld K (tVar 1) "variables") (tVar 4) (tVar 5))
theorem asg_ps {s : Ms} {h : Nat → Wv} {R : Rw} {t : Nat} {val : Option Wv} (e : asgV s h R = some (t, val)) : ∃ x ds, R.ps = .int (t : Int) :: x :: ds := by
  cases R <;> first | (cases e; exact ⟨_, _, rfl⟩) | cases e
def asgOut (s : Ms) (f0 : Fm) (r : List Fm) (R : Rw) (t : Nat) : Option Wv → Out
  | some y => .go { s with fr := { adv f0 with h := hput f0.h t y } :: r } none
  | none => .stop (.trap (if R.word = "op" then ("zero" : Str) else "bounds"))
theorem asg_step {im : Im} {s : Ms} {f0 : Fm} {r : List Fm} {R : Rw} {t : Nat} {val : Option Wv} (h : asgV s f0.h R = some (t, val)) :
    stepR im s (adv f0) r R = asgOut s f0 r R t val := by
  have n1 : ¬ (("read" : Str) = "op") := by decide +kernel
  cases R with
  | op t' x a b =>
    cases h
    show (match comp x (worth f0.h a).n (worth f0.h b).n with | none => Out.stop (.trap "zero") | some n => .go { s with fr := { adv f0 with h := hput f0.h t (.w n) } :: r } none) = _
    cases comp x (worth f0.h a).n (worth f0.h b).n with
    | none => show _ = Out.stop (.trap (if ("op" : Str) = "op" then "zero" else "bounds")); rw [if_pos rfl]
    | some n => rfl
  | rd t' c a =>
    cases h
    show (if c = 0 then (if (worth f0.h a).n < s.r0.length then Out.go { s with fr := { adv f0 with h := hput f0.h t (.w (s.r0.getD (worth f0.h a).n 0)) } :: r } none else .stop (.trap "bounds")) else .go { s with fr := { adv f0 with h := hput f0.h t (.f s.r1) } :: r } none) = _
    unfold rdV
    by_cases hc : c = 0
    · rw [if_pos hc, if_pos hc]
      by_cases hl : (worth f0.h a).n < s.r0.length
      · rw [if_pos hl, if_pos hl]
        rfl
      · rw [if_neg hl, if_neg hl]
        show _ = Out.stop (.trap (if ("read" : Str) = "op" then "zero" else "bounds"))
        rw [if_neg n1]
    · rw [if_neg hc, if_neg hc]
      rfl
  | cw => cases h; rfl
  | cf => cases h; rfl
  | cp => cases h; rfl
  | ld => cases h; rfl
  | pr => cases h
  | st => cases h
  | wr => cases h
  | ca => cases h
  | ap => cases h
  | ha => cases h
  | jp => cases h
  | br => cases h
  | un => cases h
  | rt => cases h
def spRead (K : PySem.W.Frag) : Sp := fun vs H Q _ => ∃ (im : Im) (dx co : Addr) (A : Ad) (p : Addr × Addr) (fa : List (Addr × Addr)) (s : Ms) (f0 : Fm) (r : List Fm) (t c : Nat) (a : Op) (n : Nat) (v : V), vs = [.ref A.top, .ref p.1, v] ∧ Sit K v H im dx co A p fa s f0 r (.rd t c a) n ∧
  ∀ z, Dp K H z (wD (rdV s f0.h c a)) → Q z H
section
variable {P : Program} {w : World} {K : PySem.W.Frag} {mg : Str → Option Value} {base : Heap}
/-- what the top frame's objects are -/
theorem top_at {im : Im} {dx co : Addr} {H : Hp} {A : Ad} {p : Addr × Addr} {fa : List (Addr × Addr)} {s : Ms} {f : Fm} {r : List Fm} {n : Nat} (h : MsH (ShP K im dx co) im H A (p :: fa) { s with fr := f :: r } .non n) :
    ∃ d cv kv, H p.1 = some (FmO K d cv f.pc p.2 (optV f.t)) ∧ Dp K H cv (rowsD im f.k) ∧ H p.2 = some (.dK kv) ∧ kv.length ≤ n + 14 ∧ HdV K H kv f.h := by
  obtain ⟨o, cv, e1, ⟨d, rfl⟩, e3, kv, e4, e5, e6⟩ := h.fm.1
  exact ⟨d, cv, kv, e1, e3, e4, e5, e6⟩
theorem opOk_lt {a : Op} (h : OpOk a) : ∀ s, some a = some (.v s) → s < 10 := fun s e => by
  cases e
  have : s < 4 := h
  omega
theorem wv_dp {H : Hp} {v : V} {n : Nat} (h : Dp K H v (Wv.w n).D) : v = nV n := by
  have h : Dp K H v (.int (n : Int)) := h
  cases h
  rfl
theorem wv_op {im : Im} {H : Hp} {pc : Nat} {h : Nat → Wv} {o : Op} {y : V} (hh : HOk im pc h) (ho : OpOk o) (hy : Dp K H y (worth h o).D) : ∃ n : Nat, y = nV n ∧ worth h o = .w n ∧ n < 65536 := by
  obtain ⟨ew, hw⟩ := (worth_ok hh ho).n
  rw [ew] at hy
  exact ⟨_, wv_dp hy, ew, hw⟩
theorem two_get (x y : V) : valV [((Sum.inl 0 : Key), x), (Sum.inl 1, y)] (Sum.inl ((0 : Nat) : Int)) = some x ∧ valV [((Sum.inl 0 : Key), x), (Sum.inl 1, y)] (Sum.inl ((1 : Nat) : Int)) = some y := by
  refine ⟨?_, ?_⟩
  · show valV _ (Sum.inl 0 : Key) = _
    rw [valV_pos rfl]
  · show valV _ (Sum.inl 1 : Key) = _
    rw [valV_neg (show ¬ ((Sum.inl 0 : Key) = Sum.inl 1) by decide), valV_pos rfl]
set_option pp.maxSteps 600 in
theorem m_Process_read (T : Txt w K mg) : C8.Met P w K mg base 2 (He.ga K "Process") "read" (spRead K) [] := by
  obtain ⟨fd, F⟩ := T.d_Process_read
  have M_Frame_value := m_Frame_value (P := P) (w := w) (base := base) T
  refine ⟨_, fd, ["self", "frame", "instruction"], [], T.cl_Process, T.m_Process_read, F.ok sc_Process_read (fun vs H Q E h => by repeat (first | (obtain ⟨e, _⟩ := h; subst e; rfl) | (obtain ⟨_, h⟩ := h))) (fun cdv A outer s H vs Q E hr h => ?_), F.bindsN fun _ _ _ _ _ _ us hl => match us, hl with | [_, _, _], _ => rfl, .nil⟩
  obtain ⟨im, dx, co, A, p, fa, s, f0, r, t, c, a, n, v, rfl, ⟨hv, hrow, hn, hm⟩, q⟩ := h
  have hu := hu_of hr
  refine ⟨_, PSs.nox (pss_cons (ps_set (i := 3) sc_Process_read.nd rfl (.inl rfl) (pe_dget hu (pe_fld (pv 0) rfl) (pe_ix (ix_P (K := K) rfl) (pv 2) pe_int (fun _ _ => rfl)) (fun _ _ => rfl)))
      (pss_cons (ps_set (i := 4) sc_Process_read.nd rfl (.inl rfl) (C8.pe_mt M_Frame_value hr (by omega) (pv 1) (pa_cons (pe_ix (ix_P (K := K) rfl) (pv 2) pe_int (fun _ _ => rfl)) pa_nil)))
      (pss_one (ps_ret (pe_ifExp (pt_cmpR op_lt (pv 4) (pe_callB (lenK (K := K) rfl) (by rfl) T.n_len (by decide +kernel) (pa_cons (pv 3) pa_nil)) (nomark _)) (pe_ix (ix_listK (K := K) rfl) (pv 3) (pv 4) (fun _ _ => rfl)) pe_non))))), ?_⟩
  obtain ⟨d, cv, kv, hp1, hcv, hp2, hkl, hkv⟩ := top_at hm
  obtain ⟨cd, _, _, hh, hrw, _⟩ := hrow.cd
  have htop := hm.bs.top
  have har := hm.bs.ar
  obtain ⟨r1v, hr1, hr1d⟩ := hm.bs.r1
  have hr0 := hm.bs.r0
  obtain ⟨_, _, hc⟩ := hrw
  have ha : ∀ x, some a = some (.v x) → x < 10 := by
    rcases hc with ⟨_, _, h⟩ | ⟨_, _, rfl⟩
    · exact opOk_lt h
    · exact fun _ h => nomatch h
  have hcc : c = 0 ∨ c = 1 := by rcases hc with ⟨_, h, _⟩ | ⟨_, h, _⟩ <;> omega
  obtain ⟨rk, hrk⟩ : ∃ rk, rk = if c = 0 then A.r0 else A.r1 := ⟨_, rfl⟩
  have dg : DGet H A.ar (.int (c : Int)) (some (.ref rk)) := by
    refine .inl ⟨_, Sum.inl (c : Int), .inl har, rfl, ?_⟩
    rcases hcc with rfl | rfl
    · rw [hrk, if_pos rfl]; exact (two_get _ _).1.symm
    · rw [hrk, if_neg (by decide)]; exact (two_get _ _).2.symm
  refine ⟨_, rfl, A.top, CP K, dx, _, .ref A.ar, rfl, htop, T.cl_Process, T.no_Process_arrays, rfl, _, rfl, _, 2, _, hv, rfl, rfl, fun z hz => ?_⟩
  cases hz
  refine ⟨A.ar, .ref rk, rfl, dg, ?_⟩
  refine ⟨_, rfl, p.1, d, _, rfl, hp1, rfl, _, rfl, _, 3, _, hv, rfl, rfl, fun z hz => ?_⟩
  refine ⟨p.1, d, p.2, cv, _, z, _, kv, f0.h, some a, rfl, hp1, hp2, hkv, hz, ha, fun y hy => ?_⟩
  rcases hc with ⟨_, rfl, hoa⟩ | ⟨_, rfl, rfl⟩
  · obtain ⟨ew, hw⟩ := (worth_ok hh hoa).n
    have hy : Dp K H y (worth f0.h a).D := hy
    rw [ew] at hy
    have ey := wv_dp hy
    subst ey
    rw [if_pos rfl] at hrk
    subst hrk
    refine ⟨_, rfl, _, rfl, .ref A.r0, (s.r0.map nV).length, rfl, .inl ⟨_, .inl (.inl hr0), rfl⟩, _, _, rfl, rfl, _, rfl, ?_⟩
    rw [List.length_map]
    show if decide (((worth f0.h a).n : Int) < (s.r0.length : Int)) = true then _ else _
    rw [lt_dec]
    unfold rdV at q
    rw [if_pos rfl] at q
    by_cases hl : (worth f0.h a).n < s.r0.length
    · rw [if_pos hl] at q
      rw [decide_eq_true hl]
      refine iteT ⟨_, rfl, _, rfl, A.r0, _, _, nV s.r0[(worth f0.h a).n], rfl, rfl, .inl (.inl hr0), atI_nat (by rw [List.getElem?_map, List.getElem?_eq_getElem hl]; rfl), q _ ?_⟩
      rw [List.getD_eq_getElem?_getD, List.getElem?_eq_getElem hl]
      exact .int _
    · rw [if_neg hl] at q
      rw [decide_eq_false hl]
      exact iteF (q _ .non)
  · have ey := wv_dp (n := 0) hy
    subst ey
    rw [if_neg (by decide)] at hrk
    subst hrk
    refine ⟨_, rfl, _, rfl, .ref A.r1, 1, rfl, .inl ⟨_, .inl (.inl hr1), rfl⟩, _, _, rfl, rfl, _, rfl, iteT ?_⟩
    refine ⟨_, rfl, _, rfl, A.r1, _, _, r1v, rfl, rfl, .inl (.inl hr1), atI_nat (j := 0) rfl, q _ ?_⟩
    exact hr1d
set_option pp.maxSteps 600 in
theorem m_Process_assign (T : Txt w K mg) : C8.Met P w K mg base 3 (He.ga K "Process") "assign" (spAssign K) [] := by
  obtain ⟨fd, F⟩ := T.d_Process_assign
  have C_computed := c_computed (P := P) (w := w) (base := base) T
  have M_Process_read := m_Process_read (P := P) (w := w) (base := base) T
  have M_Frame_value := m_Frame_value (P := P) (w := w) (base := base) T
  refine ⟨_, fd, ["self", "frame", "instruction"], [], T.cl_Process, T.m_Process_assign, F.ok sc_Process_assign (fun vs H Q E h => by repeat (first | (obtain ⟨e, _⟩ := h; subst e; rfl) | (obtain ⟨_, h⟩ := h))) (fun cdv A outer s H vs Q E hr h => ?_), F.bindsN fun _ _ _ _ _ _ us hl => match us, hl with | [_, _, _], _ => rfl, .nil⟩
  obtain ⟨im, dx, co, A, p, fa, s, f0, r, R, n, t, val, v, rfl, ⟨hv, hrow, hn, hm⟩, hval, q⟩ := h
  have hu := hu_of hr
  refine ⟨_, PSs.nox (pss_cons (ps_asg (pe_slice (sl_P (K := K) rfl) (pv 2) po_none (po_some pe_int)) (pg_tupK (K := K) (n := 2) rfl rfl (pgs_cons (pg_name (i := 3) sc_Process_assign.nd rfl (.inl rfl)) (pgs_cons (pg_name (i := 4) sc_Process_assign.nd rfl (.inl rfl)) pgs_nil))))
      (pss_cons (ps_if (pt_cmpR op_eq (pv 3) pe_str (nomark _)) (pss_one (ps_set (i := 5) sc_Process_assign.nd rfl (.inl rfl) (pe_ix (ix_P (K := K) rfl) (pv 2) pe_int (fun _ _ => rfl)))) (pss_one (ps_if (pt_cmpR op_eq (pv 3) pe_str (nomark _)) (pss_one (ps_set (i := 5) sc_Process_assign.nd rfl (.inl rfl) (pe_dget2 hu (pe_fld (pv 1) rfl) (pe_ix (ix_P (K := K) rfl) (pv 2) pe_int (fun _ _ => rfl)) pe_int ⟨rfl, rfl, rfl, rfl⟩))) (pss_one (ps_if (pt_cmpR op_eq (pv 3) pe_str (nomark _)) (pss_one (ps_set (i := 5) sc_Process_assign.nd rfl (.inl rfl) (pe_dget hu (pe_fld (pv 0) rfl) (pe_ix (ix_P (K := K) rfl) (pv 2) pe_int (fun _ _ => rfl)) (fun _ _ => rfl)))) (pss_one (ps_if (pt_cmpR op_eq (pv 3) pe_str (nomark _)) (pss_one (ps_set (i := 5) sc_Process_assign.nd rfl (.inl rfl) (pe_cal C_computed (hr.mono (by omega)) (by rfl) (pa_cons (pe_ix (ix_P (K := K) rfl) (pv 2) pe_int (fun _ _ => rfl)) (pa_cons (C8.pe_mt M_Frame_value hr (by omega) (pv 1) (pa_cons (pe_ix (ix_P (K := K) rfl) (pv 2) pe_int (fun _ _ => rfl)) pa_nil)) (pa_cons (C8.pe_mt M_Frame_value hr (by omega) (pv 1) (pa_cons (pe_ix (ix_P (K := K) rfl) (pv 2) pe_int (fun _ _ => rfl)) pa_nil)) pa_nil)))))) (pss_one (ps_set (i := 5) sc_Process_assign.nd rfl (.inl rfl) (C8.pe_mt M_Process_read hr (by omega) (pv 0) (pa_cons (pv 1) (pa_cons (pv 2) pa_nil))))))))))))
      (pss_one (ps_if (pt_cmpR op_isN (pv 5) pe_non (nomark _)) (pss_one (ps_fld (pv 0) (pe_tup (pa_cons pe_str (pa_cons (pe_ifExp (pt_cmpR op_eq (pv 3) pe_str (nomark _)) pe_str pe_str) pa_nil))) (by rfl))) (pss_one (ps_dput hu (pe_fld (pv 1) rfl) (pv 4) (pv 5) rfl)))))), ?_⟩
  rw [asg_step hval] at q
  obtain ⟨d, cv, kv, hp1, hcv, hp2, hkl, hkv⟩ := top_at hm
  obtain ⟨cd, _, _, hh, hrw, _⟩ := hrow.cd
  have htop := hm.bs.top
  have tail : ∀ (H' : Hp) (z : V), Same H H' → Dp K H' z (wD val) → tlAsg K { nx := fun x H' => Q V.non H', rt := Q } [some (.ref A.top), some (.ref p.1), some v, some (.str R.word), some (nV t), some z] H' := by
    intro H' z s1 hz
    cases val with
    | none =>
      cases hz
      refine ⟨_, rfl, rfl, _, rfl, iteT ?_⟩
      have fin : ∀ (pt : Addr) (z0 : Str), z0 = (if R.word = "op" then ("zero" : Str) else "bounds") → H' pt = none → Q .non (upd (upd H' pt (.tup [.str "trap", .str z0])) A.top (PcO K dx co A (.ref pt))) := fun pt z0 hw hpt => by
        have s2 := s1.trans (same_new (o := .tup [.str "trap", .str z0]) hpt)
        have g2 := dp_tupN (K := K) hpt (.cons (.str "trap") (.cons (.str z0) .nil))
        have e2 := s2 _ _ htop
        refine q _ (p :: fa) (.ref pt) ((Mv.of s2).trans (Mv.put (in_base (by simp)) (by rw [e2]; exact True.intro))) upd_same ?_
        rw [← hw]
        exact dp_kt (KT.put (by rw [e2]; exact True.intro)) _ _ rfl g2
      have htop' : ∀ (pt : Addr) (o : HO), H' pt = none → (upd H' pt o) A.top = some (PcO K dx co A .non) := fun pt o hpt => upd_get hpt (s1 _ _ htop)
      refine ⟨_, rfl, rfl, _, rfl, ?_⟩
      by_cases ho : R.word = "op"
      · rw [show decide (V.str R.word = V.str "op") = true from decide_eq_true (by rw [ho])]
        exact iteT ⟨(by show 2 ≤ sizeLine; decide), fun pt hpt => ⟨_, rfl, A.top, CP K, dx, _, rfl, htop' pt _ hpt, T.cl_Process, T.no_Process_end, (by show 6 < 1000; decide), fin pt "zero" (by rw [if_pos ho]) hpt⟩⟩
      · rw [sne ho]
        exact iteF ⟨(by show 2 ≤ sizeLine; decide), fun pt hpt => ⟨_, rfl, A.top, CP K, dx, _, rfl, htop' pt _ hpt, T.cl_Process, T.no_Process_end, (by show 6 < 1000; decide), fin pt "bounds" (by rw [if_neg ho]) hpt⟩⟩
    | some y =>
      have hz : Dp K H' z y.D := hz
      have hnz : decide (z = V.non) = false := decide_eq_false fun e => by
        rw [e] at hz
        cases y <;> cases hz
      have hm' := hm.same s1
      obtain ⟨d, cv, kv, hp1, hcv, hp2, hkl, hkv⟩ := top_at hm'
      refine ⟨_, rfl, rfl, _, rfl, ?_⟩
      rw [hnz]
      have hmu : Mut (H' p.2) := by rw [hp2]; exact True.intro
      refine iteF ⟨_, rfl, _, rfl, p.1, CF K, d, _, .ref p.2, rfl, hp1, T.cl_Frame, T.no_Frame_variables, rfl, _, rfl, p.2, _, rfl, DPut.k (k := Sum.inl (t : Int)) hp2 (small_line (by omega)), ?_⟩
      have k := KT.put (o := .dK (putK kv (Sum.inl (t : Int)) z)) hmu
      obtain ⟨n1, n2, n3, n4⟩ := nd_cons.mp hm'.nd
      have hf : FmH (ShP K im dx co) im (upd H' p.2 (.dK (putK kv (Sum.inl (t : Int)) z))) p { adv f0 with h := hput f0.h t y } (n + 1) :=
        ⟨_, cv, by rw [upd_ne n1]; exact hp1, ⟨d, rfl⟩, dp_kt k _ _ (nlRows im f0.k) hcv, _, upd_same, by have := length_putK kv (Sum.inl (t : Int)) z; omega, (hkv.kt k).put (dp_kt k _ _ (nlW y) hz)⟩
      have h2 := (hm'.up (Nat.le_succ n)).head2 rfl hf
      exact q _ (p :: fa) ((Mv.of s1).trans (Mv.put (in_fa2 List.mem_cons_self) hmu)) h2
  obtain ⟨x2, ds, hps⟩ := asg_ps hval
  refine ⟨_, rfl, 2, rfl, _, hv, fun z H1 s1 hz => ?_⟩
  have ecut : cutP (.str R.word :: R.ps) none (some 2) = [.str R.word, .int (t : Int)] := by
    rw [hps]
    exact cutP_to _ 2
  have hz : Dp K H1 z (.tuple (cutP (.str R.word :: R.ps) none (some 2))) := hz
  rw [ecut] at hz
  cases hz with
  | @tup za zs _ zq zz =>
  cases zz with
  | cons h1 t1 =>
  cases t1 with
  | cons h2 t2 =>
  cases t2
  cases h1
  cases h2
  refine ⟨za, _, rfl, zq, rfl, _, _, rfl, _, _, rfl, rfl, ?_⟩
  have hv1 := dp_mono s1 _ _ hv
  have hm1 := hm.same s1
  have hp1' := s1 _ _ hp1
  have hp2' := s1 _ _ hp2
  have hkv1 := hkv.kt (KT.of s1)
  have htop1 := s1 _ _ htop
  cases R with
  | cw t' m =>
    cases hval
    refine ⟨_, rfl, rfl, _, rfl, ?_⟩
    rw [seq "const"]
    refine iteT ⟨_, rfl, _, 2, _, hv1, rfl, rfl, fun z hz => ?_⟩
    exact tail H1 z s1 hz
  | cf t' k =>
    cases hval
    refine ⟨_, rfl, rfl, _, rfl, ?_⟩
    rw [seq "const"]
    refine iteT ⟨_, rfl, _, 2, _, hv1, rfl, rfl, fun z hz => ?_⟩
    exact tail H1 z s1 hz
  | cp t' u =>
    cases hval
    refine ⟨_, rfl, rfl, _, rfl, ?_⟩
    rw [sne (show ("copy" : Str) ≠ "const" by decide +kernel)]
    refine iteF ?_
    refine ⟨_, rfl, rfl, _, rfl, ?_⟩
    rw [seq "copy"]
    refine iteT ⟨_, rfl, p.1, CF K, d, _, .ref p.2, rfl, hp1', T.cl_Frame, T.no_Frame_variables, rfl, p.2, rfl, .inl ⟨kv, .inl hp2'⟩, _, rfl, _, 2, _, hv1, rfl, rfl, fun z hz => ?_⟩
    cases hz
    have hu10 : u < 10 := by
      rcases hrw.2.2 with ⟨_, h⟩ | ⟨_, rfl⟩
      · omega
      · decide
    rcases hkv1 u hu10 with ⟨y, e, dy⟩ | ⟨e, dy⟩
    · exact ⟨some y, .inl ⟨kv, Sum.inl (u : Int), .inl hp2', rfl, e.symm⟩, tail H1 y s1 dy⟩
    · refine ⟨none, .inl ⟨kv, Sum.inl (u : Int), .inl hp2', rfl, e.symm⟩, tail H1 _ s1 ?_⟩
      show Dp K H1 (.int 0) (f0.h u).D
      rw [dy]
      exact .int 0
  | ld t' c =>
    cases hval
    obtain ⟨v0, v1, c1, c2, c3⟩ := hm1.bs.ce
    refine ⟨_, rfl, rfl, _, rfl, ?_⟩
    rw [sne (show ("load" : Str) ≠ "const" by decide +kernel)]
    refine iteF ?_
    refine ⟨_, rfl, rfl, _, rfl, ?_⟩
    rw [sne (show ("load" : Str) ≠ "copy" by decide +kernel)]
    refine iteF ?_
    refine ⟨_, rfl, rfl, _, rfl, ?_⟩
    rw [seq "load"]
    refine iteT ⟨_, rfl, A.top, CP K, dx, _, .ref A.ce, rfl, htop1, T.cl_Process, T.no_Process_cells, rfl, _, rfl, _, 2, _, hv1, rfl, rfl, fun z hz => ?_⟩
    cases hz
    have hcc : c = 0 ∨ c = 1 := by rcases hrw.2.2 with ⟨_, h⟩ | ⟨_, h⟩ <;> omega
    rcases hcc with rfl | rfl
    · exact ⟨A.ce, v0, rfl, .inl ⟨_, Sum.inl ((0 : Nat) : Int), .inl c1, rfl, (two_get _ _).1.symm⟩, tail H1 _ s1 c2⟩
    · exact ⟨A.ce, v1, rfl, .inl ⟨_, Sum.inl ((1 : Nat) : Int), .inl c1, rfl, (two_get _ _).2.symm⟩, tail H1 _ s1 c3⟩
  | op t' x a b =>
    cases hval
    obtain ⟨_, _, _, hx8, hoa, hob⟩ := hrw
    refine ⟨_, rfl, rfl, _, rfl, ?_⟩
    rw [sne (show ("op" : Str) ≠ "const" by decide +kernel)]
    refine iteF ?_
    refine ⟨_, rfl, rfl, _, rfl, ?_⟩
    rw [sne (show ("op" : Str) ≠ "copy" by decide +kernel)]
    refine iteF ?_
    refine ⟨_, rfl, rfl, _, rfl, ?_⟩
    rw [sne (show ("op" : Str) ≠ "load" by decide +kernel)]
    refine iteF ?_
    refine ⟨_, rfl, rfl, _, rfl, ?_⟩
    rw [seq "op"]
    refine iteT ⟨_, rfl, _, 2, _, hv1, rfl, rfl, fun z hz => ?_⟩
    cases hz
    refine ⟨_, rfl, p.1, d, _, rfl, hp1', rfl, _, rfl, _, 3, _, hv1, rfl, rfl, fun z hz => ?_⟩
    refine ⟨p.1, d, p.2, cv, _, z, _, kv, f0.h, some a, rfl, hp1', hp2', hkv1, hz, opOk_lt hoa, fun y hy => ?_⟩
    obtain ⟨na, rfl, ea, hna⟩ := wv_op hh hoa hy
    refine ⟨_, rfl, p.1, d, _, rfl, hp1', rfl, _, rfl, _, 4, _, hv1, rfl, rfl, fun z hz => ?_⟩
    refine ⟨p.1, d, p.2, cv, _, z, _, kv, f0.h, some b, rfl, hp1', hp2', hkv1, hz, opOk_lt hob, fun y hy => ?_⟩
    obtain ⟨nb, rfl, eb, hnb⟩ := wv_op hh hob hy
    refine ⟨x, na, nb, rfl, hx8, hna, hnb, fun H2 s2 => ?_⟩
    refine tail H2 _ (s1.trans s2) ?_
    rw [ea, eb]
    cases comp x na nb with
    | none => exact .non
    | some m => exact .int (m : Int)
  | rd t' c a =>
    cases hval
    refine ⟨_, rfl, rfl, _, rfl, ?_⟩
    rw [sne (show ("read" : Str) ≠ "const" by decide +kernel)]
    refine iteF ?_
    refine ⟨_, rfl, rfl, _, rfl, ?_⟩
    rw [sne (show ("read" : Str) ≠ "copy" by decide +kernel)]
    refine iteF ?_
    refine ⟨_, rfl, rfl, _, rfl, ?_⟩
    rw [sne (show ("read" : Str) ≠ "load" by decide +kernel)]
    refine iteF ?_
    refine ⟨_, rfl, rfl, _, rfl, ?_⟩
    rw [sne (show ("read" : Str) ≠ "op" by decide +kernel)]
    refine iteF ?_
    refine ⟨_, rfl, A.top, dx, _, rfl, htop1, rfl, _, rfl, _, rfl, im, dx, co, A, p, fa, s, f0, r, t, c, a, n, v, rfl, ⟨hv1, hrow, hn, hm1⟩, fun z hz => tail H1 z s1 hz⟩
  | pr => cases hval
  | st => cases hval
  | wr => cases hval
  | ca => cases hval
  | ap => cases hval
  | ha => cases hval
  | jp => cases hval
  | br => cases hval
  | un => cases hval
  | rt => cases hval
end
end K18

set_option maxHeartbeats 1000000
namespace K18
open PySem PySem.Spec PyProof.Rows L2 HG P18
section
variable {K : PySem.W.Frag} {S : Sh K} {im : Im} {H H' : Hp} {A : Ad} {fa : List (Addr × Addr)} {s : Ms} {fin : V} {n m : Nat}
/-- another value in the first array -/
theorem MsH.putR0 (h : MsH S im H A fa s fin n) (l : List Nat) : MsH S im (upd H A.r0 (.lst (l.map nV))) A fa { s with r0 := l } fin n := by
  have hr : A.r0 ∈ A.base := by simp
  have hm : Mut (H A.r0) := by rw [h.bs.r0]; exact True.intro
  have k := KT.put (o := .lst (l.map nV)) hm
  obtain ⟨v0, v1, c1, c2, c3⟩ := h.bs.ce
  obtain ⟨v, r1, r2⟩ := h.bs.r1
  obtain ⟨vs, w1, w2⟩ := h.bs.wa
  refine h.base hr hm ⟨by rw [upd_ne (show A.top ≠ A.r0 from h.bne 0 3 (by decide) (by decide) (by decide))]; exact h.bs.top, ⟨v0, v1, by rw [upd_ne (show A.ce ≠ A.r0 from h.bne 1 3 (by decide) (by decide) (by decide))]; exact c1, dp_kt k _ _ (nlW _) c2, dp_kt k _ _ (nlW _) c3⟩, by rw [upd_ne (show A.ar ≠ A.r0 from h.bne 2 3 (by decide) (by decide) (by decide))]; exact h.bs.ar, upd_same, ⟨v, by rw [upd_ne (show A.r1 ≠ A.r0 from h.bne 4 3 (by decide) (by decide) (by decide))]; exact r1, dp_kt k _ _ (nlW _) r2⟩, ⟨vs, by rw [upd_ne (show A.wa ≠ A.r0 from h.bne 5 3 (by decide) (by decide) (by decide))]; exact w1, dpAll_kt k _ _ (nlCalls _) w2⟩, by rw [upd_ne (show A.fr ≠ A.r0 from h.bne 6 3 (by decide) (by decide) (by decide))]; exact h.bs.fr, S.keep_mono _ _ (fun a ha o e => by rw [upd_ne (h.base_ex hr ha)]; exact e) k h.bs.ex⟩ rfl
/-- another global -/
theorem MsH.putCe (h : MsH S im H A fa s fin n) {u0 u1 : V} {y0 y1 : Wv} (h0 : Dp K H u0 y0.D) (h1 : Dp K H u1 y1.D) : MsH S im (upd H A.ce (S.ce u0 u1)) A fa { s with c0 := y0, c1 := y1 } fin n := by
  have hr : A.ce ∈ A.base := by simp
  obtain ⟨v0, v1, c1, c2, c3⟩ := h.bs.ce
  have hm : Mut (H A.ce) := by rw [c1]; exact S.mce _ _
  have k := KT.put (o := S.ce u0 u1) hm
  obtain ⟨v, r1, r2⟩ := h.bs.r1
  obtain ⟨vs, w1, w2⟩ := h.bs.wa
  refine h.base hr hm ⟨by rw [upd_ne (show A.top ≠ A.ce from h.bne 0 1 (by decide) (by decide) (by decide))]; exact h.bs.top, ⟨u0, u1, upd_same, dp_kt k _ _ (nlW _) h0, dp_kt k _ _ (nlW _) h1⟩, by rw [upd_ne (show A.ar ≠ A.ce from h.bne 2 1 (by decide) (by decide) (by decide))]; exact h.bs.ar, by rw [upd_ne (show A.r0 ≠ A.ce from h.bne 3 1 (by decide) (by decide) (by decide))]; exact h.bs.r0, ⟨v, by rw [upd_ne (show A.r1 ≠ A.ce from h.bne 4 1 (by decide) (by decide) (by decide))]; exact r1, dp_kt k _ _ (nlW _) r2⟩, ⟨vs, by rw [upd_ne (show A.wa ≠ A.ce from h.bne 5 1 (by decide) (by decide) (by decide))]; exact w1, dpAll_kt k _ _ (nlCalls _) w2⟩, by rw [upd_ne (show A.fr ≠ A.ce from h.bne 6 1 (by decide) (by decide) (by decide))]; exact h.bs.fr, S.keep_mono _ _ (fun a ha o e => by rw [upd_ne (h.base_ex hr ha)]; exact e) k h.bs.ex⟩ rfl
/-- one of the waiting calls goes -/
theorem MsH.putWa (h : MsH S im H A fa s fin n) {us : List V} {cs : List (Nat × List Nat)} (h0 : DpAll K H us (cs.map callD)) : MsH S im (upd H A.wa (.lst us)) A fa { s with calls := cs } fin n := by
  have hr : A.wa ∈ A.base := by simp
  obtain ⟨vs, w1, w2⟩ := h.bs.wa
  have hm : Mut (H A.wa) := by rw [w1]; exact True.intro
  have k := KT.put (o := .lst us) hm
  obtain ⟨v0, v1, c1, c2, c3⟩ := h.bs.ce
  obtain ⟨v, r1, r2⟩ := h.bs.r1
  refine h.base hr hm ⟨by rw [upd_ne (show A.top ≠ A.wa from h.bne 0 5 (by decide) (by decide) (by decide))]; exact h.bs.top, ⟨v0, v1, by rw [upd_ne (show A.ce ≠ A.wa from h.bne 1 5 (by decide) (by decide) (by decide))]; exact c1, dp_kt k _ _ (nlW _) c2, dp_kt k _ _ (nlW _) c3⟩, by rw [upd_ne (show A.ar ≠ A.wa from h.bne 2 5 (by decide) (by decide) (by decide))]; exact h.bs.ar, by rw [upd_ne (show A.r0 ≠ A.wa from h.bne 3 5 (by decide) (by decide) (by decide))]; exact h.bs.r0, ⟨v, by rw [upd_ne (show A.r1 ≠ A.wa from h.bne 4 5 (by decide) (by decide) (by decide))]; exact r1, dp_kt k _ _ (nlW _) r2⟩, ⟨us, upd_same, dpAll_kt k _ _ (nlCalls _) h0⟩, by rw [upd_ne (show A.fr ≠ A.wa from h.bne 6 5 (by decide) (by decide) (by decide))]; exact h.bs.fr, S.keep_mono _ _ (fun a ha o e => by rw [upd_ne (h.base_ex hr ha)]; exact e) k h.bs.ex⟩ rfl
/-- the machine ends -/
theorem MsH.endAt (h : MsH S im H A fa s .non n) {pt : Addr} {us : List V} {e : P18.Fin} {Q : Hp → Prop} (hpt : H pt = none) (hu : DpAll K H us (match e.D with | .tuple ds => ds | _ => [])) (q : Post S im A fa H m Q (.stop e)) : Q (upd (upd H pt (.tup us)) A.top (S.top A (.ref pt))) := by
  have s2 := same_new (o := .tup us) hpt
  have e2 := s2 _ _ h.bs.top
  have hm : Mut ((upd H pt (.tup us)) A.top) := by rw [e2]; exact S.mtop _ _
  have hn : noL e.D = true := by cases e <;> rfl
  have g : Dp K (upd H pt (.tup us)) (.ref pt) e.D := by cases e <;> exact dp_tupN hpt hu
  exact q _ fa (.ref pt) ((Mv.of s2).trans (Mv.put (in_base (by simp)) hm)) upd_same (dp_kt (KT.put hm) _ _ hn g)
/-- the top frame goes on elsewhere -/
theorem MsH.setPc {p : Addr × Addr} {f : Fm} {r : List Fm} {o o' : HO} {cv : V} (h : MsH S im H A (p :: fa) s fin n) (hs : s.fr = f :: r) {pc' : Nat} (h1 : H p.1 = some o) (hm : Mut (some o)) (hcv : Dp K H cv (rowsD im f.k)) (h2 : S.fm o' cv pc' p.2 (optV f.t)) : MsH S im (upd H p.1 o') A (p :: fa) { s with fr := { f with pc := pc' } :: r } fin n := by
  have hm : Mut (H p.1) := by rw [h1]; exact hm
  have k := KT.put (o := o') hm
  have hfm := h.fm
  rw [hs] at hfm
  obtain ⟨_, _, _, _, _, e4⟩ := hfm.1
  obtain ⟨n1, _⟩ := nd_cons.mp h.nd
  exact h.head1 hs ⟨o', cv, upd_same, h2, dp_kt k _ _ (nlRows im f.k) hcv, S.hd_mono _ _ _ _ _ k (upd_ne n1.symm) e4⟩
end
/-- an int for the next instruction -/
theorem ixN_nat {n k : Nat} (h : k < n) : ixN n (k : Int) = some k := by
  unfold ixN
  rw [if_pos (by omega)]
  simp
  omega
def spWrite (K : PySem.W.Frag) : Sp := fun vs H Q _ => ∃ (im : Im) (dx co : Addr) (A : Ad) (p : Addr × Addr) (fa : List (Addr × Addr)) (s : Ms) (f0 : Fm) (r : List Fm) (c : Nat) (a b : Op) (n : Nat) (v : V), vs = [.ref A.top, .ref p.1, v] ∧ Sit K v H im dx co A p fa s f0 r (.wr c a b) n ∧
  Post (ShP K im dx co) im A (p :: fa) H n (Q .non) (stepR im s (adv f0) r (.wr c a b))
def goes : Rw → Bool
  | .jp _ => true
  | .br _ _ => true
  | .un _ _ => true
  | _ => false
def spGo (K : PySem.W.Frag) : Sp := fun vs H Q _ => ∃ (im : Im) (dx co : Addr) (A : Ad) (p : Addr × Addr) (fa : List (Addr × Addr)) (s : Ms) (f0 : Fm) (r : List Fm) (R : Rw) (n : Nat) (v : V), vs = [.ref A.top, .ref p.1, v] ∧ Sit K v H im dx co A p fa s f0 r R n ∧ goes R = true ∧
  Post (ShP K im dx co) im A (p :: fa) H n (Q .non) (stepR im s (adv f0) r R)
section
variable {P : Program} {w : World} {K : PySem.W.Frag} {mg : Str → Option Value} {base : Heap}
set_option pp.maxSteps 600 in
theorem m_Process_write (T : Txt w K mg) : C8.Met P w K mg base 2 (He.ga K "Process") "write" (spWrite K) [] := by
  obtain ⟨fd, F⟩ := T.d_Process_write
  have M_Frame_value := m_Frame_value (P := P) (w := w) (base := base) T
  refine ⟨_, fd, ["self", "frame", "instruction"], [], T.cl_Process, T.m_Process_write, F.ok sc_Process_write (fun vs H Q E h => by repeat (first | (obtain ⟨e, _⟩ := h; subst e; rfl) | (obtain ⟨_, h⟩ := h))) (fun cdv A outer s H vs Q E hr h => ?_), F.bindsN fun _ _ _ _ _ _ us hl => match us, hl with | [_, _, _], _ => rfl, .nil⟩
  obtain ⟨im, dx, co, A, p, fa, s, f0, r, c, a, b, n, v, rfl, ⟨hv, hrow, hn, hm⟩, q⟩ := h
  have hu := hu_of hr
  refine ⟨_, PSs.nox (pss_cons (ps_asg (pv 2) (pg_tupK (K := K) (n := 4) rfl rfl (pgs_cons (pg_name (i := 3) sc_Process_write.nd rfl (.inl rfl)) (pgs_cons (pg_name (i := 4) sc_Process_write.nd rfl (.inl rfl)) (pgs_cons (pg_name (i := 5) sc_Process_write.nd rfl (.inl rfl)) (pgs_cons (pg_name (i := 6) sc_Process_write.nd rfl (.inl rfl)) pgs_nil))))))
      (pss_cons (ps_set (i := 7) sc_Process_write.nd rfl (.inl rfl) (C8.pe_mt M_Frame_value hr (by omega) (pv 1) (pa_cons (pv 5) pa_nil)))
      (pss_one (ps_if (pt_cmpR op_ge (pv 7) (pe_callB (lenK (K := K) rfl) (by rfl) T.n_len (by decide +kernel) (pa_cons (pe_dget hu (pe_fld (pv 0) rfl) (pv 4) (fun _ _ => rfl)) pa_nil)) (nomark _)) (pss_one (ps_fld (pv 0) (pe_tup (pa_cons pe_str (pa_cons pe_str pa_nil))) (by rfl))) (pss_one (ps_asg (C8.pe_mt M_Frame_value hr (by omega) (pv 1) (pa_cons (pv 6) pa_nil)) (pg_sub (pe_dget hu (pe_fld (pv 0) rfl) (pv 4) (fun _ _ => rfl)) (pv 7) set_list))))))), ?_⟩
  obtain ⟨d, cv, kv, hp1, hcv, hp2, hkl, hkv⟩ := top_at hm
  obtain ⟨cd, _, _, hh, ⟨_, _, rfl, hoa, hob⟩, _⟩ := hrow.cd
  have htop := hm.bs.top
  have har := hm.bs.ar
  have hr0 := hm.bs.r0
  cases hv with
  | @tup za zs _ zq zz =>
  cases zz with
  | cons h1 t1 =>
  cases t1 with
  | cons h2 t2 =>
  cases t2 with
  | cons h3 t3 =>
  cases t3 with
  | cons h4 t4 =>
  cases t4
  cases h1
  cases h2
  refine ⟨_, rfl, za, _, rfl, zq, rfl, _, _, rfl, _, _, rfl, _, _, rfl, _, _, rfl, rfl, ?_⟩
  refine ⟨_, rfl, p.1, d, _, rfl, hp1, rfl, _, rfl, ?_⟩
  refine ⟨p.1, d, p.2, cv, _, _, _, kv, f0.h, some a, rfl, hp1, hp2, hkv, h3, opOk_lt hoa, fun y hy => ?_⟩
  obtain ⟨na, rfl, ea, hna⟩ := wv_op hh hoa hy
  have dg : DGet H A.ar (.int ((0 : Nat) : Int)) (some (.ref A.r0)) := .inl ⟨_, Sum.inl ((0 : Nat) : Int), .inl har, rfl, (two_get _ _).1.symm⟩
  refine ⟨_, rfl, _, rfl, A.top, CP K, dx, _, .ref A.ar, rfl, htop, T.cl_Process, T.no_Process_arrays, rfl, _, rfl, A.ar, .ref A.r0, rfl, dg, ?_⟩
  refine ⟨.ref A.r0, (s.r0.map nV).length, rfl, .inl ⟨_, .inl (.inl hr0), rfl⟩, ?_⟩
  rw [List.length_map]
  refine ⟨_, _, rfl, rfl, _, rfl, ?_⟩
  show if decide ((s.r0.length : Int) ≤ (na : Int)) = true then _ else _
  have q : Post (ShP K im dx co) im A (p :: fa) H n (Q .non) (if (worth f0.h a).n < s.r0.length then .go { s with fr := adv f0 :: r, r0 := s.r0.set (worth f0.h a).n (worth f0.h b).n } none else .stop (.trap "bounds")) := q
  rw [ea] at q
  by_cases hl : na < s.r0.length
  · rw [if_pos (show (Wv.w na).n < s.r0.length from hl)] at q
    rw [decide_eq_false (show ¬ (s.r0.length : Int) ≤ (na : Int) by omega)]
    refine iteF ⟨_, rfl, p.1, d, _, rfl, hp1, rfl, _, rfl, ?_⟩
    refine ⟨p.1, d, p.2, cv, _, _, _, kv, f0.h, some b, rfl, hp1, hp2, hkv, h4, opOk_lt hob, fun y hy => ?_⟩
    obtain ⟨nb, rfl, eb, hnb⟩ := wv_op hh hob hy
    rw [eb] at q
    refine ⟨_, rfl, A.top, CP K, dx, _, .ref A.ar, rfl, htop, T.cl_Process, T.no_Process_arrays, rfl, _, rfl, A.ar, .ref A.r0, rfl, dg, _, rfl, A.r0, _, _, na, rfl, rfl, hr0, ixN_nat (by rw [List.length_map]; exact hl), ?_⟩
    rw [← List.map_set]
    exact q _ (p :: fa) (Mv.put (in_base (by simp)) (by rw [hr0]; exact True.intro)) ((hm.putR0 (s.r0.set na nb)).up (Nat.le_succ n))
  · rw [if_neg (show ¬ (Wv.w na).n < s.r0.length from hl)] at q
    rw [decide_eq_true (show (s.r0.length : Int) ≤ (na : Int) by omega)]
    exact iteT ⟨(by show 2 ≤ sizeLine; decide), fun pt hpt => ⟨_, rfl, A.top, CP K, dx, _, rfl, upd_get hpt htop, T.cl_Process, T.no_Process_end, (by show 6 < 1000; decide), hm.endAt hpt (.cons (.str _) (.cons (.str _) .nil)) q⟩⟩
set_option pp.maxSteps 600 in
theorem m_Process_go (T : Txt w K mg) : C8.Met P w K mg base 2 (He.ga K "Process") "go" (spGo K) [] := by
  obtain ⟨fd, F⟩ := T.d_Process_go
  have M_Frame_value := m_Frame_value (P := P) (w := w) (base := base) T
  refine ⟨_, fd, ["self", "frame", "instruction"], [], T.cl_Process, T.m_Process_go, F.ok sc_Process_go (fun vs H Q E h => by repeat (first | (obtain ⟨e, _⟩ := h; subst e; rfl) | (obtain ⟨_, h⟩ := h))) (fun cdv A outer s H vs Q E hr h => ?_), F.bindsN fun _ _ _ _ _ _ us hl => match us, hl with | [_, _, _], _ => rfl, .nil⟩
  obtain ⟨im, dx, co, A, p, fa, s, f0, r, R, n, v, rfl, ⟨hv, hrow, hn, hm⟩, hgo, q⟩ := h
  have hu := hu_of hr
  refine ⟨_, PSs.nox (pss_cons (ps_set (i := 3) sc_Process_go.nd rfl (.inl rfl) (pe_ix (ix_P (K := K) rfl) (pv 2) pe_int (fun _ _ => rfl)))
      (pss_cons (ps_if (pt_cmpR op_eq (pv 3) pe_str (nomark _)) (pss_cons (ps_fld (pv 1) (pe_ix (ix_P (K := K) rfl) (pv 2) pe_int (fun _ _ => rfl)) (by rfl))
      (pss_one ps_retN)) pss_nil)
      (pss_cons (ps_set (i := 4) sc_Process_go.nd rfl (.inl rfl) (pe_cmpR op_eq (pe_cmpR op_ne (C8.pe_mt M_Frame_value hr (by omega) (pv 1) (pa_cons (pe_ix (ix_P (K := K) rfl) (pv 2) pe_int (fun _ _ => rfl)) pa_nil)) pe_int (nomark _)) (pe_cmpR op_eq (pv 3) pe_str (nomark _)) (nomark _)))
      (pss_one (ps_if (pt_val (pv 4)) (pss_one (ps_fld (pv 1) (pe_ix (ix_P (K := K) rfl) (pv 2) pe_int (fun _ _ => rfl)) (by rfl))) (pss_one (ps_if (pt_cmpR op_eq (pe_callB (lenK (K := K) rfl) (by rfl) T.n_len (by decide +kernel) (pa_cons (pv 2) pa_nil)) pe_int (nomark _)) (pss_one (ps_fld (pv 1) (pe_ix (ix_P (K := K) rfl) (pv 2) pe_int (fun _ _ => rfl)) (by rfl))) pss_nil))))))), ?_⟩
  obtain ⟨d, cv, kv, hp1, hcv, hp2, hkl, hkv⟩ := top_at hm
  obtain ⟨cd, _, _, hh, hrw, _⟩ := hrow.cd
  refine ⟨_, rfl, _, 0, _, hv, rfl, rfl, fun z hz => ?_⟩
  cases hz
  have pcO : ∀ n' : Nat, HO.ins (CF K) d (putF "next" (.int (n' : Int)) [("code", cv), ("variables", .ref p.2), ("target", optV (adv f0).t), ("next", .int ((adv f0).pc : Int))]) = FmO K d cv n' p.2 (optV f0.t) := fun _ => rfl
  have jump : ∀ n' : Nat, Mv (allA (ShP K im dx co) A (p :: fa)) H (allA (ShP K im dx co) A (p :: fa)) (upd H p.1 (FmO K d cv n' p.2 (optV f0.t))) ∧ MsH (ShP K im dx co) im (upd H p.1 (FmO K d cv n' p.2 (optV f0.t))) A (p :: fa) { s with fr := { adv f0 with pc := n' } :: r } .non (n + 1) := fun n' =>
    ⟨Mv.put (in_fa1 List.mem_cons_self) (by rw [hp1]; exact True.intro), (hm.setPc rfl hp1 True.intro hcv ⟨d, rfl⟩).up (Nat.le_succ n)⟩
  cases R with
  | jp m =>
    refine ⟨_, rfl, rfl, _, rfl, ?_⟩
    rw [seq "jump"]
    refine iteT ⟨_, rfl, _, 1, _, hv, rfl, rfl, fun z hz => ?_⟩
    cases hz
    refine ⟨_, rfl, p.1, CF K, d, _, rfl, hp1, T.cl_Frame, T.no_Frame_next, (by show 4 < 1000; decide), ?_⟩
    exact q _ _ (jump m).1 (jump m).2
  | br a m =>
    refine ⟨_, rfl, rfl, _, rfl, ?_⟩
    rw [sne (show ("branch" : Str) ≠ "jump" by decide +kernel)]
    refine iteF ⟨_, rfl, p.1, d, _, rfl, hp1, rfl, _, rfl, _, 1, _, hv, rfl, rfl, fun z hz => ?_⟩
    obtain ⟨_, _, hoa, _⟩ := hrw
    refine ⟨p.1, d, p.2, cv, _, z, _, kv, f0.h, some a, rfl, hp1, hp2, hkv, hz, opOk_lt hoa, fun y hy => ?_⟩
    obtain ⟨na, rfl, ea, hna⟩ := wv_op hh hoa hy
    refine ⟨rfl, _, rfl, rfl, rfl, _, rfl, _, rfl, ?_⟩
    show if decide (V.bl (!decide (nV na = V.int 0)) = V.bl (decide (V.str "branch" = V.str "branch"))) = true then _ else _
    rw [seq "branch"]
    have q : Post (ShP K im dx co) im A (p :: fa) H n (Q .non) (.go { s with fr := (if (worth f0.h a).n = 0 then adv f0 else { adv f0 with pc := m }) :: r } none) := q
    rw [ea] at q
    by_cases h0 : na = 0
    · rw [if_pos (show (Wv.w na).n = 0 from h0)] at q
      rw [show decide (nV na = V.int 0) = true from decide_eq_true (by rw [h0]; rfl)]
      refine iteF ⟨_, rfl, v, 3, rfl, ?_, rfl, _, rfl, iteF ?_⟩
      · cases hv with
        | @tup za zs _ zq zz => exact .inr ⟨zs, zq, (dpAll_len zz).symm⟩
      · exact q _ (p :: fa) Mv.refl (hm.up (Nat.le_succ n))
    · rw [if_neg (show ¬ (Wv.w na).n = 0 from h0)] at q
      rw [show decide (nV na = V.int 0) = false from ne_int (b := 0) h0]
      refine iteT ⟨_, rfl, _, 2, _, hv, rfl, rfl, fun z hz => ?_⟩
      cases hz
      refine ⟨_, rfl, p.1, CF K, d, _, rfl, hp1, T.cl_Frame, T.no_Frame_next, (by show 4 < 1000; decide), ?_⟩
      exact q _ _ (jump m).1 (jump m).2
  | un u m =>
    refine ⟨_, rfl, rfl, _, rfl, ?_⟩
    rw [sne (show ("unless" : Str) ≠ "jump" by decide +kernel)]
    refine iteF ⟨_, rfl, p.1, d, _, rfl, hp1, rfl, _, rfl, _, 1, _, hv, rfl, rfl, fun z hz => ?_⟩
    obtain ⟨_, _, hu4, _⟩ := hrw
    have hoa : OpOk (.v u) := hu4
    refine ⟨p.1, d, p.2, cv, _, z, _, kv, f0.h, some (.v u), rfl, hp1, hp2, hkv, hz, opOk_lt hoa, fun y hy => ?_⟩
    obtain ⟨na, rfl, ea, hna⟩ := wv_op hh hoa hy
    have ea : f0.h u = .w na := ea
    refine ⟨rfl, _, rfl, rfl, rfl, _, rfl, _, rfl, ?_⟩
    show if decide (V.bl (!decide (nV na = V.int 0)) = V.bl (decide (V.str "unless" = V.str "branch"))) = true then _ else _
    rw [sne (show ("unless" : Str) ≠ "branch" by decide +kernel)]
    have q : Post (ShP K im dx co) im A (p :: fa) H n (Q .non) (.go { s with fr := (if (f0.h u).n = 0 then { adv f0 with pc := m } else adv f0) :: r } none) := q
    rw [ea] at q
    by_cases h0 : na = 0
    · rw [if_pos (show (Wv.w na).n = 0 from h0)] at q
      rw [show decide (nV na = V.int 0) = true from decide_eq_true (by rw [h0]; rfl)]
      refine iteT ⟨_, rfl, _, 2, _, hv, rfl, rfl, fun z hz => ?_⟩
      cases hz
      refine ⟨_, rfl, p.1, CF K, d, _, rfl, hp1, T.cl_Frame, T.no_Frame_next, (by show 4 < 1000; decide), ?_⟩
      exact q _ _ (jump m).1 (jump m).2
    · rw [if_neg (show ¬ (Wv.w na).n = 0 from h0)] at q
      rw [show decide (nV na = V.int 0) = false from ne_int (b := 0) h0]
      refine iteF ⟨_, rfl, v, 3, rfl, ?_, rfl, _, rfl, iteF ?_⟩
      · cases hv with
        | @tup za zs _ zq zz => exact .inr ⟨zs, zq, (dpAll_len zz).symm⟩
      · exact q _ (p :: fa) Mv.refl (hm.up (Nat.le_succ n))
  | _ => cases hgo
end
end K18

set_option maxHeartbeats 4000000
/-! HM: for k, x in enumerate(tuple). -/
namespace HG
open PySem PySem.Spec PyProof.Rows L2
theorem meets_enumerate_newT (t : Addr) (items : Array Value) (n : Nat) (dct : Option Addr) (sl : Array (Option Value)) :
    Meets (Builtin.«enumerate.__new__» ⟨[.type "enumerate", .ref t], []⟩) (fun _ R s => s.heap.get? t = some { cls := .type "tuple", dict := dct, data := .seq items n, slots := sl } ∧
      R (.ok (.ret (.ref (s.heap.push { cls := .type "tuple_iterator", data := .fields #[.ref t, .int 0 0] }).objs.size)))
        { s with heap := (s.heap.push { cls := .type "tuple_iterator", data := .fields #[.ref t, .int 0 0] }).push { cls := .type "enumerate", data := .fields #[.none, .bool false, .ref s.heap.objs.size, rawInt 0, .none, .none] } }) :=
  .of_wp fun prog w A R s h => by
    obtain ⟨hp, g, d, tk, os⟩ := s; obtain ⟨hl, h⟩ := h
    have hsub := sub_enumerate
    have hT : Heap.IsTuple (Shared.heap ⟨hp, g, d, tk, os⟩) t items := ⟨_, hl, rfl, n, rfl⟩
    have q1 : ∀ {A' : Around} {E : Value → Shared → Prop} {Q : Value → Shared → Prop}, Q (.ref hp.objs.size) ⟨hp.push { cls := .type "tuple_iterator", data := .fields #[.ref t, .int 0 0] }, g, d, tk, os⟩ → wpAny (model prog w) A' (pyIter (.ref t)) Q E ⟨hp, g, d, tk, os⟩ :=
      fun q => wpAny_pyIter_tuple hT q
    wp_walk using q1
    refine wpAny_stack_any fun st => wpAny_pure ?_
    split
    · rename_i c _ _ _ _ _
      cases (c == Value.type "enumerate")
      · wp_walk using q1
        exact ⟨_, rfl, h⟩
      · wp_walk using q1
        exact ⟨_, rfl, h⟩
    · wp_walk using q1
      exact ⟨_, rfl, h⟩
theorem call_enumerate_tup {prog : Program} {w : World} {A : Around} {E : Value → Shared → Prop} {s : Shared} {l : Addr} {items : Array Value} {Q : Value → Shared → Prop} (hL : s.heap.IsTuple l items)
    (h : ∀ h', IsEnum h' (s.heap.objs.size + 1) s.heap.objs.size 0 .none → h'.IsTupleIter s.heap.objs.size l 0 → h'.objs.size = s.heap.objs.size + 2 →
      (∀ b o, s.heap.get? b = some o → h'.get? b = some o) → Q (.ref (s.heap.objs.size + 1)) { s with heap := h' }) :
    wpAny (model prog w) A (call (.type "enumerate") [.ref l]) Q E s := by
  obtain ⟨⟨c, dct, dt, sl⟩, hl, hc, n, hd⟩ := hL
  replace hc : c = .type "tuple" := hc
  replace hd : dt = .seq items n := hd
  subst hc hd
  refine callType_new F.called_enumerate (by decide) (F.typeCall_enumerate_1 _) (F.newCall_enumerate_1 _) (fun obj => F.args_object_init_2 obj _) F.entry_enumerate_new
    (meets_enumerate_newT l items n dct sl) ⟨hl, ?_⟩
  have hz : (s.heap.push { cls := .type "tuple_iterator", data := .fields #[.ref l, .int 0 0] }).objs.size = s.heap.objs.size + 1 := Heap.size_push ..
  show _ ∧ _
  rw [hz]
  have he : IsEnum ((s.heap.push { cls := .type "tuple_iterator", data := .fields #[.ref l, .int 0 0] }).push
      { cls := .type "enumerate", data := .fields #[.none, .bool false, .ref s.heap.objs.size, rawInt 0, .none, .none] }) (s.heap.objs.size + 1) s.heap.objs.size 0 .none := by
    have := Heap.get?_push_size (s.heap.push { cls := .type "tuple_iterator", data := .fields #[.ref l, .int 0 0] })
      (o := { cls := .type "enumerate", data := .fields #[.none, .bool false, .ref s.heap.objs.size, rawInt 0, .none, .none] }) rfl
    rw [hz] at this; exact this
  refine ⟨⟨_, he, rfl⟩, h _ he ⟨_, Heap.get?_push_of_some _ (Heap.get?_push_size _ rfl), rfl, rfl⟩ (by rw [Heap.size_push, hz]) fun b o x => Heap.get?_push_of_some _ (Heap.get?_push_of_some _ x)⟩
def IteT (K : PySem.W.Frag) (a : Addr) : It :=
  ⟨fun i H => ∃ (xs : List V) (x : V), SqT K H a xs ∧ xs[i]? = some x, fun i H v H' => ∃ T x, v = .ref T ∧ H T = none ∧ H' = upd H T (.tup [.int (i : Nat), x]) ∧ ∀ xs, SqT K H a xs → xs[i]? = some x, fun i H => ∃ xs : List V, SqT K H a xs ∧ xs.length ≤ i⟩
theorem turn_enumT {P : Program} {w : World} {K : PySem.W.Frag} {elts : List Expr} {kk : Nat} {tpos : Pos} (a e it : Addr) :
    Turn P w K (.Tuple elts kk tpos) (IteT K a) [e, it] e (fun i h => (∃ old, IsEnum h e it ((i : Nat) : Int) old) ∧ h.IsTupleIter it a i ∧ e ≠ it) where
  mem := by simp
  obj := fun i h st b hb => by
    obtain ⟨⟨old, he⟩, ⟨o, ho, hc, hd⟩, _⟩ := st
    have e' : b = e ∨ b = it := by simpa using hb
    rcases e' with z | z
    · rw [z]; exact ⟨_, he, fun v q => nomatch q⟩
    · rw [z]; exact ⟨o, ho, fun v q => by rw [hd] at q; cases q⟩
  keep := fun i h h' st k => let ⟨⟨old, he⟩, hi, hne⟩ := st; ⟨⟨old, k e (by simp) _ he⟩, hi.at fun o q => k it (by simp) o q, hne⟩
  item := by
    intro X hP hw hK hc i pins s σ H E I hf st hg
    subst hP hw hK
    obtain ⟨⟨old, he⟩, hit, hne⟩ := st
    obtain ⟨xs, x, hq, hx⟩ := hg
    obtain ⟨its, rv, p, hz⟩ := I.tuple hq
    obtain ⟨u, hu, ru⟩ := rv.get hx
    have hel : e < s.heap.objs.size := Heap.lt_size he
    have hil : it < s.heap.objs.size := by obtain ⟨_, q, _⟩ := hit; exact Heap.lt_size q
    have hai : a ≠ it := fun z => by
      obtain ⟨o, q, c1, _⟩ := hit
      obtain ⟨o2, q2, c2, _⟩ := p
      rw [z] at q2
      rw [q] at q2
      cases q2
      rw [c1] at c2
      exact absurd c2 (by decide)
    have hae : a ≠ e := fun z => by
      obtain ⟨o2, q2, c2, _⟩ := p
      rw [z] at q2
      have he' : s.heap.get? e = some _ := he
      rw [he'] at q2
      cases q2
      exact absurd (show Value.type "enumerate" = Value.type "tuple" from c2) (by decide)
    have hlt : i < its.toArray.size := by
      have := (List.getElem?_eq_some_iff.mp hu).1
      simpa using this
    refine wpAny_pyNext_enum_itemD (Draws.tuple (A := X.A.in1) (I.ok.hd hc) it a hai its.toArray) he ⟨hit, p⟩ hlt hne (by simp; exact ⟨hne, fun z => hae z.symm⟩) fun u' h' tk hu' ho hst hT hsz hk => ?_
    obtain ⟨hit', _⟩ := hst
    have eu : u' = u := by
      have h1 : its.toArray[i]? = some u' := hu'
      have h2 : its.toArray[i]? = some u := by simpa using hu
      rw [h2] at h1
      cases h1
      rfl
    subst eu
    refine ⟨_, rfl, wpAny_letOwnedTupleGo_enum (s := { s with heap := h', toks := tk + 1 }) ho fun h'' he' sb => ?_⟩
    have hT2 : h''.get? s.heap.objs.size = some { cls := .type "tuple", data := .seq #[.int i tk, u'] } := (sb.2 _ (Nat.ne_of_gt hel)).trans hT
    have new : ObjOk X.prog X.w (upd H s.heap.objs.size (.tup [.int (i : Nat), x])) h'' s.heap.objs.size (.tup [.int (i : Nat), x]) :=
      ⟨by show 2 ≤ sizeLine; decide, [.int i tk, u'], .cons ⟨_, rfl⟩ (.cons ru .nil), ⟨_, hT2, rfl, _, rfl⟩⟩
    have I1 : Inv X pins σ (upd H s.heap.objs.size (.tup [.int (i : Nat), x])) { s with heap := h'', toks := tk + 1 } :=
      I.turnedNew (ch := [e, it]) (fun b ob hb q => (sb.2 b (fun z => hb (by simp [z]))).trans (hk b ob (fun z => hb (by simp [z])) (fun z => hb (by simp [z])) q)) hf (Nat.le_refl _) new
    refine ⟨.ref s.heap.objs.size, _, I1, rfl, ⟨_, x, rfl, I.hok.fresh (Nat.le_refl _), rfl, fun ys hy => by rw [I.tuple_inj hy hq]; exact hx⟩, ⟨⟨u', ?_⟩, hit'.at fun o q => (sb.2 it (Ne.symm hne)).trans q, hne⟩, fun b hb => ?_⟩
    · have e1 : ((i + 1 : Nat) : Int) = (i : Int) + 1 := by omega
      rw [e1]; exact he'
    · have hb' : b < s.heap.objs.size := by
        have e' : b = e ∨ b = it := by simpa using hb
        rcases e' with z | z
        · rw [z]; exact hel
        · rw [z]; exact hil
      rw [upd_ne (Nat.ne_of_lt hb')]
      exact (hf b hb).1
  done := by
    intro X hP hw hK hc i pins s σ H E I hf st hg
    subst hP hw hK
    obtain ⟨⟨old, he⟩, hit, hne⟩ := st
    obtain ⟨xs, hq, hx⟩ := hg
    obtain ⟨its, rv, p, hz⟩ := I.tuple hq
    obtain ⟨f0, f1, f2, f3, f4, f5⟩ := hf it (by simp)
    have hl := rv.length
    have hT : s.TypeIs (.ref e) "enumerate" := ⟨_, he, rfl⟩
    unfold pyNext
    refine wpAny_bind (wpAny_attempt (wpAny_callSpecial?_slot (name := Str.ofString "__next__") hT F.slot_enumerate_next
      (wpAny_call_entry F.slot_enumerate_next hT F.entry_enumerate_next ?_ (F.args_enumerate_next_1 _))))
    show wpAny _ _ (field (.ref e) 2 >>= _) _ _ _
    refine wpAny_bind (wpAny_field he rfl (x := .ref it) rfl ?_)
    refine wpAny_bind (wpAny_nextOf_tuple_end (I.ok.hd hc) hit p (by simp; omega) fun h' x he' hx' => ?_)
    obtain ⟨o, ho, hc⟩ := hx'
    refine wpAny_bind (wpAny_isInstance (T := "StopIteration") (b := true) ⟨o, ho, hc⟩ isSubtype_stop ?_)
    exact wpAny_pure ⟨rfl, I.turned (t' := s.toks) (fun b o hb q => he' b o hb q) f0 f1 f3 f4 f5⟩
  self := fun A i s Q E st h => let ⟨⟨_, he⟩, _⟩ := st; wpAny_pyIter_enum he h
def iEnumT (K : PySem.W.Frag) (ta : TA) : TI := fun σ H R => ta σ H fun vs H1 => ∃ a xs, vs = [.ref a] ∧ SqT K H1 a xs ∧ R (IteT K a) H1
theorem pi_enumT {X : Cx} {e : Expr} {ta : TA} {p pos tpos : Pos} {elts : List Expr} {kk : Nat} (hg : Gl X "enumerate") (hm : X.mg "enumerate" = none) (ha : PA X [e] ta) (hs : starEach [e] X.env = [(false, eval e X.env)] := by rfl) :
    PI X (.Tuple elts kk tpos) (.Call (.Name "enumerate" p) [e] [] pos) (iEnumT X.K ta) := by
  refine ⟨fun pins s σ H R I h => ?_⟩
  refine Call_ (ld_blt I hg hm boot_enumerate (PyProof.Rows.callWith_type1 (thn (ha.run pos pins s σ H _ I h) fun us s1 ⟨vs, H1, I1, r1, q1⟩ => ?_) hs rfl))
  obtain ⟨a, xs, ex, hq, q⟩ := q1
  subst ex
  cases r1 with
  | cons r rr =>
    cases rr
    cases r
    obtain ⟨its, rv, p', hz⟩ := I1.tuple hq
    refine call_enumerate_tup p' fun h' he hit hsz hk => wpAny_pyIter_enum he ?_
    have I2 : Inv X pins σ H1 { s1 with heap := h' } := I1.kept (t' := s1.toks) hk
    refine ⟨s1.heap.objs.size + 1, [s1.heap.objs.size + 1, s1.heap.objs.size], _, _, H1, rfl, I2, turn_enumT a (s1.heap.objs.size + 1) s1.heap.objs.size, ⟨⟨.none, he⟩, hit, Nat.succ_ne_self _⟩, fun b hb => ?_, q⟩
    have e' : b = s1.heap.objs.size + 1 ∨ b = s1.heap.objs.size := by simpa using hb
    have hle : s1.heap.objs.size ≤ b := by
      rcases e' with z | z
      · rw [z]; exact Nat.le_add_right _ _
      · rw [z]; exact Nat.le_refl _
    exact I1.fpOk hle (I1.hok.fresh hle)
theorem walk_enumT {K : PySem.W.Frag} {a : Addr} {xs : List V} : Walk (IteT K a) xs.length (fun H => SqT K H a xs) (YPair (fun i => some (.int (i : Nat))) (fun i => xs[i]?)) := by
  refine ⟨fun i _ hi q => ⟨xs, xs[i], q, by simp [hi]⟩, fun _ q => ⟨xs, q, Nat.le_refl _⟩, fun i H v H' _ q y => ?_⟩
  obtain ⟨T, x, h1, h2, h3, h4⟩ := y
  exact ⟨T, .int (i : Nat), x, h1, h2, h3, rfl, h4 xs q⟩
theorem walk_zipT {K : PySem.W.Frag} {a b : Addr} {xs ys : List V} {n : Nat} (hn : n = min xs.length ys.length) : Walk (RZ.ItzT K a b) n (fun H => SqT K H a xs ∧ SqT K H b ys) (YPair (fun i => xs[i]?) (fun i => ys[i]?)) := by
  subst hn
  refine ⟨fun i _ hi q => ?_, fun _ q => ⟨xs, ys, q.1, q.2, by omega⟩, fun i H v H' _ q y => ?_⟩
  · have h1 : i < xs.length := by omega
    have h2 : i < ys.length := by omega
    exact ⟨xs, ys, xs[i], ys[i], q.1, q.2, by simp [h1], by simp [h2]⟩
  · obtain ⟨T, x, z, h1, h2, h3, h4, h5⟩ := y
    exact ⟨T, x, z, h1, h2, h3, h4 xs q.1, h5 ys q.2⟩
end HG

set_option maxHeartbeats 4000000
/-! HZip: zip of a tuple and a list: what an iterator gives is told by Src; one proof for any two of them. -/
namespace HZ2
open PySem PySem.Spec PyProof.Rows L2
/-- an iterator at j over the items us that stand at m -/
structure Src (j m : Addr) (us : Array Value) (I : Nat → Heap → Prop) (M : Heap → Prop) : Prop where
  ki : ∀ {n : Nat} {f g : Heap}, I n f → (∀ ob, f.get? j = some ob → g.get? j = some ob) → I n g
  km : ∀ {f g : Heap}, M f → (∀ ob, f.get? m = some ob → g.get? m = some ob) → M g
  th : ∀ {n : Nat} {f : Heap}, I n f → ∃ ob, f.get? j = some ob ∧ ∀ v, ob.data ≠ .seq v 0
  step : ∀ {p : Program} {w : World} {A : Around} {E : Value → Shared → Prop} {t : Shared} {n : Nat} {u : Value} {Q : Value → Shared → Prop}, I n t.heap → M t.heap → us[n]? = some u →
    (∀ g, I (n + 1) g → Heap.SameBut j t.heap g → Q u { t with heap := g }) → wpAny (model p w) A (Builtin.SmallTypes.nextOf (.ref j)) Q E t
  halt : ∀ {p : Program} {w : World} {A : Around} {E : Value → Shared → Prop} {t : Shared} {n : Nat} {Q : Value → Shared → Prop}, A.handled = none → I n t.heap → M t.heap → us[n]? = none →
    (∀ g e, Heap.ExtBut j t.heap g → (∃ ob, g.get? e = some ob ∧ ob.cls = .type "StopIteration") → E (.ref e) { t with heap := g }) → wpAny (model p w) A (Builtin.SmallTypes.nextOf (.ref j)) Q E t
theorem src_tup (j m : Addr) (us : Array Value) : Src j m us (fun n f => f.IsTupleIter j m n) (fun f => f.IsTuple m us) where
  ki := fun a b => a.at b
  km := fun ⟨ob, e, r⟩ b => ⟨ob, b _ e, r⟩
  th := fun ⟨ob, e, _, d⟩ => ⟨ob, e, fun v z => by rw [d] at z; cases z⟩
  step := fun a b c d => RZ.nextOf_tuple_item a b c d
  halt := fun a b c d e => RZ.nextOf_tuple_end a b c d e
theorem src_lst (j m : Addr) (us : Array Value) : Src j m us (fun n f => f.IsListIter j m n) (fun f => f.IsList m us) where
  ki := fun a b => a.at b
  km := fun ⟨ob, e, r⟩ b => ⟨ob, b _ e, r⟩
  th := fun ⟨ob, e, _, d⟩ => ⟨ob, e, fun v z => by rw [d] at z; cases z⟩
  step := fun a b c d => wpAny_nextOf_list_item a b c d
  halt := fun a b c d e => wpAny_nextOf_list_end a b c d e
section
variable {p : Program} {w : World} {A : Around} {E : Value → Shared → Prop} {t : Shared} {z q1 q2 j1 j2 m1 m2 : Addr} {us vs : Array Value} {I1 I2 : Nat → Heap → Prop} {M1 M2 : Heap → Prop} {n1 n2 : Nat} {c0 c1 : Value}
/-- what stands where while it runs -/
structure Zs (z q1 q2 j1 j2 : Addr) (I1 I2 : Nat → Heap → Prop) (M1 M2 : Heap → Prop) (n1 n2 : Nat) (c0 c1 fz : Value) (h : Heap) : Prop where
  z : IsZip h z q1 q2 fz
  a : IsPair h q1 (.ref j1) (.ref j2)
  b : IsPair h q2 c0 c1
  i1 : I1 n1 h
  i2 : I2 n2 h
  m1 : M1 h
  m2 : M2 h
theorem into (S1 : Src j1 m1 us I1 M1) (S2 : Src j2 m2 vs I2 M2) (D : ZipApart z q1 q2 j1 j2 m1 m2) {Q : Fin → Shared → Prop} (B : Zs z q1 q2 j1 j2 I1 I2 M1 M2 n1 n2 c0 c1 .none t.heap)
    (full : ∀ u v, us[n1]? = some u → vs[n2]? = some v → ∀ g, IsZip g z q1 q2 (rawInt t.heap.objs.size) → IsPair g q2 u v → I1 (n1 + 1) g → I2 (n2 + 1) g → IsPair g t.heap.objs.size u v → g.objs.size = t.heap.objs.size + 1 →
      (∀ b ob, b ≠ z → b ≠ q2 → b ≠ j1 → b ≠ j2 → t.heap.get? b = some ob → g.get? b = some ob) → Q (.done (.ret (.ref t.heap.objs.size))) { t with heap := g })
    (hh : us[n1]? = none ∨ vs[n2]? = none → A.handled = none)
    (out : us[n1]? = none ∨ vs[n2]? = none → ∀ g e, (∀ b ob, b ≠ z → b ≠ q2 → b ≠ j1 → b ≠ j2 → t.heap.get? b = some ob → g.get? b = some ob) → (∃ ob, g.get? e = some ob ∧ ob.cls = .type "StopIteration") → E (.ref e) { t with heap := g }) :
    wpAny (model p w) A (Builtin.«zip.__next__» ⟨[.ref z], []⟩) Q E t := by
  obtain ⟨B1, B2, B3, B4, B5, B6, B7⟩ := B
  show wpAny _ _ (field (Value.ref z) 2 >>= _) _ _ t
  refine wpAny_bind (wpAny_field B1 rfl (x := Value.bool false) rfl ?_)
  show wpAny _ _ (field (Value.ref z) 3 >>= _) _ _ t
  refine wpAny_bind (wpAny_field B1 rfl (x := Value.ref q1) rfl (wpAny_bind (wpAny_seqItems B2 rfl ?_)))
  show wpAny _ _ (Builtin.SmallTypes.ownedTupleIsFree (Value.ref z) >>= _) _ _ t
  refine wpAny_bind ?_
  unfold Builtin.SmallTypes.ownedTupleIsFree
  refine wpAny_bind (wpAny_field B1 rfl (x := Value.none) rfl (wpAny_pure ?_))
  simp only [if_true]
  refine wpAny_bind (wpAny_rule (wpAny_bind (wpAny_field B1 rfl (x := Value.ref q2) rfl (wpAny_bind (wpAny_setField_rec B1 (by simp) fun ga Z1 S => ?_)))))
  replace Z1 : IsZip ga z q1 q2 .ellipsis := Z1
  have X1 := S.extBut
  refine wpAny_bind ?_
  simp only [List.zipIdx_cons, List.zipIdx_nil, List.forIn_cons, List.forIn_nil]
  refine wpAny_bind (wpAny_bind (wpAny_onRaise ?_))
  show wpAny _ _ (Builtin.SmallTypes.nextOf (Value.ref j1) >>= _) _ _ _
  have C4 : I1 n1 ga := S1.ki B4 fun ob e => X1 _ _ D.i1z e
  have C6 : M1 ga := S1.km B6 fun ob e => X1 _ _ D.l1z e
  cases hu : us[n1]? with
  | none =>
    refine wpAny_bind (S1.halt (t := { t with heap := ga }) (hh (.inl hu)) C4 C6 hu fun gb e X2 ⟨ob, he, hc⟩ => ?_)
    have Z2 : IsZip gb z q1 q2 .ellipsis := X2 _ _ D.i1z.symm Z1
    have nez : e ≠ z := fun y => by
      subst y
      rw [Z2] at he
      cases he
      simp at hc
    exact wpAny_setField_rec Z2 (by simp) fun gc _ S3 => out (.inl hu) gc e (fun b ob b1 _ b3 _ y => S3.extBut _ _ b1 (X2 _ _ b3 (X1 _ _ b1 y))) ⟨ob, S3.extBut _ _ nez he, hc⟩
  | some u =>
    refine wpAny_bind (S1.step (t := { t with heap := ga }) C4 C6 hu fun gb C41 SB2 => wpAny_pure ?_)
    have X2 := SB2.extBut
    have T2 : IsPair gb q2 c0 c1 := X2 _ _ D.TOi1 (X1 _ _ D.TOz B3)
    refine wpAny_bind (wpAny_seqItems T2 rfl (wpAny_bind (wpAny_updateSeq_pair T2 fun gc T3 SB3 => ?_)))
    replace T3 : IsPair gc q2 u c1 := T3
    have X3 := SB3.extBut
    refine wpAny_bind (wpAny_letGo (wpAny_pure (wpAny_bind (wpAny_bind (wpAny_onRaise ?_)))))
    show wpAny _ _ (Builtin.SmallTypes.nextOf (Value.ref j2) >>= _) _ _ _
    have C5 : I2 n2 gc := S2.ki B5 fun ob e => X3 _ _ D.TOi2.symm (X2 _ _ D.i12.symm (X1 _ _ D.i2z e))
    have C7 : M2 gc := S2.km B7 fun ob e => X3 _ _ D.l2TO (X2 _ _ D.l2i1 (X1 _ _ D.l2z e))
    cases hv : vs[n2]? with
    | none =>
      refine wpAny_bind (S2.halt (t := { t with heap := gc }) (hh (.inr hv)) C5 C7 hv fun gd e X4 ⟨ob, he, hc⟩ => ?_)
      have Z4 : IsZip gd z q1 q2 .ellipsis := X4 _ _ D.i2z.symm (X3 _ _ D.TOz.symm (X2 _ _ D.i1z.symm Z1))
      have nez : e ≠ z := fun y => by
        subst y
        rw [Z4] at he
        cases he
        simp at hc
      exact wpAny_setField_rec Z4 (by simp) fun gf _ S5 => out (.inr hv) gf e (fun b ob b1 b2 b3 b4 y => S5.extBut _ _ b1 (X4 _ _ b4 (X3 _ _ b2 (X2 _ _ b3 (X1 _ _ b1 y))))) ⟨ob, S5.extBut _ _ nez he, hc⟩
    | some v =>
      refine wpAny_bind (S2.step (t := { t with heap := gc }) C5 C7 hv fun gd C51 SB4 => wpAny_pure ?_)
      have X4 := SB4.extBut
      have T4 : IsPair gd q2 u c1 := X4 _ _ D.TOi2 T3
      refine wpAny_bind (wpAny_seqItems T4 rfl (wpAny_bind (wpAny_updateSeq_pair T4 fun gf T5 SB5 => ?_)))
      replace T5 : IsPair gf q2 u v := T5
      have X5 := SB5.extBut
      refine wpAny_bind (wpAny_letGo (wpAny_pure (wpAny_pure ?_)))
      refine wpAny_bind (wpAny_seqItems T5 rfl (wpAny_bind (wpAny_newTuple ?_)))
      have sz : gf.objs.size = t.heap.objs.size := by rw [SB5.1, SB4.1, SB3.1, SB2.1, S.1]
      have Z5 : IsZip gf z q1 q2 .ellipsis := X5 _ _ D.TOz.symm (X4 _ _ D.i2z.symm (X3 _ _ D.TOz.symm (X2 _ _ D.i1z.symm Z1)))
      have all5 : ∀ b ob, b ≠ z → b ≠ q2 → b ≠ j1 → b ≠ j2 → t.heap.get? b = some ob → gf.get? b = some ob := fun b ob b1 b2 b3 b4 y =>
        X5 _ _ b2 (X4 _ _ b4 (X3 _ _ b2 (X2 _ _ b3 (X1 _ _ b1 y))))
      have D4 : I1 (n1 + 1) gf := S1.ki C41 fun ob e => X5 _ _ D.TOi1.symm (X4 _ _ D.i12 (X3 _ _ D.TOi1.symm e))
      have D5 : I2 (n2 + 1) gf := S2.ki C51 fun ob e => X5 _ _ D.TOi2.symm e
      have zl : z < gf.objs.size := Heap.lt_size Z5
      show wpAny _ _ (Builtin.SmallTypes.ownedTupleHandOut (Value.ref z) (Value.ref gf.objs.size) >>= _) _ _ _
      refine wpAny_bind ?_
      unfold Builtin.SmallTypes.ownedTupleHandOut
      have Z6 : IsZip (gf.push { cls := .type "tuple", data := .seq #[u, v] }) z q1 q2 .ellipsis := Heap.get?_push_of_some _ Z5
      refine wpAny_bind (wpAny_setField_rec Z6 (by simp) fun gg Z7 SB7 => ?_)
      replace Z7 : IsZip gg z q1 q2 (rawInt gf.objs.size) := Z7
      refine wpAny_setField_rec Z7 (by simp) fun gk Z8 SB8 => ?_
      replace Z8 : IsZip gk z q1 q2 (rawInt gf.objs.size) := Z8
      have up : ∀ b ob, b ≠ z → gf.get? b = some ob → gk.get? b = some ob := fun b ob b1 y => SB8.extBut _ _ b1 (SB7.extBut _ _ b1 (Heap.get?_push_of_some _ y))
      have T8 : IsPair gk gf.objs.size u v := SB8.extBut _ _ (Nat.ne_of_gt zl) (SB7.extBut _ _ (Nat.ne_of_gt zl) (Heap.get?_push_size _ rfl))
      have sz8 : gk.objs.size = gf.objs.size + 1 := by rw [SB8.1, SB7.1, Heap.size_push]
      rw [sz] at Z8 T8 sz8
      refine wpAny_pure ?_
      show Q (.done (.ret (.ref gf.objs.size))) _
      rw [sz]
      exact full u v hu hv gk Z8 (up _ _ D.TOz T5) (S1.ki D4 fun ob e => up _ _ D.i1z e) (S2.ki D5 fun ob e => up _ _ D.i2z e) T8 sz8 fun b ob b1 b2 b3 b4 y => up b ob b1 (all5 b ob b1 b2 b3 b4 y)
end
/-! ### tuple and list -/
def ItzM (K : PySem.W.Frag) (a b : Addr) : It :=
  ⟨fun i H => ∃ (xs ys : List V) (x y : V), SqT K H a xs ∧ SqL K H b ys ∧ xs[i]? = some x ∧ ys[i]? = some y,
    fun i H v H' => ∃ T x y, v = .ref T ∧ H T = none ∧ H' = upd H T (.tup [x, y]) ∧ (∀ xs, SqT K H a xs → xs[i]? = some x) ∧ ∀ ys, SqL K H b ys → ys[i]? = some y,
    fun i H => ∃ xs ys : List V, SqT K H a xs ∧ SqL K H b ys ∧ (xs.length ≤ i ∨ ys.length ≤ i)⟩
theorem five {c z q1 q2 j1 j2 : Addr} {Pr : Addr → Prop} (h : c ∈ [z, q1, q2, j1, j2]) (p1 : Pr z) (p2 : Pr q1) (p3 : Pr q2) (p4 : Pr j1) (p5 : Pr j2) : Pr c := by
  simp only [List.mem_cons, List.not_mem_nil, or_false] at h
  rcases h with rfl | rfl | rfl | rfl | rfl <;> assumption
theorem turnM {P : Program} {w : World} {K : PySem.W.Frag} {elts : List Expr} {kk : Nat} {tpos : Pos} {a b z q1 q2 j1 j2 : Addr} (D : ZipApart z q1 q2 j1 j2 a b) :
    Turn P w K (.Tuple elts kk tpos) (ItzM K a b) [z, q1, q2, j1, j2] z (fun n h => IsZip h z q1 q2 .none ∧ IsPair h q1 (.ref j1) (.ref j2) ∧ (∃ x y, IsPair h q2 x y) ∧ h.IsTupleIter j1 a n ∧ h.IsListIter j2 b n) where
  mem := List.mem_cons_self
  obj := fun n h ⟨e1, e2, ⟨x, y, e3⟩, ⟨o4, e4, _, d4⟩, ⟨o5, e5, _, d5⟩⟩ c hc => five (Pr := fun c => ∃ o, h.get? c = some o ∧ ∀ v, o.data ≠ .cell v) hc ⟨_, e1, fun v q => nomatch q⟩ ⟨_, e2, fun v q => nomatch q⟩ ⟨_, e3, fun v q => nomatch q⟩ ⟨o4, e4, fun v q => by rw [d4] at q; cases q⟩ ⟨o5, e5, fun v q => by rw [d5] at q; cases q⟩
  keep := fun n h h' ⟨e1, e2, ⟨x, y, e3⟩, e4, e5⟩ k => ⟨k z (by simp) _ e1, k q1 (by simp) _ e2, ⟨x, y, k q2 (by simp) _ e3⟩, e4.at fun o q => k j1 (by simp) o q, e5.at fun o q => k j2 (by simp) o q⟩
  item := by
    intro X eP ew eK hcalm n pins s σ H E I ff ⟨e1, e2, ⟨x0, y0, e3⟩, e4, e5⟩ ⟨xs, ys, x, y, sx, sy, hx, hy⟩
    subst eP ew eK
    obtain ⟨us, rus, pt, _⟩ := I.tuple sx
    obtain ⟨vs, rvs, pl, _⟩ := I.list sy
    obtain ⟨u, hu, ru⟩ := rus.get hx
    obtain ⟨v, hv, rv⟩ := rvs.get hy
    have hu : us.toArray[n]? = some u := by simpa using hu
    have hv : vs.toArray[n]? = some v := by simpa using hv
    have zl : z < s.heap.objs.size := Heap.lt_size e1
    have hT : s.TypeIs (.ref z) "zip" := ⟨_, e1, rfl⟩
    unfold pyNext
    refine wpAny_bind (wpAny_attempt (wpAny_callSpecial?_slot (name := Str.ofString "__next__") hT F.slot_zip_next (wpAny_call_entry F.slot_zip_next hT F.entry_zip_next ?_ (F.args_zip_next_1 _))))
    refine into (src_tup j1 a us.toArray) (src_lst j2 b vs.toArray) D ⟨e1, e2, e3, e4, e5, pt, pl.isList⟩ (fun u' v' hu' hv' g Z T' P1 P2 T sz k => ?_) (fun h => ?_) (fun h => ?_)
    · have : u' = u := Option.some.inj (hu'.symm.trans hu)
      subst this
      have : v' = v := Option.some.inj (hv'.symm.trans hv)
      subst this
      refine ⟨_, rfl, wpAny_pure ⟨_, rfl, wpAny_letOwnedTupleGo_zip (s := { s with heap := g }) Z fun g2 Z2 S => ?_⟩⟩
      have T2 : g2.get? s.heap.objs.size = some { cls := .type "tuple", data := .seq #[u', v'] } := (S.2 _ (Nat.ne_of_gt zl)).trans T
      have new : ObjOk X.prog X.w (upd H s.heap.objs.size (.tup [x, y])) g2 s.heap.objs.size (.tup [x, y]) :=
        ⟨by show 2 ≤ sizeLine; decide, [u', v'], .cons ru (.cons rv .nil), ⟨_, T2, rfl, _, rfl⟩⟩
      have In : Inv X pins σ (upd H s.heap.objs.size (.tup [x, y])) { s with heap := g2 } :=
        I.turnedNew (t' := s.toks) (ch := [z, q1, q2, j1, j2]) (fun c o nb q => (S.2 c (fun e => nb (by rw [e]; exact List.mem_cons_self))).trans
          (k c o (fun e => nb (by simp [e])) (fun e => nb (by simp [e])) (fun e => nb (by simp [e])) (fun e => nb (by simp [e])) q)) ff (Nat.le_refl _) new
      refine ⟨.ref s.heap.objs.size, _, In, rfl, ⟨_, x, y, rfl, I.hok.fresh (Nat.le_refl _), rfl, fun l hl => by rw [I.tuple_inj hl sx]; exact hx, fun l hl => by rw [I.list_inj hl sy]; exact hy⟩, ⟨Z2, (S.2 _ D.TIz).trans (k _ _ D.TIz D.TITO D.TIi1 D.TIi2 e2), ⟨u', v', (S.2 _ D.TOz).trans T'⟩, P1.at fun o q => (S.2 _ D.i1z).trans q, P2.at fun o q => (S.2 _ D.i2z).trans q⟩, fun c hc => ?_⟩
      have cl : c < s.heap.objs.size := by
        obtain ⟨_, g4, _⟩ := e4
        obtain ⟨_, g5, _⟩ := e5
        exact five (Pr := fun c => c < s.heap.objs.size) hc zl (Heap.lt_size e2) (Heap.lt_size e3) (Heap.lt_size g4) (Heap.lt_size g5)
      rw [upd_ne (Nat.ne_of_lt cl)]
      exact (ff c hc).1
    · rw [hu, hv] at h
      rcases h with h | h <;> cases h
    · rw [hu, hv] at h
      rcases h with h | h <;> cases h
  done := by
    intro X eP ew eK hcalm n pins s σ H E I ff ⟨e1, e2, ⟨x0, y0, e3⟩, e4, e5⟩ ⟨xs, ys, sx, sy, he⟩
    subst eP ew eK
    obtain ⟨us, rus, pt, _⟩ := I.tuple sx
    obtain ⟨vs, rvs, pl, _⟩ := I.list sy
    have l1 := rus.length
    have l2 := rvs.length
    have no : us.toArray[n]? = none ∨ vs.toArray[n]? = none := he.elim (fun q => .inl (by simp; omega)) fun q => .inr (by simp; omega)
    have hT : s.TypeIs (.ref z) "zip" := ⟨_, e1, rfl⟩
    unfold pyNext
    refine wpAny_bind (wpAny_attempt (wpAny_callSpecial?_slot (name := Str.ofString "__next__") hT F.slot_zip_next (wpAny_call_entry F.slot_zip_next hT F.entry_zip_next ?_ (F.args_zip_next_1 _))))
    refine into (src_tup j1 a us.toArray) (src_lst j2 b vs.toArray) D ⟨e1, e2, e3, e4, e5, pt, pl.isList⟩ (fun u' v' hu' hv' => ?_) (fun _ => I.ok.hd hcalm) (fun _ g e k ⟨o, ho, ho2⟩ => ?_)
    · rw [hu', hv'] at no
      rcases no with q | q <;> cases q
    · refine wpAny_bind (wpAny_isInstance (T := "StopIteration") (b := true) ⟨o, ho, ho2⟩ isSubtype_stop (wpAny_pure ⟨rfl, ?_⟩))
      exact I.turnedL (t' := s.toks) (ch := [z, q1, q2, j1, j2]) (fun c o nb q => k c o (fun e => nb (by simp [e])) (fun e => nb (by simp [e])) (fun e => nb (by simp [e])) (fun e => nb (by simp [e])) q) ff
  self := fun A i s Q E st h => wpAny_pyIter_zip st.1 h
abbrev zm1 (h : Heap) (a : Addr) : Heap := h.push { cls := .type "tuple_iterator", data := .fields #[.ref a, .int 0 0] }
abbrev zm2 (h : Heap) (a b : Addr) : Heap := (zm1 h a).push { cls := .type "list_iterator", data := .fields #[.ref b, .int 0 0] }
abbrev zm3 (h : Heap) (a b : Addr) : Heap := (zm2 h a b).push { cls := .type "tuple", data := .seq #[.ref h.objs.size, .ref (zm1 h a).objs.size] }
abbrev zm4 (h : Heap) (a b : Addr) : Heap := (zm3 h a b).push { cls := .type "tuple", data := .seq #[.none, .none] }
abbrev zm5 (h : Heap) (a b : Addr) : Heap := (zm4 h a b).push { cls := .type "zip", data := .fields #[.none, .bool false, .bool false, .ref (zm2 h a b).objs.size, .ref (zm3 h a b).objs.size] }
theorem newM (a b : Addr) (us vs : Array Value) : Meets (Builtin.«zip.__new__» ⟨[.type "zip", .ref a, .ref b], []⟩) (fun _ R s => s.heap.IsTuple a us ∧ s.heap.IsList b vs ∧ R (.ok (.ret (.ref (zm4 s.heap a b).objs.size))) { s with heap := zm5 s.heap a b }) :=
  .of_wp fun prog w A R s h => by
    obtain ⟨hp, gs, d, tk, os⟩ := s
    obtain ⟨ha, hb, q⟩ := h
    have sz := sub_zip
    have ia : Heap.IsTuple (Shared.heap ⟨hp, gs, d, tk, os⟩) a us := ha
    have ib : Heap.IsList (Shared.heap ⟨hp.push { cls := .type "tuple_iterator", data := .fields #[.ref a, .int 0 0] }, gs, d, tk, os⟩) b vs := Heap.IsList.push hb _
    wp_walk using wpAny_pyIter_tuple ia, wpAny_pyIter_list ib
    exact ⟨_, rfl, q⟩
def iZipM (K : PySem.W.Frag) (ta : TA) : TI := fun σ H R => ta σ H fun vs H1 => ∃ a b xs ys, vs = [.ref a, .ref b] ∧ SqT K H1 a xs ∧ SqL K H1 b ys ∧ R (ItzM K a b) H1
theorem pi_zipM {X : Cx} {e e2 : Expr} {ta : TA} {p pos tpos : Pos} {elts : List Expr} {kk : Nat} (hg : Gl X "zip") (hm : X.mg "zip" = none) (ha : PA X [e, e2] ta)
    (h1 : starEach [e, e2] X.env = (false, eval e X.env) :: starEach [e2] X.env := by rfl) (h2 : (backTo pos (starEach [e2] X.env)).any (·.1) = false := by rfl) :
    PI X (.Tuple elts kk tpos) (.Call (.Name "zip" p) [e, e2] [] pos) (iZipM X.K ta) := by
  refine ⟨fun pins s σ H R I h => Call_ (ld_blt I hg hm PyProof.Rows.boot_zip (PyProof.Rows.callWith_type1 (thn (ha.run pos pins s σ H _ I h) fun args t ⟨vs, H1, J, r, a, b, xs, ys, ex, sx, sy, q⟩ => ?_) h1 h2))⟩
  subst ex
  cases r with
  | cons ra r =>
    cases r with
    | cons rb r =>
      cases r
      cases ra
      cases rb
      obtain ⟨us, rus, pt, _⟩ := J.tuple sx
      obtain ⟨vs, rvs, pl, _⟩ := J.list sy
      obtain ⟨o1, ho1, _⟩ := id pt
      have low : ∀ c, c ∈ [t.heap.objs.size + 4, t.heap.objs.size + 2, t.heap.objs.size + 3, t.heap.objs.size, t.heap.objs.size + 1] → FpOk X pins H1 c := fun c hc => by
        have hle : t.heap.objs.size ≤ c := five (Pr := fun c => t.heap.objs.size ≤ c) hc (by omega) (by omega) (by omega) (by omega) (by omega)
        exact J.fpOk hle (J.hok.fresh hle)
      refine callType_new F.called_zip (by decide) (F.typeCall_zip_2 _ _) (F.newCall_zip_2 _ _) (fun ob => F.args_object_init_3 ob _ _) F.entry_zip_new (newM a b us.toArray vs.toArray) ⟨pt, pl.isList, ?_⟩
      have y1 : (zm1 t.heap a).objs.size = t.heap.objs.size + 1 := Heap.size_push ..
      have y2 : (zm2 t.heap a b).objs.size = t.heap.objs.size + 2 := by rw [Heap.size_push, y1]
      have y3 : (zm3 t.heap a b).objs.size = t.heap.objs.size + 3 := by rw [Heap.size_push, y2]
      have y4 : (zm4 t.heap a b).objs.size = t.heap.objs.size + 4 := by rw [Heap.size_push, y3]
      have k5 : (zm5 t.heap a b).get? (zm4 t.heap a b).objs.size = some _ := Heap.get?_push_size _ rfl
      have k4 : (zm5 t.heap a b).get? (zm3 t.heap a b).objs.size = some _ := Heap.get?_push_of_some _ (Heap.get?_push_size _ rfl)
      have k3 : (zm5 t.heap a b).get? (zm2 t.heap a b).objs.size = some _ := Heap.get?_push_of_some _ (Heap.get?_push_of_some _ (Heap.get?_push_size _ rfl))
      have k2 : (zm5 t.heap a b).get? (zm1 t.heap a).objs.size = some _ := Heap.get?_push_of_some _ (Heap.get?_push_of_some _ (Heap.get?_push_of_some _ (Heap.get?_push_size _ rfl)))
      have k1 : (zm5 t.heap a b).get? t.heap.objs.size = some _ := Heap.get?_push_of_some _ (Heap.get?_push_of_some _ (Heap.get?_push_of_some _ (Heap.get?_push_of_some _ (Heap.get?_push_size _ rfl))))
      show _ ∧ _
      rw [y2, y3, y4] at k5
      rw [y1, y2] at k3
      rw [y3] at k4
      rw [y1] at k2
      rw [y4]
      refine ⟨⟨_, k5, rfl⟩, wpAny_pyIter_zip k5 ?_⟩
      have J2 : Inv X pins σ H1 { t with heap := zm5 t.heap a b } := J.kept (t' := t.toks) fun c o x =>
        Heap.get?_push_of_some _ (Heap.get?_push_of_some _ (Heap.get?_push_of_some _ (Heap.get?_push_of_some _ (Heap.get?_push_of_some _ x))))
      exact ⟨t.heap.objs.size + 4, [t.heap.objs.size + 4, t.heap.objs.size + 2, t.heap.objs.size + 3, t.heap.objs.size, t.heap.objs.size + 1], _, _, H1, rfl, J2, turnM (PySem.W.ktu_apart t.heap.objs.size a b (Heap.lt_size ho1) pl.lt), ⟨k5, k3, ⟨_, _, k4⟩, ⟨_, k1, rfl, rfl⟩, ⟨_, k2, rfl, rfl⟩⟩, low, q⟩
theorem walk_zipM {K : PySem.W.Frag} {a b : Addr} {xs ys : List V} {n : Nat} (hn : n = min xs.length ys.length) : Walk (ItzM K a b) n (fun H => SqT K H a xs ∧ SqL K H b ys) (YPair (fun i => xs[i]?) (fun i => ys[i]?)) := by
  subst hn
  refine ⟨fun i H hi q => ?_, fun H q => ⟨xs, ys, q.1, q.2, by omega⟩, fun i H v H' hi q y => ?_⟩
  · obtain ⟨h1, h2⟩ : i < xs.length ∧ i < ys.length := by omega
    exact ⟨xs, ys, xs[i], ys[i], q.1, q.2, List.getElem?_eq_getElem h1, List.getElem?_eq_getElem h2⟩
  · obtain ⟨T, x, y', e1, e2, e3, e4, e5⟩ := y
    exact ⟨T, x, y', e1, e2, e3, e4 xs q.1, e5 ys q.2⟩
end HZ2

set_option maxHeartbeats 4000000
/-! HZipD: dict(zip(a, b)) and list(zip(a, b)), a and b lists or tuples. -/
namespace HZ3
open PySem PySem.Spec PyProof.Rows L2
section
variable {p : Program} {w : World} {A : Around} {E : Value → Shared → Prop} {t : Shared} {z a b j k T d : Addr} {f1 f2 : List Addr} {m n i : Nat} {P1 P2 : Nat → Value → Prop} {S1 S2 : Nat → Heap → Prop} {fl : Bool} {oT : Obj}
/-- a next where the last pair is still held -/
theorem heldItem {Q : Value → Shared → Prop} (S : ZipSep2 z a b j k f1 f2) (D1 : Draws p w A j f1 m P1 S1) (D2 : Draws p w A k f2 n P2 S2) (hz : IsZipHeld t.heap z a b T fl) (hT : t.heap.get? T = some oT) (ha : IsPair t.heap a (.ref j) (.ref k)) (u1 : S1 i t.heap) (u2 : S2 i t.heap) (l1 : i < m) (l2 : i < n)
    (q : ∀ x y g tk, P1 i x → P2 i y → IsZipHeld g z a b T true → S1 (i + 1) g → S2 (i + 1) g → IsPair g t.heap.objs.size x y → (∀ c o, c ≠ z → c ≠ j → c ≠ k → t.heap.get? c = some o → g.get? c = some o) → Q (.ref t.heap.objs.size) { t with heap := g, toks := tk }) :
    wpAny (model p w) A (Builtin.«zip.__next__» ⟨[.ref z], []⟩) (fun fi s' => ∃ v, fi = .done (.ret v) ∧ Q v s') E t := by
  obtain ⟨hp, gs, dr, tk0, os⟩ := t
  show wpAny _ _ (field (Value.ref z) 2 >>= _) _ _ _
  refine wpAny_bind (wpAny_field hz rfl (x := Value.bool false) rfl ?_)
  show wpAny _ _ (field (Value.ref z) 3 >>= _) _ _ _
  refine wpAny_bind (wpAny_field hz rfl (x := Value.ref a) rfl (wpAny_bind (wpAny_seqItems ha rfl ?_)))
  show wpAny _ _ (Builtin.SmallTypes.ownedTupleIsFree (Value.ref z) >>= _) _ _ _
  refine wpAny_bind (wpAny_tupleHeld_zip hz hT fun g1 z1 sb1 => ?_)
  replace sb1 : Heap.SameBut z hp g1 := sb1
  simp only [Bool.false_eq_true, if_false]
  refine wpAny_bind ?_
  rw [← Array.forIn_toList]
  simp only [List.forIn_cons, List.forIn_nil]
  refine wpAny_bind (wpAny_bind (wpAny_holding ?_))
  show wpAny _ _ (Builtin.SmallTypes.nextOf (Value.ref j) >>= _) _ _ ⟨g1, gs, dr, tk0, os⟩
  refine wpAny_bind (D1.item i _ _ _ l1 (D1.over u1 sb1 S.zf1) fun x g2 tk1 hx u12 sb2 => wpAny_pure (wpAny_pure ?_))
  replace sb2 : Heap.SameBut j g1 g2 := sb2
  refine wpAny_bind (wpAny_bind (wpAny_holding ?_))
  show wpAny _ _ (Builtin.SmallTypes.nextOf (Value.ref k) >>= _) _ _ ⟨g2, gs, dr, tk1, os⟩
  refine wpAny_bind (D2.item i _ _ _ l2 (D2.over (D2.over u2 sb1 S.zf2) sb2 S.sep1_2) fun y g3 tk2 hy u22 sb3 => wpAny_pure (wpAny_pure (wpAny_pure ?_)))
  replace sb3 : Heap.SameBut k g2 g3 := sb3
  show wpAny _ _ (newTuple [x, y] >>= _) _ _ ⟨g3, gs, dr, tk2, os⟩
  refine wpAny_bind (wpAny_newTuple (wpAny_pure ⟨_, rfl, ?_⟩))
  have sz : g3.objs.size = hp.objs.size := by rw [sb3.1, sb2.1, sb1.1]
  have z3 : IsZipHeld g3 z a b T true := sb3.extBut _ _ S.zi2 (sb2.extBut _ _ S.zi1 z1)
  have pr : IsPair (g3.push { cls := .type "tuple", data := .seq #[x, y] }) g3.objs.size x y := Heap.get?_push_size _ rfl
  show Q (.ref g3.objs.size) ⟨g3.push { cls := .type "tuple", data := .seq #[x, y] }, gs, dr, tk2, os⟩
  rw [sz] at pr ⊢
  have up : ∀ {c o}, g3.get? c = some o → (g3.push { cls := .type "tuple", data := .seq #[x, y] }).get? c = some o := fun e => Heap.get?_push_of_some _ e
  exact q x y _ tk2 hx hy (up z3) (D1.frame _ _ _ (D1.over u12 sb3 S.sep2_1) fun c _ o e => up e) (D2.frame _ _ _ u22 fun c _ o e => up e) pr fun c o c1 c2 c3 e => up (sb3.extBut _ _ c3 (sb2.extBut _ _ c2 (sb1.extBut _ _ c1 e)))
theorem heldEnd {Q : Fin → Shared → Prop} (S : ZipSep2 z a b j k f1 f2) (D1 : Draws p w A j f1 m P1 S1) (D2 : Draws p w A k f2 n P2 S2) (hz : IsZipHeld t.heap z a b T fl) (hT : t.heap.get? T = some oT) (ha : IsPair t.heap a (.ref j) (.ref k)) (u1 : S1 i t.heap) (u2 : S2 i t.heap) (l1 : i ≤ m) (l2 : i ≤ n) (hend : i = m ∨ i = n)
    (q : ∀ g tk e, (∀ c o, c ≠ z → c ≠ j → c ≠ k → t.heap.get? c = some o → g.get? c = some o) → (∃ o, g.get? e = some o ∧ o.cls = .type "StopIteration") → E (.ref e) { t with heap := g, toks := tk }) :
    wpAny (model p w) A (Builtin.«zip.__next__» ⟨[.ref z], []⟩) Q E t := by
  obtain ⟨hp, gs, dr, tk0, os⟩ := t
  show wpAny _ _ (field (Value.ref z) 2 >>= _) _ _ _
  refine wpAny_bind (wpAny_field hz rfl (x := Value.bool false) rfl ?_)
  show wpAny _ _ (field (Value.ref z) 3 >>= _) _ _ _
  refine wpAny_bind (wpAny_field hz rfl (x := Value.ref a) rfl (wpAny_bind (wpAny_seqItems ha rfl ?_)))
  show wpAny _ _ (Builtin.SmallTypes.ownedTupleIsFree (Value.ref z) >>= _) _ _ _
  refine wpAny_bind (wpAny_tupleHeld_zip hz hT fun g1 z1 sb1 => ?_)
  replace sb1 : Heap.SameBut z hp g1 := sb1
  simp only [Bool.false_eq_true, if_false]
  refine wpAny_bind ?_
  rw [← Array.forIn_toList]
  simp only [List.forIn_cons, List.forIn_nil]
  refine wpAny_bind (wpAny_bind (wpAny_holding ?_))
  show wpAny _ _ (Builtin.SmallTypes.nextOf (Value.ref j) >>= _) _ _ ⟨g1, gs, dr, tk0, os⟩
  by_cases hm : i < m
  · refine wpAny_bind (D1.item i _ _ _ hm (D1.over u1 sb1 S.zf1) fun x g2 tk1 hx u12 sb2 => wpAny_pure (wpAny_pure ?_))
    replace sb2 : Heap.SameBut j g1 g2 := sb2
    have e2 : i = n := by omega
    refine wpAny_bind (wpAny_bind (wpAny_holding ?_))
    show wpAny _ _ (Builtin.SmallTypes.nextOf (Value.ref k) >>= _) _ _ ⟨g2, gs, dr, tk1, os⟩
    refine wpAny_bind (D2.done ⟨g2, gs, dr, tk1, os⟩ _ _ (by rw [← e2]; exact D2.over (D2.over u2 sb1 S.zf2) sb2 S.sep1_2) fun g3 e x3 he => ?_)
    replace x3 : Heap.ExtBut k g2 g3 := x3
    exact q g3 tk1 e (fun c o c1 c2 c3 y => x3 _ _ c3 (sb2.extBut _ _ c2 (sb1.extBut _ _ c1 y))) he
  · have e1 : i = m := by omega
    refine wpAny_bind (D1.done ⟨g1, gs, dr, tk0, os⟩ _ _ (by rw [← e1]; exact D1.over u1 sb1 S.zf1) fun g2 e x2 he => ?_)
    replace x2 : Heap.ExtBut j g1 g2 := x2
    exact q g2 tk0 e (fun c o c1 c2 _ y => x2 _ _ c2 (sb1.extBut _ _ c1 y)) he
end
/-- a zip on its way: free at first, then with the last pair held by others -/
def Zt (z a b j k d : Addr) (S1 S2 : Nat → Heap → Prop) (i : Nat) (h : Heap) : Prop := IsPair h a (.ref j) (.ref k) ∧ S1 i h ∧ S2 i h ∧
  ((IsZip h z a b .none ∧ ∃ x y, IsPair h b x y) ∨ ∃ T fl oT, IsZipHeld h z a b T fl ∧ h.get? T = some oT ∧ T ≠ z ∧ T ≠ j ∧ T ≠ k ∧ T ≠ d)
section
variable {p : Program} {w : World} {A : Around} {E : Value → Shared → Prop} {t : Shared} {z a b j k d : Addr} {f1 f2 : List Addr} {m n i : Nat} {P1 P2 : Nat → Value → Prop} {S1 S2 : Nat → Heap → Prop}
theorem zt_item {Q : Option Value → Shared → Prop} (S : ZipSep2 z a b j k f1 f2) (D1 : Draws p w A.in1 j f1 m P1 S1) (D2 : Draws p w A.in1 k f2 n P2 S2) (h : Zt z a b j k d S1 S2 i t.heap) (hd : d < t.heap.objs.size) (l1 : i < m) (l2 : i < n)
    (q : ∀ x y g tk, P1 i x → P2 i y → Zt z a b j k d S1 S2 (i + 1) g → IsPair g t.heap.objs.size x y → (∀ c o, c ≠ z → c ≠ b → c ≠ j → c ≠ k → t.heap.get? c = some o → g.get? c = some o) → Q (some (.ref t.heap.objs.size)) { t with heap := g, toks := tk }) :
    wpAny (model p w) A (pyNext (.ref z)) Q E t := by
  obtain ⟨ha, u1, u2, h⟩ := h
  have lt : ∀ {c o}, t.heap.get? c = some o → t.heap.objs.size ≠ c := fun e => Nat.ne_of_gt (Heap.lt_size e)
  have nj : t.heap.objs.size ≠ j := by obtain ⟨_, e⟩ := D1.live _ _ u1; exact lt e
  have nk : t.heap.objs.size ≠ k := by obtain ⟨_, e⟩ := D2.live _ _ u2; exact lt e
  rcases h with ⟨hz, x0, y0, hb⟩ | ⟨T, fl, oT, hz, hT, r1, r2, r3, r4⟩
  · refine wpAny_pyNext_zipD2_item S D1 D2 hz ha hb u1 u2 l1 l2 fun x y g tk hx hy z1 b1 v1 v2 pr _ kp => ?_
    exact q x y g tk hx hy ⟨kp _ _ S.TIz S.TITO S.TIi1 S.TIi2 ha, v1, v2, .inr ⟨t.heap.objs.size, false, _, z1, pr, lt hz, nj, nk, Nat.ne_of_gt hd⟩⟩ pr kp
  · have hy : t.TypeIs (.ref z) "zip" := ⟨_, hz, rfl⟩
    unfold pyNext
    refine wpAny_bind (wpAny_attempt (wpAny_callSpecial?_slot (name := Str.ofString "__next__") hy F.slot_zip_next (wpAny_call_entry F.slot_zip_next hy F.entry_zip_next (heldItem S D1 D2 hz hT ha u1 u2 l1 l2 fun x y g tk hx hy z1 v1 v2 pr kp => ?_) (F.args_zip_next_1 _))))
    refine wpAny_pure (q x y g tk hx hy ⟨kp _ _ S.TIz S.TIi1 S.TIi2 ha, v1, v2, .inr ⟨T, true, oT, z1, kp _ _ r1 r2 r3 hT, r1, r2, r3, r4⟩⟩ pr fun c o c1 _ c3 c4 e => kp c o c1 c3 c4 e)
theorem zt_done {Q : Option Value → Shared → Prop} (S : ZipSep2 z a b j k f1 f2) (D1 : Draws p w A.in1 j f1 m P1 S1) (D2 : Draws p w A.in1 k f2 n P2 S2) (h : Zt z a b j k d S1 S2 i t.heap) (l1 : i ≤ m) (l2 : i ≤ n) (hend : i = m ∨ i = n)
    (q : ∀ g tk, (∀ c o, c ≠ z → c ≠ b → c ≠ j → c ≠ k → t.heap.get? c = some o → g.get? c = some o) → Q none { t with heap := g, toks := tk }) :
    wpAny (model p w) A (pyNext (.ref z)) Q E t := by
  obtain ⟨ha, u1, u2, h⟩ := h
  rcases h with ⟨hz, x0, y0, hb⟩ | ⟨T, fl, oT, hz, hT, r1, r2, r3, r4⟩
  · exact wpAny_pyNext_zipD2_end S D1 D2 hz ha hb u1 u2 l1 l2 hend q
  · have hy : t.TypeIs (.ref z) "zip" := ⟨_, hz, rfl⟩
    unfold pyNext
    refine wpAny_bind (wpAny_attempt (wpAny_callSpecial?_slot (name := Str.ofString "__next__") hy F.slot_zip_next (wpAny_call_entry F.slot_zip_next hy F.entry_zip_next (heldEnd S D1 D2 hz hT ha u1 u2 l1 l2 hend fun g tk e kp he => ?_) (F.args_zip_next_1 _))))
    obtain ⟨o, ho, hc⟩ := he
    exact wpAny_bind (wpAny_isInstance (T := "StopIteration") (b := true) ⟨o, ho, hc⟩ isSubtype_stop (wpAny_pure (q g tk fun c o c1 _ c3 c4 e => kp c o c1 c3 c4 e)))
end
/-! ### as an argument of dict() -/
section
variable {p : Program} {w : World} {z a b j k : Addr} {f1 f2 : List Addr} {m n : Nat} {P1 P2 : Nat → Value → Prop} {S1 S2 : Nat → Heap → Prop}
abbrev ZOk (z a b j k : Addr) (S1 S2 : Nat → Heap → Prop) (h : Heap) : Prop := IsZip h z a b .none ∧ IsPair h a (.ref j) (.ref k) ∧ (∃ x y, IsPair h b x y) ∧ S1 0 h ∧ S2 0 h
theorem zOk_zt {d : Addr} {h : Heap} (o : ZOk z a b j k S1 S2 h) : Zt z a b j k d S1 S2 0 h := ⟨o.2.1, o.2.2.2.1, o.2.2.2.2, .inl ⟨o.1, o.2.2.1⟩⟩
theorem zt_keep {A : Around} {d i : Nat} {h g : Heap} (S : ZipSep2 z a b j k f1 f2) (D1 : Draws p w A j f1 m P1 S1) (D2 : Draws p w A k f2 n P2 S2) (hd : d ∉ z :: a :: b :: (f1 ++ f2)) (x : Zt z a b j k d S1 S2 i h) (kp : ∀ c o, c ≠ d → h.get? c = some o → g.get? c = some o) : Zt z a b j k d S1 S2 i g := by
  obtain ⟨ha, u1, u2, hz⟩ := x
  simp only [List.mem_cons, List.mem_append, not_or] at hd
  obtain ⟨d1, d2, d3, d4, d5⟩ := hd
  refine ⟨kp _ _ (Ne.symm d2) ha, D1.frame _ _ _ u1 fun c hc o e => kp c o (fun q => d4 (q ▸ hc)) e, D2.frame _ _ _ u2 fun c hc o e => kp c o (fun q => d5 (q ▸ hc)) e, ?_⟩
  rcases hz with ⟨hz, x, y, hb⟩ | ⟨T, fl, oT, hz, hT, r1, r2, r3, r4⟩
  · exact .inl ⟨kp _ _ (Ne.symm d1) hz, x, y, kp _ _ (Ne.symm d3) hb⟩
  · exact .inr ⟨T, fl, oT, kp _ _ (Ne.symm d1) hz, kp _ _ r4 hT, r1, r2, r3, r4⟩
theorem zipArg {A0 : Around} (hA0 : A0.handled = none) (S : ZipSep2 z a b j k f1 f2) (D1 : ∀ A : Around, A.handled = none → Draws p w A j f1 m P1 S1) (D2 : ∀ A : Around, A.handled = none → Draws p w A k f2 n P2 S2) (th1 : ∀ h i, S1 i h → ∀ c ∈ f1, ∃ o, h.get? c = some o) (th2 : ∀ h i, S2 i h → ∀ c ∈ f2, ∃ o, h.get? c = some o) :
    PairArg p w "zip" z (z :: a :: b :: (f1 ++ f2)) [z, b, j, k] (min m n) (fun i x y => P1 i x ∧ P2 i y) (ZOk z a b j k S1 S2) where
  type := fun s ok => ⟨_, ok.1, rfl⟩
  notDict := by decide
  keep := fun h g ok kp => ⟨kp _ _ ok.1, kp _ _ ok.2.1, let ⟨x, y, e⟩ := ok.2.2.1; ⟨x, y, kp _ _ e⟩, (D1 A0 hA0).frame _ _ _ ok.2.2.2.1 fun c _ o e => kp c o e, (D2 A0 hA0).frame _ _ _ ok.2.2.2.2 fun c _ o e => kp c o e⟩
  there := fun h ok c hc => by
    obtain ⟨o1, o2, ⟨x, y, o3⟩, o4, o5⟩ := ok
    simp only [List.mem_cons, List.mem_append] at hc
    rcases hc with rfl | rfl | rfl | hc | hc
    · exact ⟨_, o1⟩
    · exact ⟨_, o2⟩
    · exact ⟨_, o3⟩
    · exact th1 _ _ o4 _ hc
    · exact th2 _ _ o5 _ hc
  sub := fun c hc => by
    simp only [List.mem_cons, List.not_mem_nil, or_false, List.mem_append] at hc ⊢
    rcases hc with rfl | rfl | rfl | rfl
    · exact .inl rfl
    · exact .inr (.inr (.inl rfl))
    · exact .inr (.inr (.inr (.inl S.mem1)))
    · exact .inr (.inr (.inr (.inr S.mem2)))
  noKeys := fun A s Q E hA ok h => getAttrOr_miss_zip ok.1 rfl rfl rfl zip_no_keys (by decide +kernel) hA h
  iter := fun A s d Q E hA ok hd hdf h => by
    refine wpAny_pyIter_zip ok.1 (h z [z, b, j, k] (Zt z a b j k d S1 S2) s.heap s.toks ?_ (zOk_zt ok) (fun _ _ e => e) fun c hc => .inl hc)
    have E1 := D1 A.in1 hA
    have E2 := D2 A.in1 hA
    exact {
      off := fun hm => by
        simp only [List.mem_cons, List.mem_append, not_or] at hdf
        simp only [List.mem_cons, List.not_mem_nil, or_false] at hm
        rcases hm with e | e | e | e
        · exact hdf.1 e
        · exact hdf.2.2.1 e
        · exact hdf.2.2.2.1 (e ▸ S.mem1)
        · exact hdf.2.2.2.2 (e ▸ S.mem2)
      frame := fun i h g st kp => zt_keep S E1 E2 hdf st kp
      item := fun i t Q1 F1 hi st hds q => by
        refine zt_item S E1 E2 st hds (by omega) (by omega) fun x y g tk hx hy st' pr kp => ?_
        exact q t.heap.objs.size x y g tk ⟨hx, hy⟩ (.inl ⟨_, pr, rfl, _, rfl⟩) st' fun c o hc e => kp c o (fun x => hc (by simp [x])) (fun x => hc (by simp [x])) (fun x => hc (by simp [x])) (fun x => hc (by simp [x])) e
      done := fun t Q1 F1 st q => by
        refine zt_done S E1 E2 st (Nat.min_le_left _ _) (Nat.min_le_right _ _) (by omega) fun g tk kp => ?_
        exact q g tk fun c o hc e => kp c o (fun x => hc (by simp [x])) (fun x => hc (by simp [x])) (fun x => hc (by simp [x])) (fun x => hc (by simp [x])) e }
end
/-! ### made -/
/-- a zip of us and vs, just made -/
structure Made (X : Cx) (pins : List (Addr × Obj)) (σ : L2.St) (H : Hp) (u : Value) (t : Shared) (us vs : List Value) : Prop where
  ex : ∃ (z a b j k : Addr) (f1 f2 : List Addr) (S1 S2 : Nat → Heap → Prop), u = .ref z ∧ ZipSep2 z a b j k f1 f2 ∧ (∀ A : Around, A.handled = none → Draws X.prog X.w A j f1 us.toArray.size (fun i v => us.toArray[i]? = some v) S1) ∧ (∀ A : Around, A.handled = none → Draws X.prog X.w A k f2 vs.toArray.size (fun i v => vs.toArray[i]? = some v) S2) ∧
    (∀ h i, S1 i h → ∀ c ∈ f1, ∃ o, h.get? c = some o) ∧ (∀ h i, S2 i h → ∀ c ∈ f2, ∃ o, h.get? c = some o) ∧ ZOk z a b j k S1 S2 t.heap ∧ (∀ c ∈ [z, b, j, k], FpOk X pins H c) ∧ z ∈ z :: a :: b :: (f1 ++ f2)
  inv : Inv X pins σ H t
theorem newT (a b : Addr) (us vs : Array Value) : Meets (Builtin.«zip.__new__» ⟨[.type "zip", .ref a, .ref b], []⟩) (fun _ R s => s.heap.IsTuple a us ∧ s.heap.IsTuple b vs ∧
    ∀ h1 h2 h3 h4 h5 : Heap, h1 = s.heap.push { cls := .type "tuple_iterator", data := .fields #[.ref a, .int 0 0] } → h2 = h1.push { cls := .type "tuple_iterator", data := .fields #[.ref b, .int 0 0] } → h3 = h2.push { cls := .type "tuple", data := .seq #[.ref s.heap.objs.size, .ref h1.objs.size] } →
      h4 = h3.push { cls := .type "tuple", data := .seq #[.none, .none] } → h5 = h4.push { cls := .type "zip", data := .fields #[.none, .bool false, .bool false, .ref h2.objs.size, .ref h3.objs.size] } → R (.ok (.ret (.ref h4.objs.size))) { s with heap := h5 }) :=
  .of_wp fun prog w A R s h => by
    obtain ⟨hp, gs, d, tk, os⟩ := s
    obtain ⟨ha, hb, q⟩ := h
    have sz := sub_zip
    have ia : Heap.IsTuple (Shared.heap ⟨hp, gs, d, tk, os⟩) a us := ha
    have ib : Heap.IsTuple (Shared.heap ⟨hp.push { cls := .type "tuple_iterator", data := .fields #[.ref a, .int 0 0] }, gs, d, tk, os⟩) b vs := Heap.IsTuple.push hb _
    wp_walk using wpAny_pyIter_tuple ia, wpAny_pyIter_tuple ib
    exact ⟨_, rfl, q _ _ _ _ _ rfl rfl rfl rfl rfl⟩
theorem aN {a b : Nat} (h : ¬ a = b) : ¬ @Eq Addr a b := h
theorem aIn {c a b : Nat} (h1 : ¬ c = a) (h2 : ¬ c = b) : ¬ @Membership.mem Addr (List Addr) _ [a, b] c := fun h => by
  rcases List.mem_cons.mp h with h | h
  · exact aN h1 h
  · exact aN h2 (List.mem_singleton.mp h)
theorem sepN (n a b : Nat) (la : a < n) (lb : b < n) : ZipSep2 (n + 4) (n + 2) (n + 3) n (n + 1) [n, a] [n + 1, b] where
  TIz := aN (by omega)
  TOz := aN (by omega)
  TITO := aN (by omega)
  TIi1 := aN (by omega)
  mem1 := List.mem_cons_self
  zf1 := aIn (by omega) (by omega)
  Tf1 := aIn (by omega) (by omega)
  TIi2 := aN (by omega)
  mem2 := List.mem_cons_self
  zf2 := aIn (by omega) (by omega)
  Tf2 := aIn (by omega) (by omega)
  sep1_2 := aIn (by omega) (by omega)
  sep2_1 := aIn (by omega) (by omega)
theorem zip_callT {X : Cx} {A : Around} {E : Value → Shared → Prop} {pins : List (Addr × Obj)} {σ : L2.St} {H : Hp} {t : Shared} {a b : Addr} {xs ys : List V} {Q : Value → Shared → Prop} (I : Inv X pins σ H t) (sa : SqT X.K H a xs) (sb : SqT X.K H b ys)
    (q : ∀ us vs u s', Vals xs us → Vals ys vs → Made X pins σ H u s' us vs → Q u s') : wpAny (model X.prog X.w) A (call (.type "zip") [.ref a, .ref b]) Q E t := by
  obtain ⟨us, rus, pt, _⟩ := I.tuple sa
  obtain ⟨vs, rvs, pl, _⟩ := I.tuple sb
  have la : a < t.heap.objs.size := by obtain ⟨o, e, _⟩ := pt; exact Heap.lt_size e
  have lb : b < t.heap.objs.size := by obtain ⟨o, e, _⟩ := pl; exact Heap.lt_size e
  refine callType_new F.called_zip (by decide) (F.typeCall_zip_2 _ _) (F.newCall_zip_2 _ _) (fun ob => F.args_object_init_3 ob _ _) F.entry_zip_new (newT a b us.toArray vs.toArray) ⟨pt, pl, fun h1 h2 h3 h4 h5 e1 e2 e3 e4 e5 => ?_⟩
  have y1 : h1.objs.size = t.heap.objs.size + 1 := by rw [e1]; exact Heap.size_push ..
  have y2 : h2.objs.size = t.heap.objs.size + 2 := by rw [e2, Heap.size_push, y1]
  have y3 : h3.objs.size = t.heap.objs.size + 3 := by rw [e3, Heap.size_push, y2]
  have y4 : h4.objs.size = t.heap.objs.size + 4 := by rw [e4, Heap.size_push, y3]
  have up1 : ∀ c o, t.heap.get? c = some o → h1.get? c = some o := fun c o e => by rw [e1]; exact Heap.get?_push_of_some _ e
  have up2 : ∀ c o, h1.get? c = some o → h2.get? c = some o := fun c o e => by rw [e2]; exact Heap.get?_push_of_some _ e
  have up3 : ∀ c o, h2.get? c = some o → h3.get? c = some o := fun c o e => by rw [e3]; exact Heap.get?_push_of_some _ e
  have up4 : ∀ c o, h3.get? c = some o → h4.get? c = some o := fun c o e => by rw [e4]; exact Heap.get?_push_of_some _ e
  have up5 : ∀ c o, h4.get? c = some o → h5.get? c = some o := fun c o e => by rw [e5]; exact Heap.get?_push_of_some _ e
  have g1 := (congrArg (fun h : Heap => h.get? t.heap.objs.size) e1).trans (Heap.get?_push_size _ rfl)
  have g2 := (congrArg (fun h : Heap => h.get? h1.objs.size) e2).trans (Heap.get?_push_size _ rfl)
  have g3 := (congrArg (fun h : Heap => h.get? h2.objs.size) e3).trans (Heap.get?_push_size _ rfl)
  have g4 := (congrArg (fun h : Heap => h.get? h3.objs.size) e4).trans (Heap.get?_push_size _ rfl)
  have g5 := (congrArg (fun h : Heap => h.get? h4.objs.size) e5).trans (Heap.get?_push_size _ rfl)
  have k1 := up5 _ _ (up4 _ _ (up3 _ _ (up2 _ _ g1)))
  have k2 := up5 _ _ (up4 _ _ (up3 _ _ g2))
  have k3 := up5 _ _ (up4 _ _ g3)
  have k4 := up5 _ _ g4
  have up : ∀ c o, t.heap.get? c = some o → h5.get? c = some o := fun c o e => up5 _ _ (up4 _ _ (up3 _ _ (up2 _ _ (up1 _ _ e))))
  show _ ∧ _
  refine ⟨⟨_, g5, rfl⟩, q us vs _ _ rus rvs ⟨⟨h4.objs.size, h2.objs.size, h3.objs.size, t.heap.objs.size, h1.objs.size, [t.heap.objs.size, a], [h1.objs.size, b], _, _, rfl, ?_, fun A hh => Draws.tuple hh _ _ (Nat.ne_of_lt la) _, fun A hh => Draws.tuple hh _ _ (by rw [y1]; exact aN (Nat.ne_of_lt (Nat.lt_succ_of_lt lb))) _, ?_, ?_, ⟨g5, k3, ⟨_, _, k4⟩, ⟨⟨_, k1, rfl, rfl⟩, ?_⟩, ⟨⟨_, k2, rfl, rfl⟩, ?_⟩⟩, ?_, List.mem_cons_self⟩, ?_⟩⟩
  · rw [y1, y2, y3, y4]
    exact sepN _ _ _ la lb
  · rintro h i ⟨⟨o1, x1, _⟩, ⟨o2, x2, _⟩⟩ c hc
    simp only [List.mem_cons, List.not_mem_nil, or_false] at hc
    rcases hc with rfl | rfl
    · exact ⟨_, x1⟩
    · exact ⟨_, x2⟩
  · rintro h i ⟨⟨o1, x1, _⟩, ⟨o2, x2, _⟩⟩ c hc
    simp only [List.mem_cons, List.not_mem_nil, or_false] at hc
    rcases hc with rfl | rfl
    · exact ⟨_, x1⟩
    · exact ⟨_, x2⟩
  · obtain ⟨o, e, r⟩ := pt
    exact ⟨o, up _ _ e, r⟩
  · obtain ⟨o, e, r⟩ := pl
    exact ⟨o, up _ _ e, r⟩
  · intro c hc
    have hle : t.heap.objs.size ≤ c := by
      simp only [List.mem_cons, List.not_mem_nil, or_false] at hc
      rw [y1, y3, y4] at hc
      rcases hc with rfl | rfl | rfl | rfl
      · exact Nat.le_add_right _ _
      · exact Nat.le_add_right _ _
      · exact Nat.le_refl _
      · exact Nat.le_add_right _ _
    exact I.fpOk hle (I.hok.fresh hle)
  · exact I.kept (t' := t.toks) up
theorem zip_callL {X : Cx} {A : Around} {E : Value → Shared → Prop} {pins : List (Addr × Obj)} {σ : L2.St} {H : Hp} {t : Shared} {a b : Addr} {xs ys : List V} {Q : Value → Shared → Prop} (I : Inv X pins σ H t) (sa : SqT X.K H a xs) (sb : SqL X.K H b ys)
    (q : ∀ us vs u s', Vals xs us → Vals ys vs → Made X pins σ H u s' us vs → Q u s') : wpAny (model X.prog X.w) A (call (.type "zip") [.ref a, .ref b]) Q E t := by
  obtain ⟨us, rus, pt, _⟩ := I.tuple sa
  obtain ⟨vs, rvs, pl0, _⟩ := I.list sb
  have pl := pl0.isList
  have la : a < t.heap.objs.size := by obtain ⟨o, e, _⟩ := pt; exact Heap.lt_size e
  have lb : b < t.heap.objs.size := by obtain ⟨o, e, _⟩ := pl; exact Heap.lt_size e
  refine callType_new F.called_zip (by decide) (F.typeCall_zip_2 _ _) (F.newCall_zip_2 _ _) (fun ob => F.args_object_init_3 ob _ _) F.entry_zip_new (HZ2.newM a b us.toArray vs.toArray) ⟨pt, pl, ?_⟩
  obtain ⟨h1, e1⟩ : ∃ h, h = HZ2.zm1 t.heap a := ⟨_, rfl⟩
  obtain ⟨h2, e2⟩ : ∃ h, h = HZ2.zm2 t.heap a b := ⟨_, rfl⟩
  obtain ⟨h3, e3⟩ : ∃ h, h = HZ2.zm3 t.heap a b := ⟨_, rfl⟩
  obtain ⟨h4, e4⟩ : ∃ h, h = HZ2.zm4 t.heap a b := ⟨_, rfl⟩
  obtain ⟨h5, e5⟩ : ∃ h, h = HZ2.zm5 t.heap a b := ⟨_, rfl⟩
  rw [← e4, ← e5]
  have e2 : h2 = h1.push { cls := .type "list_iterator", data := .fields #[.ref b, .int 0 0] } := by rw [e2, e1]
  have e3 : h3 = h2.push { cls := .type "tuple", data := .seq #[.ref t.heap.objs.size, .ref h1.objs.size] } := by rw [e3, e2, e1]
  have e4 : h4 = h3.push { cls := .type "tuple", data := .seq #[.none, .none] } := by rw [e4, e3, e2, e1]
  have e5 : h5 = h4.push { cls := .type "zip", data := .fields #[.none, .bool false, .bool false, .ref h2.objs.size, .ref h3.objs.size] } := by rw [e5, e4, e3, e2, e1]
  have y1 : h1.objs.size = t.heap.objs.size + 1 := by rw [e1]; exact Heap.size_push ..
  have y2 : h2.objs.size = t.heap.objs.size + 2 := by rw [e2, Heap.size_push, y1]
  have y3 : h3.objs.size = t.heap.objs.size + 3 := by rw [e3, Heap.size_push, y2]
  have y4 : h4.objs.size = t.heap.objs.size + 4 := by rw [e4, Heap.size_push, y3]
  have up1 : ∀ c o, t.heap.get? c = some o → h1.get? c = some o := fun c o e => by rw [e1]; exact Heap.get?_push_of_some _ e
  have up2 : ∀ c o, h1.get? c = some o → h2.get? c = some o := fun c o e => by rw [e2]; exact Heap.get?_push_of_some _ e
  have up3 : ∀ c o, h2.get? c = some o → h3.get? c = some o := fun c o e => by rw [e3]; exact Heap.get?_push_of_some _ e
  have up4 : ∀ c o, h3.get? c = some o → h4.get? c = some o := fun c o e => by rw [e4]; exact Heap.get?_push_of_some _ e
  have up5 : ∀ c o, h4.get? c = some o → h5.get? c = some o := fun c o e => by rw [e5]; exact Heap.get?_push_of_some _ e
  have g1 := (congrArg (fun h : Heap => h.get? t.heap.objs.size) e1).trans (Heap.get?_push_size _ rfl)
  have g2 := (congrArg (fun h : Heap => h.get? h1.objs.size) e2).trans (Heap.get?_push_size _ rfl)
  have g3 := (congrArg (fun h : Heap => h.get? h2.objs.size) e3).trans (Heap.get?_push_size _ rfl)
  have g4 := (congrArg (fun h : Heap => h.get? h3.objs.size) e4).trans (Heap.get?_push_size _ rfl)
  have g5 := (congrArg (fun h : Heap => h.get? h4.objs.size) e5).trans (Heap.get?_push_size _ rfl)
  have k1 := up5 _ _ (up4 _ _ (up3 _ _ (up2 _ _ g1)))
  have k2 := up5 _ _ (up4 _ _ (up3 _ _ g2))
  have k3 := up5 _ _ (up4 _ _ g3)
  have k4 := up5 _ _ g4
  have up : ∀ c o, t.heap.get? c = some o → h5.get? c = some o := fun c o e => up5 _ _ (up4 _ _ (up3 _ _ (up2 _ _ (up1 _ _ e))))
  show _ ∧ _
  refine ⟨⟨_, g5, rfl⟩, q us vs _ _ rus rvs ⟨⟨h4.objs.size, h2.objs.size, h3.objs.size, t.heap.objs.size, h1.objs.size, [t.heap.objs.size, a], [h1.objs.size, b], _, _, rfl, ?_, fun A hh => Draws.tuple hh _ _ (Nat.ne_of_lt la) _, fun A hh => Draws.list hh _ _ (by rw [y1]; exact aN (Nat.ne_of_lt (Nat.lt_succ_of_lt lb))) _, ?_, ?_, ⟨g5, k3, ⟨_, _, k4⟩, ⟨⟨_, k1, rfl, rfl⟩, ?_⟩, ⟨⟨_, k2, rfl, rfl⟩, ?_⟩⟩, ?_, List.mem_cons_self⟩, ?_⟩⟩
  · rw [y1, y2, y3, y4]
    exact sepN _ _ _ la lb
  · rintro h i ⟨⟨o1, x1, _⟩, ⟨o2, x2, _⟩⟩ c hc
    simp only [List.mem_cons, List.not_mem_nil, or_false] at hc
    rcases hc with rfl | rfl
    · exact ⟨_, x1⟩
    · exact ⟨_, x2⟩
  · rintro h i ⟨⟨o1, x1, _⟩, ⟨o2, x2, _⟩⟩ c hc
    simp only [List.mem_cons, List.not_mem_nil, or_false] at hc
    rcases hc with rfl | rfl
    · exact ⟨_, x1⟩
    · exact ⟨_, x2⟩
  · obtain ⟨o, e, r⟩ := pt
    exact ⟨o, up _ _ e, r⟩
  · obtain ⟨o, e, r⟩ := pl
    exact ⟨o, up _ _ e, r⟩
  · intro c hc
    have hle : t.heap.objs.size ≤ c := by
      simp only [List.mem_cons, List.not_mem_nil, or_false] at hc
      rw [y1, y3, y4] at hc
      rcases hc with rfl | rfl | rfl | rfl
      · exact Nat.le_add_right _ _
      · exact Nat.le_add_right _ _
      · exact Nat.le_refl _
      · exact Nat.le_add_right _ _
    exact I.fpOk hle (I.hok.fresh hle)
  · exact I.kept (t' := t.toks) up
end HZ3
namespace HG
open PySem PySem.Spec PyProof.Rows L2 HZ3
/-- dict(zip(a, b)): a tuple of keys, a tuple or list of values -/
def tDictZip (K : PySem.W.Frag) (ta tb : TE) : TE := fun σ H Q => tCons ta (tCons tb tNil) σ H fun xs H2 => ∃ (a b : Addr) (ks : List Key) (ys : List V), xs = [.ref a, .ref b] ∧ SqT K H2 a (ks.map kV) ∧ (SqT K H2 b ys ∨ SqL K H2 b ys) ∧ ∀ d, H2 d = none → Q (.ref d) (upd H2 d (.dK (mergeK [] (ks.zip ys))))
theorem vals_key : ∀ {ks : List Key} {us : List Value}, Vals (ks.map kV) us → ∀ {i : Nat} {u : Value}, us[i]? = some u → ∃ k, ks[i]? = some k ∧ keyIs k u = true
  | [], _, .nil, _, _, h => by cases h
  | k :: ks, _, .cons r t, 0, u, h => by
    cases h
    refine ⟨k, rfl, ?_⟩
    cases k with
    | inl j => obtain ⟨tk, rfl⟩ := r; exact keyIs_int j tk
    | inr z => obtain ⟨tk, rfl⟩ := r; exact keyIs_str z tk
  | _ :: _, _, .cons r t, i + 1, u, h => vals_key t (i := i) (u := u) h
theorem kv_zip : ∀ {ks : List Key} {ys : List V} {vs : List Value}, Vals ys vs → KV (ks.zip ys) (ks.zip vs)
  | [], _, _, _ => .nil
  | _ :: _, _, _, .nil => .nil
  | _ :: _, _, _, .cons r t => .cons ⟨rfl, r⟩ (kv_zip t)
theorem zip_at {ks : List Key} {vs : List Value} {i : Nat} {k : Key} {v : Value} (h1 : ks[i]? = some k) (h2 : vs[i]? = some v) : (ks.zip vs)[i]? = some (k, v) := by
  rw [List.getElem?_zip_eq_some]
  exact ⟨h1, h2⟩
section
variable {X : Cx} {e1 e2 : Expr} {ta tb : TE} {p1 p2 p3 p4 : Pos}
theorem dict_made {pins : List (Addr × Obj)} {σ : L2.St} {H : Hp} {u : Value} {t : Shared} {us vs : List Value} {ks : List Key} {ys : List V} {Q : VK} (hcalm : X.calm = true) (r1 : Vals (ks.map kV) us) (r2 : Vals ys vs) (hl : ys.length ≤ sizeLine) (M : Made X pins σ H u t us vs) (q : ∀ d, H d = none → Q (.ref d) (upd H d (.dK (mergeK [] (ks.zip ys))))) :
    wpAny (model X.prog X.w) X.A (call (.type "dict") [u]) (EP X pins σ Q) X.xe t := by
  obtain ⟨⟨z, a, b, j, k, f1, f2, S1, S2, rfl, S, D1, D2, th1, th2, ok, ff, _⟩, I⟩ := M
  have hd := I.ok.hd hcalm
  have lks : us.length = ks.length := by have := r1.length; rw [List.length_map] at this; exact this.symm
  have lys := r2.length
  have hlen : (mergeK [] (ks.zip ys)).length ≤ sizeLine := by
    refine Nat.le_trans (length_mergeK _ []) ?_
    rw [List.length_nil, Nat.zero_add, List.length_zip]
    exact Nat.le_trans (Nat.min_le_right _ _) hl
  refine call_dict_pairs (knd := mixKind X.prog X.w) (kvs := ks.zip vs) (zipArg hd S D1 D2 th1 th2) hd ok ⟨?_, fun i key v hr => ?_⟩ ?_ fun h' tk hd' kp => ?_
  · rw [List.length_zip, List.size_toArray, List.size_toArray, lks]
  · obtain ⟨g1, g2⟩ := hr
    obtain ⟨kk, e1, e2⟩ := vals_key r1 (i := i) (u := key) (by simpa using g1)
    exact ⟨kk, zip_at e1 (by simpa using g2), e2⟩
  · rw [List.size_toArray, List.size_toArray]
    exact Nat.le_trans (Nat.min_le_right _ _) (by omega)
  · have hm : (t.heap.objs.size == sysModules) = false := beq_eq_false_iff_ne.mpr (Nat.ne_of_gt I.big)
    refine ⟨.ref t.heap.objs.size, _, I.turnedNew (t' := tk) (ch := [z, b, j, k]) (fun c o hc e => kp c o hc e) ff (Nat.le_refl _) (show ObjOk X.prog X.w _ _ _ (.dK (mergeK [] (ks.zip ys))) from ⟨hlen, hm, merged [] (ks.zip vs), KV.merge (kv_zip r2) .nil, hd'⟩), rfl, q _ (I.hok.fresh (Nat.le_refl _))⟩
theorem pe_dictZip (hcalm : X.calm = true) (hg1 : Gl X "dict") (hm1 : X.mg "dict" = none) (hg2 : Gl X "zip") (hm2 : X.mg "zip" = none) (he1 : PE X e1 ta) (he2 : PE X e2 tb)
    (s1 : starEach [.Call (.Name "zip" p2) [e1, e2] [] p3] X.env = (false, eval (.Call (.Name "zip" p2) [e1, e2] [] p3) X.env) :: starEach [] X.env := by rfl) (s2 : starEach [e1, e2] X.env = (false, eval e1 X.env) :: starEach [e2] X.env := by rfl) (s3 : starEach [e2] X.env = (false, eval e2 X.env) :: starEach [] X.env := by rfl)
    (h1 : (backTo p4 (starEach [] X.env)).any (·.1) = false := by rfl) (h2 : (backTo p3 (starEach [e2] X.env)).any (·.1) = false := by rfl) :
    PE X (.Call (.Name "dict" p1) [.Call (.Name "zip" p2) [e1, e2] [] p3] [] p4) (tDictZip X.K ta tb) := by
  refine ⟨fun pins s σ H Q I h => wpAny_Call_Name_kw (ld_blt I hg1 hm1 boot_dict (PyProof.Rows.callWith_type1 ?_ s1 h1))⟩
  rw [s1]
  show wpAny _ _ (spliced ((false, eval (.Call (.Name "zip" p2) [e1, e2] [] p3) X.env) :: backTo p4 (starEach [] X.env))) _ _ s
  refine Calls.spliced_cons (wpAny_Call_Name_kw (ld_blt I hg2 hm2 PyProof.Rows.boot_zip (PyProof.Rows.callWith_type1 (thn ((pa_cons he1 (pa_cons he2 pa_nil s3) s2).run p3 pins s σ H _ I h) fun us s1 ⟨vs, H1, I1, r1, q1⟩ => ?_) s2 h2)))
  obtain ⟨a, b, ks, ys, rfl, sa, sb, q⟩ := q1
  cases r1 with
  | cons ra r =>
    cases r with
    | cons rb r =>
      cases r
      cases ra
      cases rb
      rcases sb with sb | sb
      · obtain ⟨_, _, _, hl⟩ := I1.tuple sb
        exact zip_callT I1 sa sb fun us vs u s' v1 v2 M => Calls.spliced_nil (dict_made hcalm v1 v2 hl M q)
      · obtain ⟨_, _, _, hl⟩ := I1.list sb
        exact zip_callL I1 sa sb fun us vs u s' v1 v2 M => Calls.spliced_nil (dict_made hcalm v1 v2 hl M q)
end
end HG

set_option maxHeartbeats 4000000
/-! HZipL: list(zip(a, b)), a and b lists or tuples. -/
namespace HZ3
open PySem PySem.Spec PyProof.Rows L2
theorem zip_nolen : typeLookup (.type "zip") "__len__" = pure none := by rw [typeLookup_type, builtinLookup_eq_fast]; kernel_rfl
theorem zip_nohint : typeLookup (.type "zip") "__length_hint__" = pure none := by rw [typeLookup_type, builtinLookup_eq_fast]; kernel_rfl
section
variable {X : Cx} {pins : List (Addr × Obj)} {σ : L2.St} {H0 : Hp} {z a b j k S n0 : Addr} {f1 f2 : List Addr} {S1 S2 : Nat → Heap → Prop} {xs ys : List V} {us vs : List Value}
/-- the list so far -/
def Jx (X : Cx) (pins : List (Addr × Obj)) (σ : L2.St) (H0 : Hp) (S : Addr) (wr : List Addr) (xs ys : List V) (i : Nat) (t : Shared) : Prop := ∃ (H : Hp) (ps : List Addr), Inv X pins σ H t ∧ Same H0 H ∧ H S = some (.lst (ps.map V.ref)) ∧ Paired (fun (p : Addr) (q : V × V) => H p = some (.tup [q.1, q.2])) ps ((xs.zip ys).take i) ∧ ps.length = i ∧ ∀ c ∈ wr, FpOk X pins H c
structure Jn (X : Cx) (pins : List (Addr × Obj)) (σ : L2.St) (H0 : Hp) (z a b j k S n0 : Addr) (S1 S2 : Nat → Heap → Prop) (xs ys : List V) (i : Nat) (t : Shared) : Prop where
  ex : Jx X pins σ H0 S [z, b, j, k] xs ys i t
  zt : Zt z a b j k S S1 S2 i t.heap
  sz : n0 ≤ t.heap.objs.size
  lt : ∀ c ∈ [z, b, j, k, S], c < n0
  s0 : H0 S = none
theorem pr_snoc {α β : Type} {r : α → β → Prop} : ∀ {as : List α} {bs : List β} {x : α} {y : β}, Paired r as bs → r x y → Paired r (as ++ [x]) (bs ++ [y])
  | [], [], _, _, .nil, h => .cons h .nil
  | _ :: _, _ :: _, _, _, .cons h t, g => .cons h (pr_snoc t g)
theorem pr_mono {α β : Type} {r r' : α → β → Prop} : ∀ {as : List α} {bs : List β}, (∀ x ∈ as, ∀ y, r x y → r' x y) → Paired r as bs → Paired r' as bs
  | [], [], _, .nil => .nil
  | x :: _, y :: _, h, .cons g t => .cons (h x List.mem_cons_self y g) (pr_mono (fun u hu v => h u (List.mem_cons_of_mem _ hu) v) t)
theorem pr_mem {α β : Type} {r : α → β → Prop} : ∀ {as : List α} {bs : List β}, Paired r as bs → ∀ x ∈ as, ∃ y, r x y
  | x :: _, y :: _, .cons g t, u, hu => by
    rcases List.mem_cons.mp hu with rfl | hu
    · exact ⟨y, g⟩
    · exact pr_mem t u hu
theorem vals_pair : ∀ {xs : List V} {us : List Value} {i : Nat} {u : Value}, Vals xs us → us[i]? = some u → ∃ x, xs[i]? = some x ∧ RelV x u
  | _, _, 0, _, .cons r _, h => by cases h; exact ⟨_, rfl, r⟩
  | _, _, i + 1, _, .cons _ t, h => vals_pair (i := i) t h
theorem jn_loop {A : Around} {R : Result → Shared → Prop} (hd : A.handled = none) (Z : ZipSep2 z a b j k f1 f2) (D1 : ∀ A : Around, A.handled = none → Draws X.prog X.w A j f1 us.toArray.size (fun i v => us.toArray[i]? = some v) S1) (D2 : ∀ A : Around, A.handled = none → Draws X.prog X.w A k f2 vs.toArray.size (fun i v => vs.toArray[i]? = some v) S2)
    (r1 : Vals xs us) (r2 : Vals ys vs) (hl : (xs.zip ys).length < sizeLine) (hS : S ∉ z :: a :: b :: (f1 ++ f2)) (res : Value) (fin : ∀ t', Jx X pins σ H0 S [z, b, j, k] xs ys (xs.zip ys).length t' → R (.ok (.ret res)) t') :
    ∀ (r i : Nat) (t : Shared), (xs.zip ys).length - i = r → i ≤ (xs.zip ys).length → Jn X pins σ H0 z a b j k S n0 S1 S2 xs ys i t → codeAny (model X.prog X.w) A (.builtin "list.extend.loop" ⟨[.ref S, .ref z, res], []⟩) R t := by
  have l1 := r1.length
  have l2 := r2.length
  have hlen : (xs.zip ys).length = min us.toArray.size vs.toArray.size := by rw [List.length_zip, List.size_toArray, List.size_toArray, l1, l2]
  have E1 := D1 A.in1.in1 hd
  have E2 := D2 A.in1.in1 hd
  have nS : ∀ c ∈ [z, b, j, k], c ≠ S := fun c hc e => by
    subst e
    simp only [List.mem_cons, List.mem_append, not_or] at hS
    simp only [List.mem_cons, List.not_mem_nil, or_false] at hc
    rcases hc with e | e | e | e
    · exact hS.1 e
    · exact hS.2.2.1 e
    · exact hS.2.2.2.1 (e ▸ Z.mem1)
    · exact hS.2.2.2.2 (e ▸ Z.mem2)
  intro r
  induction r with
  | zero =>
    intro i t hr hi J
    have e : i = (xs.zip ys).length := by omega
    subst e
    obtain ⟨⟨H, ps, I, sm, hS', hp, hpl, ff⟩, zt, sz, lt, s0⟩ := J
    refine codeAny_builtin F.entry_extend_loop ?_
    rw [Around.under_plainId F.plain_extend_loop _]
    show wpAny _ A.in1 (pyNext (.ref z) >>= _) _ _ t
    refine wpAny_bind (zt_done Z E1 E2 zt (by omega) (by omega) (by omega) fun g tk kp => wpAny_pure (fin _ ⟨H, ps, ?_, sm, hS', hp, hpl, ff⟩))
    exact I.turnedL (t' := tk) (ch := [z, b, j, k]) (fun c o hc e => kp c o (fun x => hc (by simp [x])) (fun x => hc (by simp [x])) (fun x => hc (by simp [x])) (fun x => hc (by simp [x])) e) ff
  | succ r ih =>
    intro i t hr hi J
    obtain ⟨⟨H, ps, I, sm, hS', hp, hpl, ff⟩, zt, sz, lt, s0⟩ := J
    have hlt : i < (xs.zip ys).length := by omega
    have lS : S < t.heap.objs.size := Nat.lt_of_lt_of_le (lt S (by simp)) sz
    refine codeAny_builtin F.entry_extend_loop ?_
    rw [Around.under_plainId F.plain_extend_loop _]
    show wpAny _ A.in1 (pyNext (.ref z) >>= _) _ _ t
    refine wpAny_bind (zt_item Z E1 E2 zt lS (by omega) (by omega) fun x y g tk hx hy zt' pr kp => ?_)
    obtain ⟨xv, ex, rx⟩ := vals_pair r1 (i := i) (u := x) (by simpa using hx)
    obtain ⟨yv, ey, ry⟩ := vals_pair r2 (i := i) (u := y) (by simpa using hy)
    have hT : H t.heap.objs.size = none := I.hok.fresh (Nat.le_refl _)
    have I2 : Inv X pins σ (upd H t.heap.objs.size (.tup [xv, yv])) { t with heap := g, toks := tk } :=
      I.turnedNew (t' := tk) (ch := [z, b, j, k]) (fun c o hc e => kp c o (fun x => hc (by simp [x])) (fun x => hc (by simp [x])) (fun x => hc (by simp [x])) (fun x => hc (by simp [x])) e) ff (Nat.le_refl _) ⟨by show 2 ≤ sizeLine; decide, [x, y], .cons rx (.cons ry .nil), ⟨_, pr, rfl, _, rfl⟩⟩
    have hS2 : (upd H t.heap.objs.size (.tup [xv, yv])) S = some (.lst (ps.map V.ref)) := by rw [upd_ne (Nat.ne_of_lt lS)]; exact hS'
    obtain ⟨_, its, nn, rl, hll, e⟩ := I2.lstM hS2
    rw [List.length_map] at hll
    show wpAny _ A.in1 (updateSeq S (·.push (.ref t.heap.objs.size)) >>= _) _ _ _
    have gl : t.heap.objs.size < g.objs.size := Heap.lt_size pr
    refine wpAny_bind (wpAny_updateSeq e rfl (wpAny_pure ⟨plainId_quiet F.plain_extend_loop _, ih (i + 1) _ (by omega) hlt ⟨⟨_, ps ++ [t.heap.objs.size], I2.lset (its' := its ++ [.ref t.heap.objs.size]) hS2 e (by simp) (ys := (ps ++ [t.heap.objs.size]).map V.ref) ?_ ?_, ?_, upd_same, ?_, ?_, fun c hc => ?_⟩, ?_, ?_, lt, s0⟩⟩) ?_ ?_)
    · rw [List.map_append]
      exact rl.append (.cons rfl .nil)
    · rw [List.length_map, List.length_append, List.length_singleton]
      omega
    · intro c o e
      have e1 := sm _ _ e
      rw [upd_ne (fun q => by rw [q, s0] at e; cases e), upd_ne (fun q => by rw [q, hT] at e1; cases e1)]
      exact e1
    · have ez : (xs.zip ys)[i]? = some (xv, yv) := by
        rw [List.getElem?_zip_eq_some]
        exact ⟨ex, ey⟩
      rw [List.take_add_one, ez]
      refine pr_snoc (pr_mono (fun q hq kv h => ?_) hp) ?_
      · have h : H q = some (.tup [kv.1, kv.2]) := h
        show (upd (upd H t.heap.objs.size (.tup [xv, yv])) S _) q = _
        rw [upd_ne (fun w => by rw [w, hS'] at h; cases h), upd_ne (fun w => by rw [w, hT] at h; cases h)]
        exact h
      · show (upd (upd H t.heap.objs.size (.tup [xv, yv])) S _) t.heap.objs.size = _
        rw [upd_ne (Nat.ne_of_gt lS), upd_same]
    · rw [List.length_append, hpl]; rfl
    · refine ⟨?_, (ff c hc).2⟩
      rw [upd_ne (nS c hc), upd_ne (Nat.ne_of_lt (Nat.lt_of_lt_of_le (lt c (by simp only [List.mem_cons, List.not_mem_nil, or_false] at hc ⊢; rcases hc with h | h | h | h <;> simp [h])) sz))]
      exact (ff c hc).1
    · exact zt_keep Z E1 E2 hS zt' fun c o hc e => (Heap.get?_update_other _ _ (Ne.symm hc)).trans e
    · show n0 ≤ (g.update S _).objs.size
      rw [Heap.size_update]
      exact Nat.le_trans sz (Nat.le_of_lt gl)
    · rw [List.size_toArray]
      omega
    · rw [Array.size_push, List.size_toArray]
      omega
theorem jn_list {A : Around} {R : Result → Shared → Prop} {t : Shared} {H : Hp} (hd : A.handled = none) (I : Inv X pins σ H t) (Z : ZipSep2 z a b j k f1 f2) (D1 : ∀ A : Around, A.handled = none → Draws X.prog X.w A j f1 us.toArray.size (fun i v => us.toArray[i]? = some v) S1) (D2 : ∀ A : Around, A.handled = none → Draws X.prog X.w A k f2 vs.toArray.size (fun i v => vs.toArray[i]? = some v) S2)
    (th1 : ∀ h i, S1 i h → ∀ c ∈ f1, ∃ o, h.get? c = some o) (th2 : ∀ h i, S2 i h → ∀ c ∈ f2, ∃ o, h.get? c = some o) (ok : ZOk z a b j k S1 S2 t.heap) (ff : ∀ c ∈ [z, b, j, k], FpOk X pins H c) (r1 : Vals xs us) (r2 : Vals ys vs) (hl : (xs.zip ys).length < sizeLine)
    (fin : ∀ t', Jx X pins σ H t.heap.objs.size [z, b, j, k] xs ys (xs.zip ys).length t' → R (.ok (.ret .none)) t') :
    wpAny (model X.prog X.w) A.in1 (Builtin.«list.__init__» ⟨[.ref t.heap.objs.size, .ref z], []⟩) (fun fi s' => match fi with | .done f => R (.ok f) s' | .again c' => c'.quiet = true ∧ codeAny (model X.prog X.w) A c' R s') (fun e s' => R (.error e) s') { t with heap := t.heap.push { cls := .type "list", data := .seq #[] } } := by
  have n0 : H t.heap.objs.size = none := I.hok.fresh (Nat.le_refl _)
  have ft : ∀ c o, t.heap.get? c = some o → c < t.heap.objs.size := fun c o e => Heap.lt_size e
  have lt0 : ∀ c ∈ z :: a :: b :: (f1 ++ f2), c < t.heap.objs.size := fun c hc => by
    obtain ⟨o1, o2, ⟨x, y, o3⟩, o4, o5⟩ := ok
    simp only [List.mem_cons, List.mem_append] at hc
    rcases hc with rfl | rfl | rfl | hc | hc
    · exact ft _ _ o1
    · exact ft _ _ o2
    · exact ft _ _ o3
    · obtain ⟨o, e⟩ := th1 _ _ o4 _ hc; exact ft _ _ e
    · obtain ⟨o, e⟩ := th2 _ _ o5 _ hc; exact ft _ _ e
  have hS : t.heap.objs.size ∉ z :: a :: b :: (f1 ++ f2) := fun h => Nat.lt_irrefl _ (lt0 _ h)
  have wr4 : ∀ c ∈ [z, b, j, k], c < t.heap.objs.size := fun c hc => lt0 c (by
    simp only [List.mem_cons, List.not_mem_nil, or_false, List.mem_append] at hc ⊢
    rcases hc with h | h | h | h
    · exact .inl h
    · exact .inr (.inr (.inl h))
    · exact .inr (.inr (.inr (.inl (h ▸ Z.mem1))))
    · exact .inr (.inr (.inr (.inr (h ▸ Z.mem2)))))
  -- the loop's start
  have start : ∀ (h : Heap) (c0 : Nat), (∀ c o, t.heap.get? c = some o → h.get? c = some o) → h.get? t.heap.objs.size = some { cls := .type "list", data := .seq #[] c0 } → codeAny (model X.prog X.w) A (.builtin "list.extend.loop" ⟨[.ref t.heap.objs.size, .ref z, .none], []⟩) R { t with heap := h } := fun h c0 kp hS' => by
    refine jn_loop (n0 := t.heap.objs.size + 1) hd Z D1 D2 r1 r2 hl hS .none fin _ 0 _ rfl (Nat.zero_le _) ⟨⟨upd H t.heap.objs.size (.lst []), [], I.laid (t' := t.toks) kp (Nat.le_refl _) ⟨Nat.zero_le _, [], c0, .nil, hS'⟩, fun c o e => HG.upd_get n0 e, upd_same, .nil, rfl, fun c hc => ⟨?_, (ff c hc).2⟩⟩, ?_, ?_, ?_, n0⟩
    · rw [upd_ne (Nat.ne_of_lt (wr4 c hc))]
      exact (ff c hc).1
    · obtain ⟨o1, o2, ⟨x, y, o3⟩, o4, o5⟩ := ok
      exact ⟨kp _ _ o2, (D1 A hd).frame _ _ _ o4 fun c _ o e => kp c o e, (D2 A hd).frame _ _ _ o5 fun c _ o e => kp c o e, .inl ⟨kp _ _ o1, x, y, kp _ _ o3⟩⟩
    · exact Heap.lt_size hS'
    · intro c hc
      rcases (show c ∈ [z, b, j, k] ∨ c = t.heap.objs.size by simp only [List.mem_cons, List.not_mem_nil, or_false] at hc ⊢; rcases hc with h | h | h | h | h <;> simp [h]) with h | h
      · exact Nat.lt_succ_of_lt (wr4 c h)
      · rw [h]; exact Nat.lt_succ_self _
  have hb : (t.heap.push { cls := .type "list", data := .seq #[] }).get? t.heap.objs.size = some { cls := .type "list", data := .seq #[] } := Heap.get?_push_size _ rfl
  have nb : ∀ c o, t.heap.get? c = some o → t.heap.objs.size ≠ c := fun c o e => Nat.ne_of_gt (ft c o e)
  show wpAny _ A.in1 (do let old ← Builtin.List.listItems (.ref t.heap.objs.size); Builtin.List.listUpdate (.ref t.heap.objs.size) (fun _ => #[]); letGo old.toList.reverse; Builtin.List.listExtendWith (.ref t.heap.objs.size) (.ref z) .none) _ _ _
  refine wpAny_bind ?_
  unfold Builtin.List.listItems
  refine wpAny_bind (wpAny_seqItems hb rfl (wpAny_pure ?_))
  show wpAny _ _ (updateSeq t.heap.objs.size (fun _ => #[]) >>= fun _ => letGo (#[] : Array Value).toList.reverse >>= fun _ => Builtin.List.listExtendWith (.ref t.heap.objs.size) (.ref z) .none) _ _ _
  refine wpAny_bind (wpAny_updateSeq hb rfl ?_)
  have b2 := Heap.get?_update_self (Obj.mapSeq (fun _ => (#[] : Array Value))) hb rfl
  have k2 : ∀ c o, t.heap.get? c = some o → ((t.heap.push { cls := .type "list", data := .seq #[] }).update t.heap.objs.size (Obj.mapSeq (fun _ => (#[] : Array Value)))).get? c = some o := fun c o e => (Heap.get?_update_other _ _ (nb c o e)).trans (Heap.get?_push_of_some _ e)
  refine wpAny_bind (wpAny_letGo ?_)
  generalize (t.heap.push { cls := .type "list", data := .seq #[] }).update t.heap.objs.size (Obj.mapSeq (fun _ => (#[] : Array Value))) = g2 at b2 k2 ⊢
  have tz : Shared.TypeIs { t with heap := g2 } (.ref z) "zip" := ⟨_, k2 _ _ ok.1, rfl⟩
  have zs : t.heap.objs.size ≠ z := fun e => hS (e ▸ List.mem_cons_self)
  unfold Builtin.List.listExtendWith
  refine wpAny_bind (wpAny_typeOf tz ?_)
  have q1 : Builtin.List.listSameRef (.ref t.heap.objs.size) (.ref z) = false := by simp [Builtin.List.listSameRef, zs]
  have q2 : (Value.type "zip" == Value.type "list") = false := by decide
  have q3 : (Value.type "zip" == Value.type "tuple") = false := by decide
  simp only [q1, q2, q3, Bool.or_false, Bool.false_eq_true, if_false]
  refine wpAny_bind (wpAny_pyIter_zip (k2 _ _ ok.1) ?_)
  refine wpAny_bind (wpAny_holding ?_)
  unfold Builtin.List.listLengthHint
  refine wpAny_bind (wpAny_specialOf tz zip_nolen ?_)
  show wpAny _ A.in1 (specialOf (Value.ref z) (Str.ofString "__length_hint__") >>= _) _ _ _
  refine wpAny_bind (wpAny_specialOf tz zip_nohint (wpAny_pure ?_))
  show wpAny _ A.in1 (rule "list.extend.makes-room" >>= fun _ => Builtin.List.listTouch (.ref t.heap.objs.size) >>= fun _ => again (.builtin "list.extend.loop" ⟨[.ref t.heap.objs.size, .ref z, .none], []⟩)) _ _ _
  refine wpAny_bind (wpAny_rule (wpAny_bind ?_))
  show wpAny _ A.in1 (updateSeq t.heap.objs.size (·.push .none) >>= fun _ => updateSeq t.heap.objs.size (·.pop)) _ _ _
  refine wpAny_bind (wpAny_updateSeq b2 rfl ?_)
  have b3 := Heap.get?_update_self (Obj.mapSeq (·.push Value.none)) b2 rfl
  refine wpAny_updateSeq (hz := by seq_fits) b3 rfl ?_
  have b4 := Heap.get?_update_self (Obj.mapSeq (·.pop)) b3 rfl
  exact wpAny_pure ⟨plainId_quiet F.plain_extend_loop _, start _ _ (fun c o e => (Heap.get?_update_other _ _ (nb c o e)).trans ((Heap.get?_update_other _ _ (nb c o e)).trans (k2 c o e))) b4⟩
end
end HZ3
namespace HG
open PySem PySem.Spec PyProof.Rows L2 HZ3
/-- list(zip(a, b)) -/
def tListZip (K : PySem.W.Frag) (ta tb : TE) : TE := fun σ H Q => tCons ta (tCons tb tNil) σ H fun as H2 => ∃ (a b : Addr) (xs ys : List V), as = [.ref a, .ref b] ∧ SqT K H2 a xs ∧ (SqT K H2 b ys ∨ SqL K H2 b ys) ∧ (xs.zip ys).length < sizeLine ∧
  ∀ (l : Addr) (ps : List Addr) (H3 : Hp), H2 l = none → Same H2 H3 → H3 l = some (.lst (ps.map V.ref)) → Paired (fun (p : Addr) (q : V × V) => H3 p = some (.tup [q.1, q.2])) ps (xs.zip ys) → Q (.ref l) H3
section
variable {X : Cx} {e1 e2 : Expr} {ta tb : TE} {p1 p2 p3 p4 : Pos}
theorem list_made {pins : List (Addr × Obj)} {σ : L2.St} {H : Hp} {u : Value} {t : Shared} {us vs : List Value} {xs ys : List V} {Q : VK} (hcalm : X.calm = true) (r1 : Vals xs us) (r2 : Vals ys vs) (hl : (xs.zip ys).length < sizeLine) (M : Made X pins σ H u t us vs)
    (q : ∀ (l : Addr) (ps : List Addr) (H3 : Hp), H l = none → Same H H3 → H3 l = some (.lst (ps.map V.ref)) → Paired (fun (p : Addr) (q : V × V) => H3 p = some (.tup [q.1, q.2])) ps (xs.zip ys) → Q (.ref l) H3) :
    wpAny (model X.prog X.w) X.A (call (.type "list") [u]) (EP X pins σ Q) X.xe t := by
  obtain ⟨⟨z, a, b, j, k, f1, f2, S1, S2, rfl, S, D1, D2, th1, th2, ok, ff, _⟩, I⟩ := M
  have hd := I.ok.hd hcalm
  refine callType_codes (Q₁ := fun ob g => ob = .ref t.heap.objs.size ∧ g = { t with heap := t.heap.push { cls := .type "list", data := .seq #[] } }) F.called_list (F.typeCall_list_1 _) F.entry_list_init (code_list_new _ ⟨rfl, rfl⟩) fun ob g hg => ?_
  obtain ⟨rfl, rfl⟩ := hg
  refine ⟨⟨_, Heap.get?_push_size _ rfl, rfl⟩, F.args_list_init_2 _ _, jn_list (A := X.A.in1) hd I S D1 D2 th1 th2 ok ff r1 r2 hl fun t' J => ?_⟩
  obtain ⟨H3, ps, I3, sm, hS, hp, _, _⟩ := J
  rw [List.take_of_length_le (Nat.le_refl _)] at hp
  exact ⟨rfl, .ref t.heap.objs.size, H3, I3, rfl, q _ ps H3 (I.hok.fresh (Nat.le_refl _)) sm hS hp⟩
theorem pe_listZip (hcalm : X.calm = true) (hg1 : Gl X "list") (hm1 : X.mg "list" = none) (hg2 : Gl X "zip") (hm2 : X.mg "zip" = none) (he1 : PE X e1 ta) (he2 : PE X e2 tb)
    (s1 : starEach [.Call (.Name "zip" p2) [e1, e2] [] p3] X.env = (false, eval (.Call (.Name "zip" p2) [e1, e2] [] p3) X.env) :: starEach [] X.env := by rfl) (s2 : starEach [e1, e2] X.env = (false, eval e1 X.env) :: starEach [e2] X.env := by rfl) (s3 : starEach [e2] X.env = (false, eval e2 X.env) :: starEach [] X.env := by rfl)
    (h1 : (backTo p4 (starEach [] X.env)).any (·.1) = false := by rfl) (h2 : (backTo p3 (starEach [e2] X.env)).any (·.1) = false := by rfl) :
    PE X (.Call (.Name "list" p1) [.Call (.Name "zip" p2) [e1, e2] [] p3] [] p4) (tListZip X.K ta tb) := by
  refine ⟨fun pins s σ H Q I h => wpAny_Call_Name_kw (ld_blt I hg1 hm1 PyProof.Rows.boot_list (PyProof.Rows.callWith_type1 ?_ s1 h1))⟩
  rw [s1]
  show wpAny _ _ (spliced ((false, eval (.Call (.Name "zip" p2) [e1, e2] [] p3) X.env) :: backTo p4 (starEach [] X.env))) _ _ s
  refine Calls.spliced_cons (wpAny_Call_Name_kw (ld_blt I hg2 hm2 PyProof.Rows.boot_zip (PyProof.Rows.callWith_type1 (thn ((pa_cons he1 (pa_cons he2 pa_nil s3) s2).run p3 pins s σ H _ I h) fun us s1 ⟨vs, H1, I1, r1, q1⟩ => ?_) s2 h2)))
  obtain ⟨a, b, xs, ys, rfl, sa, sb, hl, q⟩ := q1
  cases r1 with
  | cons ra r =>
    cases r with
    | cons rb r =>
      cases r
      cases ra
      cases rb
      rcases sb with sb | sb
      · exact zip_callT I1 sa sb fun us vs u s' v1 v2 M => Calls.spliced_nil (list_made hcalm v1 v2 hl M q)
      · exact zip_callL I1 sa sb fun us vs u s' v1 v2 M => Calls.spliced_nil (list_made hcalm v1 v2 hl M q)
end
end HG

set_option maxHeartbeats 1000000
namespace K18
open PySem PySem.Spec PyProof.Rows L2 HG P18
theorem upd_upd {H : Hp} {p : Addr} {a b : HO} : upd (upd H p a) p b = upd H p b := by
  funext x
  by_cases e : x = p
  · subst e; rw [upd_same, upd_same]
  · rw [upd_ne e, upd_ne e, upd_ne e]
abbrev kI (n : Nat) : Key := Sum.inl (n : Int)
theorem kI_inj {a b : Nat} (h : kI a = kI b) : a = b := by injection h with h; omega
theorem hd_zip {K : PySem.W.Frag} {H : Hp} : ∀ {ps : List Nat} {ys : List V} {ws : List Wv}, DpAll K H ys (ws.map Wv.D) → ∀ s : Nat, (∃ v, valV ((ps.map kI).zip ys) (kI s) = some v ∧ Dp K H v (bind ps ws s).D) ∨ (valV ((ps.map kI).zip ys) (kI s) = none ∧ bind ps ws s = .w 0)
  | [], _, _, _, s => .inr ⟨rfl, rfl⟩
  | _ :: _, [], [], _, s => .inr ⟨rfl, rfl⟩
  | p :: ps, y :: ys, v :: ws, .cons h t, s => by
    show (∃ u, valV ((kI p, y) :: (ps.map kI).zip ys) (kI s) = some u ∧ Dp K H u (if s = p then v else bind ps ws s).D) ∨ (valV ((kI p, y) :: (ps.map kI).zip ys) (kI s) = none ∧ (if s = p then v else bind ps ws s) = .w 0)
    by_cases e : s = p
    · subst e
      rw [if_pos rfl]
      exact .inl ⟨y, valV_pos rfl, h⟩
    · rw [if_neg e, valV_neg (fun z => e (kI_inj z).symm)]
      exact hd_zip t s
theorem dp_nats {K : PySem.W.Frag} {H : Hp} : ∀ {ns : List Nat} {xs : List V}, DpAll K H xs (ns.map nD) → xs = (ns.map kI).map kV
  | [], _, h => by cases h; rfl
  | n :: ns, _, h => by
    cases h with
    | cons h t =>
      cases h
      rw [dp_nats t]
      rfl
theorem zip_sub {α β : Type} : ∀ (ks : List α) (ys : List β), ((ks.zip ys).map (·.1)).Sublist ks
  | [], _ => List.Sublist.refl _
  | _ :: _, [] => List.nil_sublist _
  | k :: ks, _ :: ys => (zip_sub ks ys).cons₂ k
theorem mem_all {K : PySem.W.Frag} {S : Sh K} {A : Ad} {fa : List (Addr × Addr)} {p : Addr × Addr} {a : Addr} (h : a ∈ allA S A (p :: fa)) : a = p.1 ∨ a = p.2 ∨ a ∈ allA S A fa := by
  rcases List.mem_append.mp h with h | h
  · exact .inr (.inr (List.mem_append_left _ h))
  · rcases List.mem_append.mp h with h | h
    · rcases List.mem_cons.mp h with h | h
      · exact .inl h
      · exact .inr (.inr (List.mem_append_right _ (List.mem_append_left _ h)))
    · rcases List.mem_cons.mp h with h | h
      · exact .inr (.inl h)
      · exact .inr (.inr (List.mem_append_right _ (List.mem_append_right _ h)))
def spFrame (K : PySem.W.Frag) : Sp := fun vs H Q _ => ∃ (u dx : Addr) (cv : V) (a : Addr) (t : V), vs = [.ref u, cv, .ref a, t] ∧ H u = some (.ins (CF K) dx []) ∧ Q .non (upd H u (FmO K dx cv 0 a t))
section
variable {P : Program} {w : World} {K : PySem.W.Frag} {mg : Str → Option Value} {base : Heap}
set_option pp.maxSteps 600 in
theorem k_Frame (T : Txt w K mg) : MkC P w K mg base "Frame" 1 (spFrame K) := by
  obtain ⟨fd, F⟩ := T.d_Frame___init__
  refine ⟨⟨_, fd, ["self", "code", "variables", "target"], T.mk_Frame, F.ok sc_Frame___init__ (fun vs H Q E h => by repeat (first | (obtain ⟨e, _⟩ := h; subst e; rfl) | (obtain ⟨_, h⟩ := h))) (fun cdv A outer s H vs Q E hr h => ?_), F.bindsN fun _ _ _ _ _ _ us hl => match us, hl with | [_, _, _, _], _ => rfl⟩, T.g _ (by decide)⟩
  obtain ⟨u, dx, cv, a, t, rfl, hu0, q⟩ := h
  have hu := hu_of hr
  refine ⟨_, PSs.nox (pss_cons (ps_fld (pv 0) (pv 1) (by rfl))
      (pss_cons (ps_fld (pv 0) (pv 2) (by rfl))
      (pss_cons (ps_fld (pv 0) (pv 3) (by rfl))
      (pss_one (ps_fld (pv 0) pe_int (by rfl)))))), ?_⟩
  refine ⟨_, rfl, _, rfl, u, CF K, dx, _, rfl, hu0, T.cl_Frame, T.no_Frame_code, (by show 0 < 1000; decide), ?_⟩
  refine ⟨_, rfl, _, rfl, u, CF K, dx, _, rfl, upd_same, T.cl_Frame, T.no_Frame_variables, (by show 1 < 1000; decide), ?_⟩
  refine ⟨_, rfl, _, rfl, u, CF K, dx, _, rfl, upd_same, T.cl_Frame, T.no_Frame_target, (by show 2 < 1000; decide), ?_⟩
  refine ⟨_, rfl, u, CF K, dx, _, rfl, upd_same, T.cl_Frame, T.no_Frame_next, (by show 3 < 1000; decide), ?_⟩
  rw [upd_upd, upd_upd, upd_upd]
  exact q
def spEnter (K : PySem.W.Frag) : Sp := fun vs H Q _ => ∃ (im : Im) (dx co : Addr) (A : Ad) (fa : List (Addr × Addr)) (s : Ms) (k : Nat) (va : Addr) (ys : List V) (ws : List Wv) (t : Option Nat) (cd : Cd) (n : Nat), vs = [.ref A.top, .int (k : Int), .ref va, optV t] ∧ MsH (ShP K im dx co) im H A fa s .non n ∧ n ≤ 100001 ∧
  im.codes[k]? = some cd ∧ CdOk im cd ∧ (SqT K H va ys ∨ SqL K H va ys) ∧ DpAll K H ys (ws.map Wv.D) ∧
  ∀ H' p, Mv (allA (ShP K im dx co) A fa) H (allA (ShP K im dx co) A (p :: fa)) H' → MsH (ShP K im dx co) im H' A (p :: fa) { s with fr := entered im k ws t :: s.fr } .non (n + 1) → Q .non H'
set_option pp.maxSteps 600 in
theorem m_Process_enter (T : Txt w K mg) : C8.Met P w K mg base 3 (He.ga K "Process") "enter" (spEnter K) [] := by
  obtain ⟨fd, F⟩ := T.d_Process_enter
  have K_Frame := k_Frame (P := P) (w := w) (base := base) T
  refine ⟨_, fd, ["self", "function", "values", "target"], [], T.cl_Process, T.m_Process_enter, F.ok sc_Process_enter (fun vs H Q E h => by repeat (first | (obtain ⟨e, _⟩ := h; subst e; rfl) | (obtain ⟨_, h⟩ := h))) (fun cdv A outer s H vs Q E hr h => ?_), F.bindsN fun _ _ _ _ _ _ us hl => match us, hl with | [_, _, _, _], _ => rfl, .nil⟩
  obtain ⟨im, dx, co, A, fa, s, k, va, ys, ws, t, cd, n, rfl, hm, hn, hcd, hok, hys, hws, q⟩ := h
  have hu := hu_of hr
  refine ⟨_, PSs.nox (pss_cons (ps_asg (pe_dget hu (pe_fld (pv 0) rfl) (pv 1) (fun _ _ => rfl)) (pg_tupK (K := K) (n := 2) rfl rfl (pgs_cons (pg_name (i := 4) sc_Process_enter.nd rfl (.inl rfl)) (pgs_cons (pg_name (i := 5) sc_Process_enter.nd rfl (.inl rfl)) pgs_nil))))
      (pss_one (ps_expr (pe_bm PySem.F.plainAttrs_list PySem.F.slot_list_append PySem.F.type_list_append mt_append (pe_fld (pv 0) rfl) (pa_cons (pe_mk K_Frame (hr.mono (by omega)) (by rfl) (pa_cons (pv 5) (pa_cons (pe_dictZip rfl (by rfl) T.n_dict (by rfl) T.n_zip (pv 4) (pv 2)) (pa_cons (pv 3) pa_nil)))) pa_nil))))), ?_⟩
  have htop := hm.bs.top
  have hfr := hm.bs.fr
  obtain ⟨ckv, hco, hcodes⟩ := hm.bs.ex
  obtain ⟨cdv, hcv1, hcv2⟩ := hcodes k cd hcd
  refine ⟨_, rfl, A.top, CP K, dx, _, .ref co, rfl, htop, T.cl_Process, T.no_Process_codes, rfl, _, rfl, co, cdv, rfl, .inl ⟨ckv, Sum.inl (k : Int), .inl hco, rfl, hcv1.symm⟩, ?_⟩
  cases hcv2 with
  | @tup za zs _ zq zz =>
  cases zz with
  | @cons pv _ t1 _ g1 t1 =>
  cases t1 with
  | @cons cv _ t2 _ g2 t2 =>
  cases t2
  cases g1 with
  | @tup pa px _ psq pall =>
  refine ⟨za, _, rfl, zq, rfl, _, _, rfl, _, _, rfl, rfl, ?_⟩
  refine ⟨_, rfl, A.top, CP K, dx, _, .ref A.fr, rfl, htop, T.cl_Process, T.no_Process_frames, rfl, .inl ⟨rfl, _, .inl (.inl hfr)⟩, ?_⟩
  have epx := dp_nats pall
  subst epx
  refine ⟨_, rfl, _, rfl, _, rfl, pa, va, cd.ps.map kI, ys, rfl, psq, hys, fun dd hdd => ?_⟩
  have nks : (((cd.ps.map kI).zip ys).map (·.1)).Nodup := by
    exact (List.Pairwise.map _ (fun a b h z => h (kI_inj z)) hok.ps.2.1).sublist (zip_sub _ _)
  rw [mergeK_nd nks]
  refine ⟨_, rfl, fun u dxx hu1 hdx ne => ?_⟩
  refine ⟨u, dxx, cv, dd, optV t, rfl, upd_same, rfl, ?_⟩
  rw [upd_upd]
  have s1 : Same H (upd H dd (.dK ((cd.ps.map kI).zip ys))) := same_new hdd
  have s3 : Same H (upd (upd (upd H dd (.dK ((cd.ps.map kI).zip ys))) dxx (.own u)) u (FmO K dxx cv 0 dd (optV t))) := fun b o e => by
    rw [upd_ne (ne_of_none (s1 _ _ e) hu1), upd_ne (ne_of_none (s1 _ _ e) hdx)]
    exact s1 _ _ e
  have eu : (upd (upd (upd H dd (.dK ((cd.ps.map kI).zip ys))) dxx (.own u)) u (FmO K dxx cv 0 dd (optV t))) u = some (FmO K dxx cv 0 dd (optV t)) := upd_same
  have nud : u ≠ dd := fun z => by rw [z, upd_same] at hu1; cases hu1
  have nxd : dxx ≠ dd := fun z => by rw [z, upd_same] at hdx; cases hdx
  have ed : (upd (upd (upd H dd (.dK ((cd.ps.map kI).zip ys))) dxx (.own u)) u (FmO K dxx cv 0 dd (optV t))) dd = some (.dK ((cd.ps.map kI).zip ys)) := by
    rw [upd_ne nud.symm, upd_ne nxd.symm]
    exact upd_same
  have hu0 : H u = none := s1.free hu1
  generalize upd (upd (upd H dd (.dK ((cd.ps.map kI).zip ys))) dxx (.own u)) u (FmO K dxx cv 0 dd (optV t)) = H3 at s3 eu ed ⊢
  have hm3 := hm.same s3
  have hall := hm.has fun a ha => by rw [List.mem_singleton.mp ha, hco]; exact Option.some_ne_none _
  have nu : u ∉ allA (ShP K im dx co) A fa := fun z => hall u z hu0
  have nd : dd ∉ allA (ShP K im dx co) A fa := fun z => hall dd z hdd
  have hrows : Dp K H cv (rowsD im k) := by
    unfold rowsD
    rw [hcd]
    exact g2
  have hlen : ((cd.ps.map kI).zip ys).length ≤ 4 := by
    rw [List.length_zip, List.length_map]
    have := hok.ps.1
    omega
  have hf : FmH (ShP K im dx co) im H3 (u, dd) (entered im k ws t) (n + 1) := by
    refine ⟨_, cv, eu, ⟨dxx, rfl⟩, dp_mono s3 _ _ hrows, _, ed, by omega, fun x hx => ?_⟩
    show (∃ v, valV _ (kI x) = some v ∧ Dp K H3 v (bind (psOf im k) ws x).D) ∨ (valV _ (kI x) = none ∧ bind (psOf im k) ws x = .w 0)
    have eps : psOf im k = cd.ps := by unfold psOf; rw [hcd]; rfl
    rw [eps]
    exact hd_zip (dpAll_mono s3 _ _ hws) x
  have hl := hm.len
  have hfr3 := s3 _ _ hfr
  refine ⟨A.fr, _, .ref u, rfl, rfl, hfr3, by rw [List.length_reverse, List.length_map, List.length_map]; exact small_line (by omega), ?_⟩
  have h4 := (hm3.up (Nat.le_succ n)).push (p := (u, dd)) nud nu nd hf (by omega)
  rw [show ((fa.map (·.1)).map V.ref).reverse = (fa.map fun q => V.ref q.1).reverse by rw [List.map_map]; rfl]
  refine q _ (u, dd) ?_ h4
  have m1 : Mv (allA (ShP K im dx co) A fa) H (allA (ShP K im dx co) A fa) (upd H3 A.fr (.lst ((fa.map fun q => V.ref q.1).reverse ++ [.ref u]))) := (Mv.of s3).trans (Mv.put (in_base (by simp)) (by rw [hfr3]; exact True.intro))
  refine m1.sub fun a ha => ?_
  rcases mem_all ha with h | h | h
  · exact .inr (h ▸ hu0)
  · exact .inr (h ▸ hdd)
  · exact .inl h
end
end K18

set_option maxHeartbeats 1000000
namespace K18
open PySem PySem.Spec PyProof.Rows L2 HG P18
def spBegin (K : PySem.W.Frag) : Sp := fun vs H Q _ => ∃ (im : Im) (dx co : Addr) (A : Ad) (fa : List (Addr × Addr)) (s : Ms) (k : Nat) (ws : List Nat) (cs : List (Nat × List Nat)) (cd : Cd) (n : Nat), vs = [.ref A.top] ∧ MsH (ShP K im dx co) im H A fa s .non n ∧ n ≤ 100001 ∧ s.calls = (k, ws) :: cs ∧
  im.codes[k]? = some cd ∧ CdOk im cd ∧
  ∀ H' p, Mv (allA (ShP K im dx co) A fa) H (allA (ShP K im dx co) A (p :: fa)) H' → MsH (ShP K im dx co) im H' A (p :: fa) { s with fr := entered im k (ws.map Wv.w) none :: s.fr, calls := cs } .non (n + 1) → Q .non H'
theorem dp_words {K : PySem.W.Frag} {H : Hp} {ys : List V} {ws : List Nat} (h : DpAll K H ys (ws.map nD)) : DpAll K H ys ((ws.map Wv.w).map Wv.D) := by
  rw [List.map_map]
  exact h
theorem seqIx {j n : Nat} (h : j < n) : seqIndex? (j : Int) n = some j := by
  unfold seqIndex?
  simp
  omega
section
variable {P : Program} {w : World} {K : PySem.W.Frag} {mg : Str → Option Value} {base : Heap}
set_option pp.maxSteps 600 in
theorem m_Process_begin (T : Txt w K mg) : C8.Met P w K mg base 4 (He.ga K "Process") "begin" (spBegin K) [] := by
  obtain ⟨fd, F⟩ := T.d_Process_begin
  have M_Process_enter := m_Process_enter (P := P) (w := w) (base := base) T
  refine ⟨_, fd, ["self"], [], T.cl_Process, T.m_Process_begin, F.ok sc_Process_begin (fun vs H Q E h => by repeat (first | (obtain ⟨e, _⟩ := h; subst e; rfl) | (obtain ⟨_, h⟩ := h))) (fun cdv A outer s H vs Q E hr h => ?_), F.bindsN fun _ _ _ _ _ _ us hl => match us, hl with | [_], _ => rfl, .nil⟩
  obtain ⟨im, dx, co, A, fa, s, k, ws, cs, cd, n, rfl, hm, hn, hcs, hcd, hok, q⟩ := h
  have hu := hu_of hr
  refine ⟨_, PSs.nox (pss_cons (ps_asg (pe_bm PySem.F.plainAttrs_list PySem.F.slot_list_pop PySem.F.type_list_pop mt_popAt (pe_fld (pv 0) rfl) (pa_cons pe_int pa_nil)) (pg_tupK (K := K) (n := 2) rfl rfl (pgs_cons (pg_name (i := 1) sc_Process_begin.nd rfl (.inl rfl)) (pgs_cons (pg_name (i := 2) sc_Process_begin.nd rfl (.inl rfl)) pgs_nil))))
      (pss_one (ps_expr (C8.pe_mt M_Process_enter hr (by omega) (pv 0) (pa_cons (pv 1) (pa_cons (pv 2) (pa_cons pe_non pa_nil))))))), ?_⟩
  have htop := hm.bs.top
  obtain ⟨vs, hwa, hvs⟩ := hm.bs.wa
  rw [hcs] at hvs
  cases hvs with
  | @cons v0 vr _ _ g0 gr =>
  refine ⟨_, rfl, A.top, CP K, dx, _, .ref A.wa, rfl, htop, T.cl_Process, T.no_Process_waiting, rfl, .inl ⟨rfl, _, .inl (.inl hwa)⟩, ?_⟩
  have hm1 := hm.putWa gr
  have hmu : Mut (H A.wa) := by rw [hwa]; exact True.intro
  have m1 : Mv (allA (ShP K im dx co) A fa) H (allA (ShP K im dx co) A fa) (upd H A.wa (.lst vr)) := Mv.put (in_base (by simp)) hmu
  have hn0 : noL (callD (k, ws)) = true := by simp only [callD, noL, noLAll, nlAll nlN, Bool.and_true]
  have g0 := dp_kt m1.kt _ _ hn0 g0
  refine ⟨A.wa, _, 0, 0, v0, rfl, rfl, hwa, by decide, by decide, seqIx (Nat.succ_pos _), rfl, ?_⟩
  show gTup K 2 _ v0 _ (upd H A.wa (.lst vr)) _
  generalize upd H A.wa (.lst vr) = H1 at hm1 m1 g0 ⊢
  have htop1 := hm1.bs.top
  cases g0 with
  | @tup za zs _ zq zz =>
  cases zz with
  | cons h1 t1 =>
  cases t1 with
  | @cons wv _ t2 _ h2 t2 =>
  cases t2
  cases h1
  cases h2 with
  | @tup wa wx _ wq wall =>
  refine ⟨za, _, rfl, zq, rfl, _, _, rfl, _, _, rfl, rfl, ?_⟩
  refine ⟨_, rfl, A.top, dx, _, rfl, htop1, rfl, _, rfl, _, rfl, ?_⟩
  exact ⟨im, dx, co, A, fa, { s with calls := cs }, k, wa, wx, ws.map Wv.w, none, cd, n, rfl, hm1, hn, hcd, hok, .inl wq, dp_words wall, fun H' p m2 h2 => q H' p (m1.trans m2) h2⟩
end
end K18

set_option maxHeartbeats 1000000
namespace K18
open PySem PySem.Spec PyProof.Rows L2 HG P18
def calls : Rw → Bool
  | .ca _ _ _ => true
  | .ap _ _ _ => true
  | _ => false
def spCall (K : PySem.W.Frag) : Sp := fun vs H Q _ => ∃ (im : Im) (dx co : Addr) (A : Ad) (p : Addr × Addr) (fa : List (Addr × Addr)) (s : Ms) (f0 : Fm) (r : List Fm) (R : Rw) (n : Nat) (v : V), vs = [.ref A.top, .ref p.1, v] ∧ Sit K v H im dx co A p fa s f0 r R n ∧ calls R = true ∧
  Post (ShP K im dx co) im A (p :: fa) H n (Q .non) (stepR im s (adv f0) r R)
section
variable {P : Program} {w : World} {K : PySem.W.Frag} {mg : Str → Option Value} {base : Heap}
set_option pp.maxSteps 600 in
theorem m_Process_call (T : Txt w K mg) : C8.Met P w K mg base 4 (He.ga K "Process") "call" (spCall K) [] := by
  obtain ⟨fd, F⟩ := T.d_Process_call
  have M_Process_enter := m_Process_enter (P := P) (w := w) (base := base) T
  have M_Frame_value := m_Frame_value (P := P) (w := w) (base := base) T
  refine ⟨_, fd, ["self", "frame", "instruction"], [], T.cl_Process, T.m_Process_call, F.ok sc_Process_call (fun vs H Q E h => by repeat (first | (obtain ⟨e, _⟩ := h; subst e; rfl) | (obtain ⟨_, h⟩ := h))) (fun cdv A outer s H vs Q E hr h => ?_), F.bindsN fun _ _ _ _ _ _ us hl => match us, hl with | [_, _, _], _ => rfl, .nil⟩
  obtain ⟨im, dx, co, A, p, fa, s, f0, r, R, n, v, rfl, ⟨hv, hrow, hn, hm⟩, hca, q⟩ := h
  have hu := hu_of hr
  refine ⟨_, PSs.nox (pss_cons (ps_asg (pv 2) (pg_tupK (K := K) (n := 4) rfl rfl (pgs_cons (pg_name (i := 3) sc_Process_call.nd rfl (.inl rfl)) (pgs_cons (pg_name (i := 4) sc_Process_call.nd rfl (.inl rfl)) (pgs_cons (pg_name (i := 5) sc_Process_call.nd rfl (.inl rfl)) (pgs_cons (pg_name (i := 6) sc_Process_call.nd rfl (.inl rfl)) pgs_nil))))))
      (pss_cons (ps_if (pt_cmpR op_eq (pv 3) pe_str (nomark _)) (pss_one (ps_set (i := 5) sc_Process_call.nd rfl (.inl rfl) (pe_ix (ix_P (K := K) rfl) (pe_dget hu (pe_fld (pv 1) rfl) (pv 5) (fun _ _ => rfl)) pe_int (fun _ _ => rfl)))) pss_nil)
      (pss_one (ps_expr (C8.pe_mt M_Process_enter hr (by omega) (pv 0) (pa_cons (pv 5) (pa_cons (pe_lc (own := [("argument", 7)]) (by rfl) sc_Process_call.nd (pi_tup (pv 6)) (blkOk_by (own := [("argument", 7)]) (N := N_Process_call) (sc := defScope s_Process_call) (by decide +kernel)) (fun _ _ _ _ _ => (pg_name (i := 7) sc_Process_call.nd rfl (.inl rfl))) (fun _ _ _ _ _ => pts_nil) (fun _ _ _ _ _ => (C8.pe_mt M_Frame_value hr (by omega) (pv 1) (pa_cons (pv 7) pa_nil)))) (pa_cons (pv 4) pa_nil)))))))), ?_⟩
  obtain ⟨d, cv, kv, hp1, hcv, hp2, hkl, hkv⟩ := top_at hm
  obtain ⟨cd, _, _, hh, hrw, _⟩ := hrow.cd
  have htop := hm.bs.top
  -- the arguments and the call
  have fin : ∀ (k : Nat) (cd2 : Cd) (as : List Op) (t : Option Nat) (aa : Addr) (xs : List V) (fo : V) (wd : Str), im.codes[k]? = some cd2 → (∀ a ∈ as, OpOk a) → as.length ≤ 4 → SqT K H aa xs → DpAll K H xs (as.map Op.D) → (Post (ShP K im dx co) im A (p :: fa) H n (Q .non) (.go { s with fr := entered im k (as.map (worth f0.h)) t :: adv f0 :: r } none)) →
      tDrop (tMeth (He.ga K "Process") "enter" (spEnter K) [] C8.E0 (tVar 0) (tCons (tVar 5) (tCons (tLc (iTup K (tVar 6)) (gName 7) tYes (tMeth (He.ga K "Frame") "value" (spValue K) [] C8.E0 (tVar 1) (tCons (tVar 7) tNil)) (([("argument", 7)] : List (Str × Nat)).map (·.2))) (tCons (tVar 4) tNil)))) { nx := fun x H' => Q V.non H', rt := Q } [some (.ref A.top), some (.ref p.1), some v, some (.str wd), some (optV t), some (.int (k : Int)), some (.ref aa), none] H := by
    intro k cd2 as t aa xs fo wd hcd hoa hal sq hxs hq
    refine ⟨_, rfl, A.top, dx, _, rfl, htop, rfl, _, rfl, _, rfl, aa, rfl, ⟨xs, sq⟩, fun D hD => ?_⟩
    have hxl := dpAll_len hxs
    rw [List.length_map] at hxl
    refine lc_tup (xs := xs) (fun i H2 => ∃ us, H2 D = some (.lst us) ∧ DpAll K H2 us (((as.take i).map (worth f0.h)).map Wv.D) ∧ us.length = i ∧ Same H H2) ⟨[], upd_same, .nil, rfl, same_new hD⟩ ?_ ?_ ?_
    · rintro i H2 _ ⟨_, _, _, _, s2⟩
      exact sqT_same s2 sq
    · rintro i x H2 hi ⟨us, h2, hus, hul, s2⟩
      obtain ⟨o, ho, hxo⟩ := dpAll_map_get hxs hi
      have hi4 := (List.getElem?_eq_some_iff.mp ho).1
      have hok := hoa o (List.mem_of_getElem? ho)
      refine ⟨rfl, tyes ⟨_, rfl, p.1, d, _, rfl, s2 _ _ hp1, rfl, _, rfl, p.1, d, p.2, cv, _, x, _, kv, f0.h, some o, rfl, s2 _ _ hp1, s2 _ _ hp2, hkv.kt (KT.of s2), dp_mono s2 _ _ hxo, opOk_lt hok, fun z hz => ⟨us, h2, small_line (by omega), us ++ [z], upd_same, ?_, by rw [List.length_append, hul]; rfl, fun b o' e => by rw [upd_ne (ne_of_none e hD)]; exact s2 _ _ e⟩⟩⟩
      have k := KT.lst (o := .lst (us ++ [z])) h2
      have nlT : ∀ l : List Wv, noLAll (l.map Wv.D) = true := fun l => noLAll_map fun v _ => nlW v
      have hz : Dp K H2 z (worth f0.h o).D := hz
      rw [List.take_add_one, ho, List.map_append, List.map_append]
      exact dpAll_app (dpAll_kt k _ _ (nlT _) hus) (.cons (dp_kt k _ _ (nlW _) hz) .nil)
    rintro H2 ⟨us, h2, hus, hul, s2⟩
    rw [hxl, List.take_of_length_le (Nat.le_refl _)] at hus
    refine ⟨_, rfl, ?_⟩
    have hm2 := hm.same s2
    exact ⟨im, dx, co, A, p :: fa, { s with fr := adv f0 :: r }, k, D, us, as.map (worth f0.h), t, cd2, n, rfl, hm2, by omega, hcd, hrow.I.codes cd2 (List.mem_of_getElem? hcd), .inr (.inl (.inl h2)), hus, fun H' p2 m2 h2 => hq H' (p2 :: p :: fa) ((Mv.of s2).trans m2) h2⟩
  cases R with
  | ca t k as =>
    obtain ⟨_, _, cd2, hcd, hto, hal, hoa⟩ := hrw
    have hps := (hrow.I.codes cd2 (List.mem_of_getElem? hcd)).ps.1
    cases hv with
    | @tup za zs _ zq zz =>
    cases zz with
    | cons h1 t1 =>
    cases t1 with
    | @cons tv _ t2 _ h2 t2 =>
    cases t2 with
    | cons h3 t3 =>
    cases t3 with
    | @cons av _ t4 _ h4 t4 =>
    cases t4
    cases h1
    cases h3
    cases h4 with
    | @tup aa xs _ aq axs =>
    have etv : tv = optV t := by
      cases t with
      | none => cases h2; rfl
      | some t => cases h2; rfl
    subst etv
    refine ⟨_, rfl, za, _, rfl, zq, rfl, _, _, rfl, _, _, rfl, _, _, rfl, _, _, rfl, rfl, ?_⟩
    refine ⟨_, rfl, rfl, _, rfl, ?_⟩
    rw [sne (show ("call" : Str) ≠ "apply" by decide +kernel)]
    exact iteF (fin k cd2 as t aa xs .non "call" hcd hoa (by omega) aq axs q)
  | ap t u a =>
    obtain ⟨_, _, hto, huu, hoa⟩ := hrw
    have hfu : FOk im (f0.h u) := by
      rcases huu with rfl | rfl
      · exact hh.f8 (by omega)
      · exact hh.f9 (by omega)
    obtain ⟨k, ek, cd2, hcd, hr2, p2, hp2'⟩ := hfu
    have q : Post (ShP K im dx co) im A (p :: fa) H n (Q .non) (match f0.h u with | .f k => .go { s with fr := entered im k [worth f0.h a] t :: adv f0 :: r } none | .w _ => .stop (.halted 0)) := q
    rw [ek] at q
    cases hv with
    | @tup za zs _ zq zz =>
    cases zz with
    | cons h1 t1 =>
    cases t1 with
    | @cons tv _ t2 _ h2 t2 =>
    cases t2 with
    | cons h3 t3 =>
    cases t3 with
    | @cons av _ t4 _ h4 t4 =>
    cases t4
    cases h1
    cases h3
    cases h4 with
    | @tup aa xs _ aq axs =>
    have etv : tv = optV t := by
      cases t with
      | none => cases h2; rfl
      | some t => cases h2; rfl
    subst etv
    refine ⟨_, rfl, za, _, rfl, zq, rfl, _, _, rfl, _, _, rfl, _, _, rfl, _, _, rfl, rfl, ?_⟩
    refine ⟨_, rfl, rfl, _, rfl, ?_⟩
    rw [seq "apply"]
    have hkv' : HdV K H kv f0.h := hkv
    rcases hkv' u (by omega) with ⟨y, e, dy⟩ | ⟨_, e⟩
    · rw [ek] at dy
      refine iteT ⟨_, rfl, p.1, CF K, d, _, .ref p.2, rfl, hp1, T.cl_Frame, T.no_Frame_variables, rfl, _, rfl, p.2, y, rfl, .inl ⟨kv, Sum.inl (u : Int), .inl hp2, rfl, e.symm⟩, _, 1, _, dy, rfl, rfl, fun z hz => ?_⟩
      cases hz
      exact fin k cd2 [a] t aa xs .non "apply" hcd (fun b hb => by rw [List.mem_singleton.mp hb]; exact hoa) (show 1 ≤ 4 by decide) aq axs q
    · rw [ek] at e
      cases e
  | _ => cases hca
end
end K18

set_option maxHeartbeats 1000000
namespace K18
open PySem PySem.Spec PyProof.Rows L2 HG P18
def spLeave (K : PySem.W.Frag) : Sp := fun vs H Q _ => ∃ (im : Im) (dx co : Addr) (A : Ad) (p : Addr × Addr) (fa : List (Addr × Addr)) (s : Ms) (f0 : Fm) (r : List Fm) (a : Option Op) (n : Nat) (v : V), vs = [.ref A.top, .ref p.1, v] ∧ Dp K H v (oD a) ∧ Row im s f0 r (.rt a) ∧ n ≤ 100000 ∧ MsH (ShP K im dx co) im H A (p :: fa) { s with fr := adv f0 :: r } .non n ∧
  Post (ShP K im dx co) im A (p :: fa) H n (Q .non) (stepR im s (adv f0) r (.rt a))
theorem fms_nil {K : PySem.W.Frag} {S : Sh K} {im : Im} {H : Hp} {n : Nat} {fa : List (Addr × Addr)} {fs : List Fm} (h : Fms S im H n fa fs) : fa = [] ↔ fs = [] := by
  cases fa <;> cases fs <;> first | exact ⟨fun _ => rfl, fun _ => rfl⟩ | exact h.elim | exact ⟨(fun e => nomatch e), (fun e => nomatch e)⟩
theorem sub_all {K : PySem.W.Frag} {S : Sh K} {A : Ad} {fa : List (Addr × Addr)} {p : Addr × Addr} {a : Addr} (h : a ∈ allA S A fa) : a ∈ allA S A (p :: fa) := by
  rcases List.mem_append.mp h with h | h
  · exact List.mem_append_left _ h
  · refine List.mem_append_right _ ?_
    rcases List.mem_append.mp h with h | h
    · exact List.mem_append_left _ (List.mem_cons_of_mem _ h)
    · exact List.mem_append_right _ (List.mem_cons_of_mem _ h)
section
variable {P : Program} {w : World} {K : PySem.W.Frag} {mg : Str → Option Value} {base : Heap}
set_option pp.maxSteps 600 in
theorem m_Process_leave (T : Txt w K mg) : C8.Met P w K mg base 5 (He.ga K "Process") "leave" (spLeave K) [] := by
  obtain ⟨fd, F⟩ := T.d_Process_leave
  have M_Frame_value := m_Frame_value (P := P) (w := w) (base := base) T
  have M_Process_begin := m_Process_begin (P := P) (w := w) (base := base) T
  refine ⟨_, fd, ["self", "frame", "operand"], [], T.cl_Process, T.m_Process_leave, F.ok sc_Process_leave (fun vs H Q E h => by repeat (first | (obtain ⟨e, _⟩ := h; subst e; rfl) | (obtain ⟨_, h⟩ := h))) (fun cdv A outer s H vs Q E hr h => ?_), F.bindsN fun _ _ _ _ _ _ us hl => match us, hl with | [_, _, _], _ => rfl, .nil⟩
  obtain ⟨im, dx, co, A, p, fa, s, f0, r, a, n, v, rfl, hv, hrow, hn, hm, q⟩ := h
  have hu := hu_of hr
  refine ⟨_, PSs.nox (pss_cons (ps_set (i := 3) sc_Process_leave.nd rfl (.inl rfl) (C8.pe_mt M_Frame_value hr (by omega) (pv 1) (pa_cons (pv 2) pa_nil)))
      (pss_cons (ps_expr (pe_bm0 PySem.F.plainAttrs_list PySem.F.slot_list_pop PySem.F.type_list_pop mt_pop (pe_fld (pv 0) rfl)))
      (pss_one (ps_if (pt_cmpR (op_neE (K := K) rfl (Nat.lt_of_succ_lt hu)) (pe_fld (pv 0) rfl) (pe_lst pa_nil) (nomark _)) (pss_one (ps_if (pt_cmpR op_notN (pe_fld (pv 1) rfl) pe_non (nomark _)) (pss_one (ps_dput hu (pe_fld (pe_ix (ix_listK (K := K) rfl) (pe_fld (pv 0) rfl) (pe_un un_neg pe_int) (fun _ _ => rfl)) rfl) (pe_fld (pv 1) rfl) (pv 3) rfl)) pss_nil)) (pss_one (ps_if (pt_cmpR (op_neE (K := K) rfl (Nat.lt_of_succ_lt hu)) (pe_fld (pv 0) rfl) (pe_lst pa_nil) (nomark _)) (pss_one (ps_expr (C8.pe_mt0 M_Process_begin hr (by omega) (pv 0)))) (pss_one (ps_fld (pv 0) (pe_tup (pa_cons pe_str (pa_cons (pv 3) pa_nil))) (by rfl))))))))), ?_⟩
  obtain ⟨d, cv, kv, hp1, hcv, hp2, hkl, hkv⟩ := top_at hm
  obtain ⟨cd, hcd0, _, hh, ⟨_, hra, hoa⟩, hto⟩ := hrow.cd
  have htop := hm.bs.top
  have hfr := hm.bs.fr
  have ho10 : ∀ x, a = some (.v x) → x < 10 := fun x e => opOk_lt (hoa _ e) x rfl
  refine ⟨_, rfl, p.1, d, _, rfl, hp1, rfl, _, rfl, p.1, d, p.2, cv, _, v, _, kv, f0.h, a, rfl, hp1, hp2, hkv, hv, ho10, fun z hz => ?_⟩
  -- the frame goes
  have ehd : ((p :: fa).map (·.1)).map V.ref = .ref p.1 :: (fa.map fun q => V.ref q.1) := by rw [List.map_cons, List.map_cons, List.map_map]; rfl
  rw [ehd, List.reverse_cons] at hfr
  refine ⟨_, rfl, A.top, CP K, dx, _, .ref A.fr, rfl, htop, T.cl_Process, T.no_Process_frames, rfl, .inl ⟨rfl, _, .inl (.inl hfr)⟩, A.fr, _, .ref p.1, rfl, rfl, hfr, ?_, ?_⟩
  · rw [List.length_append, List.length_singleton, Nat.add_sub_cancel, List.getElem?_append_right (Nat.le_refl _), Nat.sub_self]
    rfl
  rw [List.dropLast_concat]
  have hm1 := hm.pop rfl
  have hmu : Mut (H A.fr) := by rw [hfr]; exact True.intro
  have m1 : Mv (allA (ShP K im dx co) A (p :: fa)) H (allA (ShP K im dx co) A fa) (upd H A.fr (.lst ((fa.map fun q => V.ref q.1).reverse))) := (Mv.put (in_base (by simp)) hmu).sub fun a ha => .inl (sub_all ha)
  have z1 := dp_kt m1.kt _ _ (show noL (wD (a.map (worth f0.h))) = true by cases a with | none => rfl | some o => exact nlW _) hz
  have hp1' : (upd H A.fr (.lst ((fa.map fun q => V.ref q.1).reverse))) p.1 = some (FmO K d cv (adv f0).pc p.2 (optV (adv f0).t)) := by
    rw [upd_ne (fun e => (nd_cons.mp hm.nd).2.1 (by rw [e]; exact in_base (by simp)))]
    exact hp1
  generalize upd H A.fr (.lst ((fa.map fun q => V.ref q.1).reverse)) = H1 at hm1 m1 z1 hp1' ⊢
  have q : Post (ShP K im dx co) im A (p :: fa) H n (Q .non) (left im s r f0.t (a.map (worth f0.h))) := q
  have htop1 := hm1.bs.top
  have hfr1 := hm1.bs.fr
  have nil1 := fms_nil hm1.fm
  refine ⟨_, rfl, A.top, CP K, dx, _, .ref A.fr, rfl, htop1, T.cl_Process, T.no_Process_frames, rfl, Nat.zero_le _, fun pe hpe => ?_⟩
  have s2 := same_new (o := .lst []) hpe
  have hm2 := hm1.same s2
  have e2 : (upd H1 pe (.lst [])) pe = some (.lst []) := upd_same
  have hp2' := s2 _ _ hp1'
  have z2 := dp_mono s2 _ _ z1
  have m2 := m1.trans (Mv.of s2)
  generalize upd H1 pe (.lst []) = H2 at hm2 e2 hp2' z2 m2 ⊢
  have htop2 := hm2.bs.top
  have hfr2 := hm2.bs.fr
  refine ⟨A.fr, pe, _, rfl, rfl, .inl (.inl hfr2), .inl (.inl e2), _, rfl, ?_⟩
  -- who goes on
  cases hr1 : r with
  | nil =>
    have hfa : fa = [] := nil1.mpr hr1
    subst hfa hr1
    have hst := hrow.ok.fr
    rw [hrow.fr] at hst
    obtain ⟨ht0, cd', hf', hret⟩ := hst
    have ecd : cd' = cd := by
      obtain ⟨cd0, e0, _⟩ := hrow.cd
      have := hf'.code
      rw [‹im.codes[f0.k]? = some cd›] at this
      exact (Option.some.inj this).symm
    obtain ⟨vs, hwa, hvs⟩ := hm2.bs.wa
    refine iteF ⟨_, rfl, A.top, CP K, dx, _, .ref A.wa, rfl, htop2, T.cl_Process, T.no_Process_waiting, rfl, Nat.zero_le _, fun pf hpf => ?_⟩
    have s3 := same_new (o := .lst []) hpf
    have hm3 := hm2.same s3
    have e3 : (upd H2 pf (.lst [])) pf = some (.lst []) := upd_same
    have z3 := dp_mono s3 _ _ z2
    have m3 := m2.trans (Mv.of s3)
    have hwa3 := s3 _ _ hwa
    have hvs3 := dpAll_mono s3 _ _ hvs
    generalize upd H2 pf (.lst []) = H3 at hm3 e3 z3 m3 hwa3 hvs3 ⊢
    have htop3 := hm3.bs.top
    refine ⟨A.wa, pf, vs, rfl, rfl, .inl (.inl hwa3), .inl (.inl e3), _, rfl, ?_⟩
    have hcl : ({ s with fr := [] } : Ms).calls = s.calls := rfl
    cases hcs : s.calls with
    | nil =>
      have hvs3 : DpAll K H3 vs (s.calls.map callD) := hvs3
      rw [hcs] at hvs3
      cases hvs3
      have hsome := hra.mp (ecd ▸ hret)
      obtain ⟨o, rfl⟩ := Option.isSome_iff_exists.mp hsome
      obtain ⟨m, rfl, em, hm9⟩ := wv_op hh (hoa o rfl) z3
      have q : Post (ShP K im dx co) im A [p] H n (Q .non) (match s.calls with | (k, ws) :: cs => .go { s with fr := [entered im k (ws.map Wv.w) none], calls := cs } none | [] => .stop (.returned (worth f0.h o).n)) := q
      rw [hcs, em] at q
      exact iteF ⟨_, rfl, (by show 2 ≤ sizeLine; decide), fun pt hpt => ⟨_, rfl, A.top, CP K, dx, _, rfl, upd_get hpt htop3, T.cl_Process, T.no_Process_end, (by show 6 < 1000; decide), hm3.endAt (m := n) hpt (e := .returned m) (.cons (.str _) (.cons (.int (m : Int)) .nil)) fun H' fa' v mv e d => q H' fa' v (m3.trans mv) e d⟩⟩
    | cons c0 cs =>
      obtain ⟨k, ws⟩ := c0
      have hvs3 : DpAll K H3 vs (s.calls.map callD) := hvs3
      rw [hcs] at hvs3
      cases hvs3 with
      | @cons v0 vr _ _ g0 gr =>
      have hcc := hrow.ok.calls.2 (k, ws) (by rw [hcs]; exact List.mem_cons_self)
      obtain ⟨cd2, hcd2, _, _, _⟩ := hcc
      have q : Post (ShP K im dx co) im A [p] H n (Q .non) (match s.calls with | (k, ws) :: cs => .go { s with fr := [entered im k (ws.map Wv.w) none], calls := cs } none | [] => .stop (.returned (((a.map (worth f0.h)).map Wv.n).getD 0))) := q
      rw [hcs] at q
      refine iteT ⟨_, rfl, A.top, dx, _, rfl, htop3, rfl, ?_⟩
      exact ⟨im, dx, co, A, [], { s with fr := [] }, k, ws, cs, cd2, n, rfl, hm3, by omega, hcs, hcd2, hrow.I.codes cd2 (List.mem_of_getElem? hcd2), fun H' p2 mv h2 => q H' [p2] (m3.trans mv) h2⟩
  | cons g r' =>
    obtain ⟨b, fb, rfl⟩ : ∃ b fb, fa = b :: fb := by
      cases fa with
      | nil => have e : r = [] := nil1.mp rfl; rw [e] at hr1; cases hr1
      | cons b fb => exact ⟨b, fb, rfl⟩
    subst hr1
    rw [show (((b :: fb).map (·.1)).map V.ref).reverse.isEmpty = false by simp]
    refine iteT ⟨_, rfl, p.1, CF K, d, _, optV f0.t, rfl, hp2', T.cl_Frame, T.no_Frame_target, rfl, rfl, _, rfl, ?_⟩
    have q : Post (ShP K im dx co) im A (p :: b :: fb) H n (Q .non) (.go { s with fr := (match f0.t, a.map (worth f0.h) with | some t, some v => { g with h := hput g.h t v } | _, _ => g) :: r' } none) := q
    cases ht : f0.t with
    | none =>
      rw [ht] at q
      exact iteF (q H2 (b :: fb) m2 (hm2.up (Nat.le_succ n)))
    | some t =>
      rw [ht] at q
      obtain ⟨ht4, hret⟩ := hto t ht
      obtain ⟨o, rfl⟩ := Option.isSome_iff_exists.mp (hra.mp hret)
      have q : Post (ShP K im dx co) im A (p :: b :: fb) H n (Q .non) (.go { s with fr := { g with h := hput g.h t (worth f0.h o) } :: r' } none) := q
      have z2 : Dp K H2 z (worth f0.h o).D := z2
      obtain ⟨d2, cv2, kv2, hb1, hcv2, hb2, hkl2, hkv2⟩ := top_at hm2
      have hmu2 : Mut (H2 b.2) := by rw [hb2]; exact True.intro
      have hfr2 : H2 A.fr = some (.lst ((fb.map fun q => V.ref q.1).reverse ++ [.ref b.1])) := by
        rw [hfr2, List.map_cons, List.map_cons, List.reverse_cons, List.map_map]
        rfl
      refine iteT ⟨_, rfl, _, rfl, A.top, CP K, dx, _, .ref A.fr, rfl, htop2, T.cl_Process, T.no_Process_frames, rfl, 1, rfl, A.fr, _, -1, .ref b.1, rfl, rfl, .inl (.inl hfr2), L2.atI_last _ _, b.1, CF K, d2, _, .ref b.2, rfl, hb1, T.cl_Frame, T.no_Frame_variables, rfl, ?_⟩
      refine ⟨_, rfl, p.1, CF K, d, _, optV f0.t, rfl, hp2', T.cl_Frame, T.no_Frame_target, rfl, b.2, _, rfl, by rw [ht]; exact DPut.k (k := Sum.inl (t : Int)) hb2 (small_line (by omega)), ?_⟩
      have k := KT.put (o := .dK (putK kv2 (Sum.inl (t : Int)) z)) hmu2
      obtain ⟨n1, n2, n3, n4⟩ := nd_cons.mp hm2.nd
      have hf : FmH (ShP K im dx co) im (upd H2 b.2 (.dK (putK kv2 (Sum.inl (t : Int)) z))) b { g with h := hput g.h t (worth f0.h o) } (n + 1) :=
        ⟨_, cv2, by rw [upd_ne n1]; exact hb1, ⟨d2, rfl⟩, dp_kt k _ _ (nlRows im g.k) hcv2, _, upd_same, by have := length_putK kv2 (Sum.inl (t : Int)) z; omega, (hkv2.kt k).put (dp_kt k _ _ (nlW _) z2)⟩
      exact q _ (b :: fb) (m2.trans (Mv.put (in_fa2 List.mem_cons_self) hmu2)) ((hm2.up (Nat.le_succ n)).head2 rfl hf)
end
end K18

set_option maxHeartbeats 1000000
namespace K18
open PySem PySem.Spec PyProof.Rows L2 HG P18
/-- how a step ends, with what it returns -/
def PostS {K : PySem.W.Frag} (S : Sh K) (im : Im) (A : Ad) (fa : List (Addr × Addr)) (H : Hp) (n : Nat) (Q : VK) : Out → Prop
  | .go s' p => ∀ H' fa', Mv (allA S A fa) H (allA S A fa') H' → MsH S im H' A fa' s' .non (n + 1) → Q (optV p) H'
  | .stop e => ∀ H' fa' v, Mv (allA S A fa) H (allA S A fa') H' → H' A.top = some (S.top A v) → Dp K H' v e.D → Q .non H'
theorem PostS.post {K : PySem.W.Frag} {S : Sh K} {im : Im} {A : Ad} {fa : List (Addr × Addr)} {H H1 : Hp} {n : Nat} {Q : VK} {o : Out} (h : PostS S im A fa H n Q o) (m : Mv (allA S A fa) H (allA S A fa) H1) (ho : ∀ s' p, o = .go s' p → p = none) : Post S im A fa H1 n (Q .non) o := by
  cases o with
  | go s' p =>
    have e := ho s' p rfl
    subst e
    exact fun H' fa' x y => h H' fa' (m.trans x) y
  | stop e => exact fun H' fa' v x y z => h H' fa' v (m.trans x) y z
def spStep (K : PySem.W.Frag) : Sp := fun vs H Q _ => ∃ (im : Im) (dx co : Addr) (A : Ad) (fa : List (Addr × Addr)) (s : Ms) (n : Nat), vs = [.ref A.top] ∧ ImOk im ∧ MsOk im s ∧ n ≤ 100000 ∧ MsH (ShP K im dx co) im H A fa s .non n ∧
  PostS (ShP K im dx co) im A fa H n Q (P18.step im s)
theorem Post.same {K : PySem.W.Frag} {S : Sh K} {im : Im} {A : Ad} {fa : List (Addr × Addr)} {H H1 : Hp} {n : Nat} {Q : Hp → Prop} {o : Out} (h : Post S im A fa H n Q o) (s : Same H H1) : Post S im A fa H1 n Q o := by
  cases o with
  | go s' p => exact fun H' fa' x y => h H' fa' ((Mv.of s).trans x) y
  | stop e => exact fun H' fa' v x y z => h H' fa' v ((Mv.of s).trans x) y z
def isPr : Rw → Bool
  | .pr _ => true
  | _ => false
theorem ifF {b : Bool} {t e : Prop} (h : b = false) (x : e) : if b = true then t else e := by rw [h]; exact iteF x
theorem ifT {b : Bool} {t e : Prop} (h : b = true) (x : t) : if b = true then t else e := by rw [h]; exact iteT x
theorem wd_print (R : Rw) : decide (V.str R.word = V.str "print") = isPr R := by
  cases R <;> first | exact seq _ | exact sne (by dsimp only [Rw.word]; decide +kernel)
theorem wd_call (R : Rw) : inV (V.str R.word) [.str "call", .str "apply"] = calls R := by
  cases R <;> first | exact in2a _ _ | exact in2b _ _ | exact in2n (by dsimp only [Rw.word]; decide +kernel) (by dsimp only [Rw.word]; decide +kernel)
theorem in3a (a b c : Str) : inV (.str a) [.str a, .str b, .str c] = true := by simp [inV, eqV]
theorem in3b (a b c : Str) : inV (.str b) [.str a, .str b, .str c] = true := by simp [inV, eqV]
theorem in3c (a b c : Str) : inV (.str c) [.str a, .str b, .str c] = true := by simp [inV, eqV]
theorem in3n {x a b c : Str} (h1 : x ≠ a) (h2 : x ≠ b) (h3 : x ≠ c) : inV (.str x) [.str a, .str b, .str c] = false := by simp [inV, eqV, h1.symm, h2.symm, h3.symm]
theorem wd_go (R : Rw) : inV (V.str R.word) [.str "jump", .str "branch", .str "unless"] = goes R := by
  cases R <;> first | exact in3a _ _ _ | exact in3b _ _ _ | exact in3c _ _ _ | exact in3n (by dsimp only [Rw.word]; decide +kernel) (by dsimp only [Rw.word]; decide +kernel) (by dsimp only [Rw.word]; decide +kernel)
/-- what is to be done -/
theorem kind (R : Rw) : (∃ a, R = .pr a) ∨ (isPr R = false ∧ ((calls R = true) ∨ (calls R = false ∧ ((∃ a, R = .rt a) ∨ (decide (V.str R.word = V.str "return") = false ∧ ((∃ m, R = .ha m) ∨ (decide (V.str R.word = V.str "halt") = false ∧ ((goes R = true) ∨ (goes R = false ∧ ((∃ c a, R = .st c a) ∨
    (decide (V.str R.word = V.str "store") = false ∧ ((∃ c a b, R = .wr c a b) ∨ (decide (V.str R.word = V.str "write") = false ∧ ∀ s h, ∃ t val, asgV s h R = some (t, val)))))))))))))) := by
  cases R <;> first | exact .inl ⟨_, rfl⟩ | exact .inr ⟨rfl, .inl rfl⟩ | exact .inr ⟨rfl, .inr ⟨rfl, .inl ⟨_, rfl⟩⟩⟩ | exact .inr ⟨rfl, .inr ⟨rfl, .inr ⟨sne (by dsimp only [Rw.word]; decide +kernel), .inl ⟨_, rfl⟩⟩⟩⟩ | exact .inr ⟨rfl, .inr ⟨rfl, .inr ⟨sne (by dsimp only [Rw.word]; decide +kernel), .inr ⟨sne (by dsimp only [Rw.word]; decide +kernel), .inl rfl⟩⟩⟩⟩ |
    exact .inr ⟨rfl, .inr ⟨rfl, .inr ⟨sne (by dsimp only [Rw.word]; decide +kernel), .inr ⟨sne (by dsimp only [Rw.word]; decide +kernel), .inr ⟨rfl, .inl ⟨_, _, rfl⟩⟩⟩⟩⟩⟩ | exact .inr ⟨rfl, .inr ⟨rfl, .inr ⟨sne (by dsimp only [Rw.word]; decide +kernel), .inr ⟨sne (by dsimp only [Rw.word]; decide +kernel), .inr ⟨rfl, .inr ⟨sne (by dsimp only [Rw.word]; decide +kernel), .inl ⟨_, _, _, rfl⟩⟩⟩⟩⟩⟩⟩ |
    exact .inr ⟨rfl, .inr ⟨rfl, .inr ⟨sne (by dsimp only [Rw.word]; decide +kernel), .inr ⟨sne (by dsimp only [Rw.word]; decide +kernel), .inr ⟨rfl, .inr ⟨sne (by dsimp only [Rw.word]; decide +kernel), .inr ⟨sne (by dsimp only [Rw.word]; decide +kernel), fun _ _ => ⟨_, _, rfl⟩⟩⟩⟩⟩⟩⟩⟩
theorem nopr {im : Im} {s : Ms} {f : Fm} {r : List Fm} {R : Rw} (h : isPr R = false) : ∀ s' p, stepR im s f r R = .go s' p → p = none := by
  intro s' p e
  cases R <;> first | cases h | skip
  all_goals simp only [stepR, left] at e
  all_goals repeat' split at e
  all_goals first | (cases e; rfl) | cases e
theorem rt_ix (a : Option Op) : (PyData.str (Rw.rt a).word :: (Rw.rt a).ps)[1]? = some (oD a) := by
  cases a <;> rfl
theorem put_two0 (x y z : V) : putK [((Sum.inl 0 : Key), x), (Sum.inl 1, y)] (Sum.inl ((0 : Nat) : Int)) z = [(Sum.inl 0, z), (Sum.inl 1, y)] := rfl
theorem put_two1 (x y z : V) : putK [((Sum.inl 0 : Key), x), (Sum.inl 1, y)] (Sum.inl ((1 : Nat) : Int)) z = [(Sum.inl 0, x), (Sum.inl 1, z)] := rfl
section
variable {P : Program} {w : World} {K : PySem.W.Frag} {mg : Str → Option Value} {base : Heap}
set_option pp.maxSteps 600 in
theorem m_Process_step (T : Txt w K mg) : C8.Met P w K mg base 6 (He.ga K "Process") "step" (spStep K) [] := by
  obtain ⟨fd, F⟩ := T.d_Process_step
  have M_Frame_value := m_Frame_value (P := P) (w := w) (base := base) T
  have M_Process_call := m_Process_call (P := P) (w := w) (base := base) T
  have M_Process_leave := m_Process_leave (P := P) (w := w) (base := base) T
  have M_Process_go := m_Process_go (P := P) (w := w) (base := base) T
  have M_Process_write := m_Process_write (P := P) (w := w) (base := base) T
  have M_Process_assign := m_Process_assign (P := P) (w := w) (base := base) T
  refine ⟨_, fd, ["self"], [], T.cl_Process, T.m_Process_step, F.ok sc_Process_step (fun vs H Q E h => by repeat (first | (obtain ⟨e, _⟩ := h; subst e; rfl) | (obtain ⟨_, h⟩ := h))) (fun cdv A outer s H vs Q E hr h => ?_), F.bindsN fun _ _ _ _ _ _ us hl => match us, hl with | [_], _ => rfl, .nil⟩
  obtain ⟨im, dx, co, A, fa, s, n, rfl, hI, hok, hn, hm, q⟩ := h
  have hu := hu_of hr
  refine ⟨_, PSs.nox (pss_cons (ps_set (i := 1) sc_Process_step.nd rfl (.inl rfl) (pe_ix (ix_listK (K := K) rfl) (pe_fld (pv 0) rfl) (pe_un un_neg pe_int) (fun _ _ => rfl)))
      (pss_cons (ps_set (i := 2) sc_Process_step.nd rfl (.inl rfl) (pe_ix (ix_P (K := K) rfl) (pe_fld (pv 1) rfl) (pe_fld (pv 1) rfl) (fun _ _ => rfl)))
      (pss_cons (ps_fldaug (pv 1) pe_int in_add)
      (pss_cons (ps_set (i := 3) sc_Process_step.nd rfl (.inl rfl) (pe_ix (ix_P (K := K) rfl) (pv 2) pe_int (fun _ _ => rfl)))
      (pss_cons (ps_if (pt_cmpR op_eq (pv 3) pe_str (nomark _)) (pss_one (ps_ret (C8.pe_mt M_Frame_value hr (by omega) (pv 1) (pa_cons (pe_ix (ix_P (K := K) rfl) (pv 2) pe_int (fun _ _ => rfl)) pa_nil)))) pss_nil)
      (pss_cons (ps_if (pt_cmpR (op_in_seqK (K := K) rfl) (pv 3) (pe_tup (pa_cons pe_str (pa_cons pe_str pa_nil))) (by rfl)) (pss_one (ps_expr (C8.pe_mt M_Process_call hr (by omega) (pv 0) (pa_cons (pv 1) (pa_cons (pv 2) pa_nil))))) (pss_one (ps_if (pt_cmpR op_eq (pv 3) pe_str (nomark _)) (pss_one (ps_expr (C8.pe_mt M_Process_leave hr (by omega) (pv 0) (pa_cons (pv 1) (pa_cons (pe_ix (ix_P (K := K) rfl) (pv 2) pe_int (fun _ _ => rfl)) pa_nil))))) (pss_one (ps_if (pt_cmpR op_eq (pv 3) pe_str (nomark _)) (pss_one (ps_fld (pv 0) (pe_tup (pa_cons pe_str (pa_cons (pe_ix (ix_P (K := K) rfl) (pv 2) pe_int (fun _ _ => rfl)) pa_nil))) (by rfl))) (pss_one (ps_if (pt_cmpR (op_in_seqK (K := K) rfl) (pv 3) (pe_tup (pa_cons pe_str (pa_cons pe_str (pa_cons pe_str pa_nil)))) (by rfl)) (pss_one (ps_expr (C8.pe_mt M_Process_go hr (by omega) (pv 0) (pa_cons (pv 1) (pa_cons (pv 2) pa_nil))))) (pss_one (ps_if (pt_cmpR op_eq (pv 3) pe_str (nomark _)) (pss_one (ps_dput hu (pe_fld (pv 0) rfl) (pe_ix (ix_P (K := K) rfl) (pv 2) pe_int (fun _ _ => rfl)) (C8.pe_mt M_Frame_value hr (by omega) (pv 1) (pa_cons (pe_ix (ix_P (K := K) rfl) (pv 2) pe_int (fun _ _ => rfl)) pa_nil)) rfl)) (pss_one (ps_if (pt_cmpR op_eq (pv 3) pe_str (nomark _)) (pss_one (ps_expr (C8.pe_mt M_Process_write hr (by omega) (pv 0) (pa_cons (pv 1) (pa_cons (pv 2) pa_nil))))) (pss_one (ps_expr (C8.pe_mt M_Process_assign hr (by omega) (pv 0) (pa_cons (pv 1) (pa_cons (pv 2) pa_nil))))))))))))))))
      (pss_one (ps_ret pe_non)))))))), ?_⟩
  obtain ⟨f0, r, efr⟩ : ∃ f0 r, s.fr = f0 :: r := by
    cases e : s.fr with
    | nil => exact absurd e hok.ne
    | cons f r => exact ⟨f, r, rfl⟩
  have hst := hok.fr
  rw [efr] at hst
  obtain ⟨cd, hfm, hto, _⟩ := top_fm hst
  obtain ⟨R, hR⟩ : ∃ R, cd.rows[f0.pc]? = some R := ⟨_, List.getElem?_eq_getElem hfm.pc⟩
  have hra : rowAt im f0.k f0.pc = some R := by
    unfold rowAt
    rw [hfm.code]
    exact hR
  have hrow : Row im s f0 r R := ⟨hI, hok, efr, hra⟩
  have estep : P18.step im s = stepR im s (adv f0) r R := by
    unfold P18.step
    rw [efr]
    show (match rowAt im f0.k f0.pc with | none => Out.stop (.halted 0) | some R => stepR im s (adv f0) r R) = _
    rw [hra]
  rw [estep] at q
  obtain ⟨p, fb, rfl⟩ : ∃ p fb, fa = p :: fb := by
    cases fa with
    | nil => have := (fms_nil hm.fm).mp rfl; rw [efr] at this; cases this
    | cons p fb => exact ⟨p, fb, rfl⟩
  have es : s = { s with fr := f0 :: r } := by rw [← efr]
  have hm0 : MsH (ShP K im dx co) im H A (p :: fb) { s with fr := f0 :: r } .non n := es ▸ hm
  obtain ⟨d, cv, kv, hp1, hcv, hp2, hkl, hkv⟩ := top_at hm0
  have htop := hm.bs.top
  have hfr : H A.fr = some (.lst ((fb.map fun q => V.ref q.1).reverse ++ [.ref p.1])) := by
    rw [hm.bs.fr, List.map_cons, List.map_cons, List.reverse_cons, List.map_map]
    rfl
  refine ⟨_, rfl, A.top, CP K, dx, _, .ref A.fr, rfl, htop, T.cl_Process, T.no_Process_frames, rfl, 1, rfl, A.fr, _, -1, .ref p.1, rfl, rfl, .inl (.inl hfr), L2.atI_last _ _, ?_⟩
  have hrws : Dp K H cv (.tuple (cd.rows.map Rw.D)) := by
    unfold rowsD at hcv
    rw [hfm.code] at hcv
    exact hcv
  refine ⟨_, rfl, p.1, CF K, d, _, cv, rfl, hp1, T.cl_Frame, T.no_Frame_code, rfl, _, rfl, p.1, CF K, d, _, .int (f0.pc : Int), rfl, hp1, T.cl_Frame, T.no_Frame_next, rfl, _, f0.pc, R.D, hrws, rfl, by rw [List.getElem?_map, hR]; rfl, fun v hv => ?_⟩
  refine ⟨_, rfl, p.1, CF K, d, _, .int (f0.pc : Int), rfl, hp1, T.cl_Frame, T.no_Frame_next, rfl, ?_⟩
  refine ⟨_, _, rfl, rfl, d, _, hp1, (by show 4 < 1000; decide), ?_⟩
  have hm1 := hm0.setPc (pc' := f0.pc + 1) (o' := FmO K d cv (f0.pc + 1) p.2 (optV f0.t)) rfl hp1 True.intro hcv ⟨d, rfl⟩
  have m1 : Mv (allA (ShP K im dx co) A (p :: fb)) H (allA (ShP K im dx co) A (p :: fb)) (upd H p.1 (FmO K d cv (f0.pc + 1) p.2 (optV f0.t))) := Mv.put (in_fa1 List.mem_cons_self) (by rw [hp1]; exact True.intro)
  have hv1 := dp_kt m1.kt _ _ (nlR R) hv
  show Ends.nx _ _ (upd H p.1 (FmO K d cv (f0.pc + 1) p.2 (optV f0.t)))
  generalize upd H p.1 (FmO K d cv (f0.pc + 1) p.2 (optV f0.t)) = H1 at hm1 m1 hv1 ⊢
  refine ⟨_, rfl, _, 0, _, hv1, rfl, rfl, fun z hz => ?_⟩
  cases hz
  obtain ⟨d, cv, kv, hp1, hcv, hp2, hkl, hkv⟩ := top_at hm1
  obtain ⟨cd, _, _, hh, hrw, hto⟩ := hrow.cd
  have htop := hm1.bs.top
  refine ⟨_, rfl, rfl, _, rfl, ?_⟩
  rcases kind R with ⟨a, rfl⟩ | ⟨npr, hk⟩
  · rw [seq "print"]
    have hoa : OpOk a := hrw.2.2
    refine iteT ⟨_, rfl, p.1, d, _, rfl, hp1, rfl, _, rfl, _, 1, _, hv1, rfl, rfl, fun z hz => ?_⟩
    refine ⟨p.1, d, p.2, cv, _, z, _, kv, f0.h, some a, rfl, hp1, hp2, hkv, hz, opOk_lt hoa, fun y hy => ?_⟩
    obtain ⟨na, rfl, ea, hna⟩ := wv_op hh hoa hy
    have q : PostS (ShP K im dx co) im A (p :: fb) H n Q (.go { s with fr := adv f0 :: r } (some (worth f0.h a).n)) := q
    rw [ea] at q
    exact q H1 (p :: fb) m1 (hm1.up (Nat.le_succ n))
  have q1 := q.post m1 (nopr npr)
  refine ifF ((wd_print R).trans npr) ?_
  refine ⟨_, rfl, (by show 2 ≤ sizeLine; decide), fun pt hpt => ⟨_, _, rfl, .inr (.inl (.inl upd_same)), rfl, rfl, _, rfl, ?_⟩⟩
  have s2 := same_new (o := .tup [.str "call", .str "apply"]) hpt
  have hm2 := hm1.same s2
  have hv2 := dp_mono s2 _ _ hv1
  have q2 := q1.same s2
  clear hpt hp1 hcv hp2 hkl hkv htop
  obtain ⟨d, cv, kv, hp1, hcv, hp2, hkl, hkv⟩ := top_at hm2
  have htop := hm2.bs.top
  generalize upd H1 pt (.tup [.str "call", .str "apply"]) = H2 at hm2 hv2 q2 hp1 hcv hp2 hkv htop ⊢
  have sit2 : Sit K v H2 im dx co A p fb s f0 r R n := ⟨hv2, hrow, hn, hm2⟩
  rcases hk with hca | ⟨nca, hk⟩
  · refine ifT ((wd_call R).trans hca) ?_
    exact ⟨_, rfl, A.top, dx, _, rfl, htop, rfl, _, rfl, _, rfl, im, dx, co, A, p, fb, s, f0, r, R, n, v, rfl, sit2, hca, q2⟩
  refine ifF ((wd_call R).trans nca) ?_
  refine ⟨_, rfl, rfl, _, rfl, ?_⟩
  rcases hk with ⟨a, rfl⟩ | ⟨nrt, hk⟩
  · rw [seq "return"]
    exact iteT ⟨_, rfl, A.top, dx, _, rfl, htop, rfl, _, rfl, _, rfl, _, 1, _, hv2, rfl, rt_ix a, fun z hz => ⟨im, dx, co, A, p, fb, s, f0, r, a, n, z, rfl, hz, hrow, hn, hm2, q2⟩⟩
  refine ifF nrt ?_
  refine ⟨_, rfl, rfl, _, rfl, ?_⟩
  rcases hk with ⟨m, rfl⟩ | ⟨nha, hk⟩
  · rw [seq "halt"]
    refine iteT ⟨_, rfl, _, 1, _, hv2, rfl, rfl, fun z hz => ?_⟩
    cases hz
    exact ⟨(by show 2 ≤ sizeLine; decide), fun pt hpt => ⟨_, rfl, A.top, CP K, dx, _, rfl, upd_get hpt htop, T.cl_Process, T.no_Process_end, (by show 6 < 1000; decide), hm2.endAt (m := n) hpt (e := .halted m) (.cons (.str _) (.cons (.int (m : Int)) .nil)) q2⟩⟩
  refine ifF nha ?_
  refine ⟨_, rfl, (by show 3 ≤ sizeLine; decide), fun pt hpt => ⟨_, _, rfl, .inr (.inl (.inl upd_same)), rfl, rfl, _, rfl, ?_⟩⟩
  have s3 := same_new (o := .tup [.str "jump", .str "branch", .str "unless"]) hpt
  have hm3 := hm2.same s3
  have hv3 := dp_mono s3 _ _ hv2
  have q3 := q2.same s3
  clear hpt hp1 hcv hp2 hkl hkv htop sit2
  obtain ⟨d, cv, kv, hp1, hcv, hp2, hkl, hkv⟩ := top_at hm3
  have htop := hm3.bs.top
  generalize upd H2 pt (.tup [.str "jump", .str "branch", .str "unless"]) = H3 at hm3 hv3 q3 hp1 hcv hp2 hkv htop ⊢
  have sit3 : Sit K v H3 im dx co A p fb s f0 r R n := ⟨hv3, hrow, hn, hm3⟩
  rcases hk with hgo | ⟨ngo, hk⟩
  · refine ifT ((wd_go R).trans hgo) ?_
    exact ⟨_, rfl, A.top, dx, _, rfl, htop, rfl, _, rfl, _, rfl, im, dx, co, A, p, fb, s, f0, r, R, n, v, rfl, sit3, hgo, q3⟩
  refine ifF ((wd_go R).trans ngo) ?_
  refine ⟨_, rfl, rfl, _, rfl, ?_⟩
  rcases hk with ⟨c, a, rfl⟩ | ⟨nst, hk⟩
  · rw [seq "store"]
    have ha : ∀ x, some a = some (.v x) → x < 10 := by
      rcases hrw.2.2 with ⟨_, h⟩ | ⟨_, rfl⟩
      · exact opOk_lt h
      · intro x e
        cases e
        decide
    refine iteT ⟨_, rfl, p.1, d, _, rfl, hp1, rfl, _, rfl, _, 2, _, hv3, rfl, rfl, fun z hz => ?_⟩
    refine ⟨p.1, d, p.2, cv, _, z, _, kv, f0.h, some a, rfl, hp1, hp2, hkv, hz, ha, fun y hy => ?_⟩
    obtain ⟨v0, v1, c1, c2, c3⟩ := hm3.bs.ce
    refine ⟨_, rfl, A.top, CP K, dx, _, .ref A.ce, rfl, htop, T.cl_Process, T.no_Process_cells, rfl, _, rfl, _, 1, _, hv3, rfl, rfl, fun z hz => ?_⟩
    cases hz
    have hce : H3 A.ce = some (.dK [(Sum.inl 0, v0), (Sum.inl 1, v1)]) := c1
    have hmu : Mut (H3 A.ce) := by rw [hce]; exact True.intro
    refine ⟨A.ce, _, rfl, DPut.k (k := Sum.inl (c : Int)) hce (small_line (by show 2 ≤ 1000000; omega)), ?_⟩
    have hcc : c = 0 ∨ c = 1 := by rcases hrw.2.2 with ⟨h, _⟩ | ⟨h, _⟩ <;> omega
    have q3 : Post (ShP K im dx co) im A (p :: fb) H3 n (Q .non) (.go (if c = 0 then { s with fr := adv f0 :: r, c0 := worth f0.h a } else { s with fr := adv f0 :: r, c1 := worth f0.h a }) none) := q3
    rcases hcc with rfl | rfl
    · rw [put_two0]
      rw [if_pos rfl] at q3
      exact q3 _ (p :: fb) (Mv.put (in_base (by simp)) hmu) ((hm3.putCe (y0 := worth f0.h a) (y1 := s.c1) hy c3).up (Nat.le_succ n))
    · rw [put_two1]
      rw [if_neg (by decide)] at q3
      exact q3 _ (p :: fb) (Mv.put (in_base (by simp)) hmu) ((hm3.putCe (y0 := s.c0) (y1 := worth f0.h a) c2 hy).up (Nat.le_succ n))
  refine ifF nst ?_
  refine ⟨_, rfl, rfl, _, rfl, ?_⟩
  rcases hk with ⟨c, a, b, rfl⟩ | ⟨nwr, hk⟩
  · rw [seq "write"]
    exact iteT ⟨_, rfl, A.top, dx, _, rfl, htop, rfl, _, rfl, _, rfl, im, dx, co, A, p, fb, s, f0, r, c, a, b, n, v, rfl, sit3, q3⟩
  refine ifF nwr ?_
  obtain ⟨t, val, hval⟩ := hk s f0.h
  exact ⟨_, rfl, A.top, dx, _, rfl, htop, rfl, _, rfl, _, rfl, im, dx, co, A, p, fb, s, f0, r, R, n, t, val, v, rfl, sit3, hval, q3⟩
end
end K18

set_option maxHeartbeats 4000000
/-! HDc: dict comprehensions by Walk; x = {..}; d locked. -/
namespace HG
open PySem PySem.Spec PyProof.Rows L2
theorem dc_it {J : It} {n : Nat} {G : Hp → Prop} {Y : Nat → Hp → V → Hp → Prop} (w : Walk J n G Y) {g : TG} {tt : TT} {tk tv : TE} {vs : List Nat} {σ : L2.St} {H1 : Hp} {D : Addr} {Qd : Hp → Prop} (Pv : Nat → Hp → Prop) (h0 : Pv 0 (upd H1 D (.dK []))) (hG : ∀ i H, i ≤ n → Pv i H → G H)
    (hs : ∀ i x H H', i < n → Pv i H → Y i H x H' → g x (wipe σ vs) H' fun σ2 H2 => wipe σ2 vs = wipe σ vs ∧ tt σ2 H2 fun b H3 =>
      if b = true then tk σ2 H3 fun y H4 => tv σ2 H4 fun z H5 => ∃ kvs k, y = kV k ∧ H5 D = some (.dK kvs) ∧ kvs.length < sizeLine ∧ Pv (i + 1) (upd H5 D (.dK (putK kvs k z))) else Pv (i + 1) H3) (hd : ∀ H, Pv n H → Qd H) :
    ∃ W : Nat → Nat → Hp → Prop, (∃ m, W 0 m (upd H1 D (.dK []))) ∧ ∀ i m H, W i m H →
      (J.stop i H ∧ Qd H) ∨ (J.go i H ∧ ∃ Nx : Hp → Prop, (∀ H', Nx H' → ∃ m', m' < m ∧ W (i + 1) m' H') ∧ ∀ x H', J.yld i H x H' → g x (wipe σ vs) H' fun σ2 H2 => wipe σ2 vs = wipe σ vs ∧ tt σ2 H2 fun b H3 =>
        if b = true then tk σ2 H3 fun y H4 => tv σ2 H4 fun z H5 => ∃ kvs k, y = kV k ∧ H5 D = some (.dK kvs) ∧ kvs.length < sizeLine ∧ Nx (upd H5 D (.dK (putK kvs k z))) else Nx H3) := by
  refine ⟨fun i m H => m = n - i ∧ i ≤ n ∧ Pv i H, ⟨n, by simp, Nat.zero_le _, h0⟩, ?_⟩
  rintro i m H ⟨rfl, hi, p⟩
  have q := hG i H hi p
  by_cases hlt : i < n
  · refine .inr ⟨w.goes i H hlt q, Pv (i + 1), fun H' p' => ⟨n - (i + 1), by omega, rfl, hlt, p'⟩, fun x H' y => hs i x H H' hlt p (w.yields i H x H' hlt q y)⟩
  · have e : i = n := by omega
    subst e
    exact .inl ⟨w.stops H q, hd H p⟩
section
variable {X : Cx}
theorem sw_trueD {kx vx : Expr} {gs : List Comprehension} {scope : Scope} {pos py : Pos} {y : Str} {l : Nat} {env : Env} (hk : env.scope.kind = .function) (hy : env.scope.names.lookup y = some .local) (hl : (py.line == pos.line) = true)
    (ha : (scope.names.any fun (n, k) => n == y && (k == .local || k == .cell)) = false) : swapsWith (.DictComp kx vx gs scope pos) (some (.Name y py)) l env = pure true := by
  have ky : env.kindOf y = some .local := hy
  have hb : env.blockKind = .function := by unfold Env.blockKind; rw [hk]; rfl
  unfold swapsWith
  simp only [hb, ky, ha, Expr.pos, hl]
  rfl
/-- x = {k: v for ..} -/
theorem ps_setDc {i : Nat} {y : Str} {py : Pos} {kx vx tg iter : Expr} {ifs : List Expr} {scope : Scope} {own : List (Str × Nat)} {pos spos : Pos} {wi : TI} {g : TG} {tt : TT} {tk tv : TE} (hc : X.calm = true) (hN : X.N.Nodup) (hy : X.N[i]? = some y) (hyl : X.env.scope.names.lookup y = some .local)
    (hsw : swapsWith (.DictComp kx vx [⟨tg, iter, ifs, 0⟩] scope pos) (some (.Name y py)) spos.line X.env = pure true) (hi : PI X tg iter wi) (ok : BlkOk X.N X.env.scope scope own)
    (hg : ∀ (s : Shared) (H : Hp) (C : Addr) (cl : List (Str × Addr)) (fp : List Addr), PG (X.blk s H scope (compEnvC scope cl C X.env) fp) tg g) (ht : ∀ (s : Shared) (H : Hp) (C : Addr) (cl : List (Str × Addr)) (fp : List Addr), PTs (X.blk s H scope (compEnvC scope cl C X.env) fp) ifs tt)
    (hk : ∀ (s : Shared) (H : Hp) (C : Addr) (cl : List (Str × Addr)) (fp : List Addr), PE (X.blk s H scope (compEnvC scope cl C X.env) fp) kx tk)
    (he : ∀ (s : Shared) (H : Hp) (C : Addr) (cl : List (Str × Addr)) (fp : List Addr), PE (X.blk s H scope (compEnvC scope cl C X.env) fp) vx tv) (hs : ∀ x, foldedSetIterable iter X.env x = pure x := by intro _; rfl) :
    PS X (.Assign [.Name y py] (.DictComp kx vx [⟨tg, iter, ifs, 0⟩] scope pos) spos) (tAsg (tDc wi g tt tk tv (own.map (·.2))) (gName i)) := by
  refine ⟨fun pins s σ H D I h => ?_⟩
  rw [exec_Assign_Name_used _ _ _ _ hsw]
  refine wpAny_bind (wpAny_standAt (wpAny_bind ?_))
  show wpAny _ X.A (do let _ ← comprehension (.DictComp kx vx [⟨tg, iter, ifs, 0⟩] scope pos) scope X.env (firstIterPos [⟨tg, iter, ifs, 0⟩] pos) newDict false (eval iter X.env) (some (assign (.Name y py) X.env))) _ _ s
  have h : tDc wi g tt tk tv (own.map (·.2)) σ H (fun x H1 => gName i x σ H1 D.nx) := h
  refine wpAny_bind (thn (dc_core (Qf := fun _ s' => SP X pins D .next s') hc hN I hi ok hg ht hk he hs h fun L C s' m H' I' q hn f => ?_) fun _ s' hq => wpAny_pure (wpAny_pure hq))
  show wpAny _ _ (assign (.Name y py) X.env (.ref L)) _ _ _
  refine wpAny_assign_Name (store_ok2 (v := V.ref L) I' hN hy (.inl hyl) rfl (fun s2 I2 ⟨a, sb, ha⟩ => ?_) (.inr hyl))
  obtain ⟨f0, f1, f2, f3, f4, f5⟩ := f
  have haC : C ≠ a := by
    rcases ha with z | z
    · rw [z]; exact f1
    · exact fun e => f4 y a z e.symm
  refine ⟨m, hn.sameBut sb haC, fun h3 sb3 => ?_⟩
  exact ⟨_, H', I2.turned (t' := s2.toks) (fun b o hb e => (sb3.2 b hb).trans e) f0 f1 f3 f4 f5, q⟩
end
/-- what stood before stands behind a lock -/
theorem same_unlock {H H' : Hp} {d : Addr} {u : HO} {o : Obj} (hd : H d = some u) (s : Same (upd H d (.frz o u)) H') : Same H (upd H' d u) := fun b x e => by
  by_cases z : b = d
  · subst z
    rw [upd_same, ← e, hd]
  · rw [upd_ne z]
    exact s b x (by rw [upd_ne z]; exact e)
end HG

set_option maxHeartbeats 4000000
/-! HBlk: a comprehension within a comprehension. -/
namespace HG
open PySem PySem.Spec PyProof.Rows L2
theorem lookup_rel {env : Env} {x : Str} : ∀ {names : List (Str × NameKind)}, (names.lookup x = some .cell ∨ names.lookup x = some .free) →
    (names.map fun (n, k) => if (k == NameKind.free && env.scope.kind == .function && env.kindOf n == some .cell) then (n, NameKind.cell) else (n, k)).lookup x = some .cell ∨
    (names.map fun (n, k) => if (k == NameKind.free && env.scope.kind == .function && env.kindOf n == some .cell) then (n, NameKind.cell) else (n, k)).lookup x = some .free
  | [], h => by simp at h
  | (n, k) :: r, h => by
    show List.lookup x ((if (k == NameKind.free && env.scope.kind == .function && env.kindOf n == some .cell) = true then (n, NameKind.cell) else (n, k)) :: _) = _ ∨ List.lookup x ((if (k == NameKind.free && env.scope.kind == .function && env.kindOf n == some .cell) = true then (n, NameKind.cell) else (n, k)) :: _) = _
    cases hx : x == n with
    | true =>
      simp only [List.lookup_cons, hx] at h
      by_cases hc : (k == NameKind.free && env.scope.kind == .function && env.kindOf n == some .cell) = true
      · rw [if_pos hc]
        left
        simp only [List.lookup_cons, hx]
      · rw [if_neg hc]
        simp only [List.lookup_cons, hx]
        exact h
    | false =>
      simp only [List.lookup_cons, hx] at h
      have ih := @lookup_rel env x r h
      by_cases hc : (k == NameKind.free && env.scope.kind == .function && env.kindOf n == some .cell) = true
      · rw [if_pos hc]; simp only [List.lookup_cons, hx]; exact ih
      · rw [if_neg hc]; simp only [List.lookup_cons, hx]; exact ih
theorem blk_relabel {N : List Str} {sc scope : Scope} {own : List (Str × Nat)} {env : Env} (h : BlkOk N sc scope own) : BlkOk N (relabel sc env) scope own :=
  ⟨h.kind, h.uniq, h.ix, fun y hy e => lookup_rel (h.free y hy e), h.own⟩
theorem call_list_ofK {X : Cx} {K : PySem.W.Frag} (hK : X.K = K) : CallR X (.type "list") (fun xs H Q => ∃ p ys, xs = [.ref p] ∧ (SqL K H p ys ∨ SqT K H p ys) ∧ ∀ l, H l = none → Q (.ref l) (upd H l (.lst ys))) := hK ▸ call_list_of
theorem call_dictPK {X : Cx} {K : PySem.W.Frag} (hK : X.K = K) (hcalm : X.calm = true) : CallR X (.type "dict") (fun xs H Q => ∃ (a : Addr) (ps : List Addr) (kvs : List (Key × V)), xs = [.ref a] ∧ SqL K H a (ps.map V.ref) ∧ Paired (fun p kv => SqT K H p [kV kv.1, kv.2]) ps kvs ∧
    ∀ p, H p = none → Q (.ref p) (upd H p (.dK (mergeK [] kvs)))) := hK ▸ call_dictP hcalm
end HG

set_option maxHeartbeats 1000000
namespace K18
open PySem PySem.Spec PyProof.Rows L2 HG P18
abbrev calls0 (im : Im) (k : Nat) (ws : List Nat) : List (Nat × List Nat) := im.starts.map (fun b => (b, [])) ++ [(k, ws)]
def spProc (K : PySem.W.Frag) : Sp := fun vs H Q _ => ∃ (im : Im) (u dx co ce ld cl : Addr) (k : Nat) (ws : List Nat) (ckv : List (Key × V)) (v0 v1 t0 t1 : V) (xs : List V), vs = [.ref u, .ref co, .ref ce, .ref ld, .ref cl] ∧ ImOk im ∧ H u = some (.ins (CP K) dx []) ∧
  H co = some (.dK ckv) ∧ (∀ (j : Nat) (cd : Cd), im.codes[j]? = some cd → ∃ v, valV ckv (Sum.inl (j : Int)) = some v ∧ Dp K H v (cdPD cd)) ∧
  H ce = some (.dK [(Sum.inl 0, v0), (Sum.inl 1, v1)]) ∧ Dp K H v0 (Wv.w im.ga).D ∧ Dp K H v1 (Wv.f im.gf).D ∧
  H ld = some (.dK [(Sum.inl 0, t0), (Sum.inl 1, t1)]) ∧ Dp K H t0 (.tuple (im.ta.map nD)) ∧ Dp K H t1 (.tuple [(Wv.f im.tf).D]) ∧
  H cl = some (.lst xs) ∧ DpAll K H xs ((calls0 im k ws).map callD) ∧ (∃ cd, im.codes[k]? = some cd) ∧
  ∀ H' A p, A.top = u → Mv [u, co] H (allA (ShP K im dx co) A [p]) H' → MsH (ShP K im dx co) im H' A [p] (begun im k ws) .non 1 → Q .non H'
theorem Mv.free {F F1 : List Addr} {H H1 : Hp} (m : Mv F H F1 H1) {a : Addr} (h : H1 a = none) : H a = none := by
  cases e : H a with
  | none => rfl
  | some o => exact absurd h (m.gr a (by rw [e]; exact Option.some_ne_none o))
theorem Mv.wide {F F1 G G1 : List Addr} {H H1 : Hp} (m : Mv F H F1 H1) (h1 : ∀ a ∈ F, a ∈ G) (h2 : ∀ a ∈ G1, a ∈ G ∨ H a = none) : Mv G H G1 H1 := ⟨fun b o n e => m.st b o (fun z => n (h1 b z)) e, m.kt, h2, m.gr⟩
theorem nd_new {H : Hp} {L : List Addr} {p : Addr} (hL : L.Nodup) (hs : ∀ a ∈ L, H a ≠ none) (hp : H p = none) : (p :: L).Nodup := List.nodup_cons.mpr ⟨fun z => hs p z hp, hL⟩
/-- the arrays of a process, as they are made -/
def PvA (HL : Hp) (D : Addr) (l0 : List Nat) (v : V) : Nat → Hp → Prop
  | 0, H => H = upd HL D (.dK [])
  | 1, H => ∃ r0, Same HL H ∧ HL r0 = none ∧ r0 ≠ D ∧ H r0 = some (.lst (l0.map nV)) ∧ H D = some (.dK [(Sum.inl 0, .ref r0)])
  | _, H => ∃ r0 r1, Same HL H ∧ HL r0 = none ∧ HL r1 = none ∧ r0 ≠ D ∧ r1 ≠ D ∧ r1 ≠ r0 ∧ H r0 = some (.lst (l0.map nV)) ∧ H r1 = some (.lst [v]) ∧ H D = some (.dK [(Sum.inl 0, .ref r0), (Sum.inl 1, .ref r1)])
theorem PvA.same {HL : Hp} {D : Addr} {l0 : List Nat} {v : V} (hD : HL D = none) : ∀ {i : Nat} {H : Hp}, PvA HL D l0 v i H → Same HL H
  | 0, _, h => by rw [show _ = _ from h]; exact same_new hD
  | 1, _, h => by obtain ⟨_, s, _⟩ := h; exact s
  | _ + 2, _, h => by obtain ⟨_, _, s, _⟩ := h; exact s
def ms0 (im : Im) (k : Nat) (ws : List Nat) : Ms := ⟨[], .w im.ga, .f im.gf, im.ta, im.tf, calls0 im k ws⟩
theorem begun_eq (im : Im) (k : Nat) (ws : List Nat) : ∃ k0 ws0 cs, calls0 im k ws = (k0, ws0) :: cs ∧ begun im k ws = { ms0 im k ws with fr := entered im k0 (ws0.map Wv.w) none :: (ms0 im k ws).fr, calls := cs } ∧ (k0 ∈ im.starts ∨ k0 = k) := by
  unfold begun calls0 ms0
  cases im.starts with
  | nil => exact ⟨k, ws, [], rfl, rfl, .inr rfl⟩
  | cons a r => exact ⟨a, [], r.map (fun b => (b, [])) ++ [(k, ws)], rfl, rfl, .inl List.mem_cons_self⟩
section
variable {P : Program} {w : World} {K : PySem.W.Frag} {mg : Str → Option Value} {base : Heap}
set_option pp.maxSteps 600 in
theorem k_Process (T : Txt w K mg) : MkC P w K mg base "Process" 5 (spProc K) := by
  obtain ⟨fd, F⟩ := T.d_Process___init__
  have M_Process_begin := m_Process_begin (P := P) (w := w) (base := base) T
  refine ⟨⟨_, fd, ["self", "codes", "cells", "arrays", "calls"], T.mk_Process, F.ok sc_Process___init__ (fun vs H Q E h => by repeat (first | (obtain ⟨e, _⟩ := h; subst e; rfl) | (obtain ⟨_, h⟩ := h))) (fun cdv A outer s H vs Q E hr h => ?_), F.bindsN fun _ _ _ _ _ _ us hl => match us, hl with | [_, _, _, _, _], _ => rfl⟩, T.g _ (by decide)⟩
  obtain ⟨im, u, dx, co, ce, ld, cl, k, ws, ckv, v0, v1, t0, t1, xs, rfl, hI, hu0, hco, hcodes, hce, d0, d1, hld, g0, g1, hcl, hxs, hcd, q⟩ := h
  have hu := hu_of hr
  refine ⟨_, PSs.nox (pss_cons (ps_fld (pv 0) (pv 1) (by rfl))
      (pss_cons (ps_fld (pv 0) (pe_callTy call_dictD (by rfl) T.n_dict (by decide +kernel) (pa_cons (pv 2) pa_nil)) (by rfl))
      (pss_cons (ps_fld (pv 0) (pe_lock (pe_dc (own := [("name", 5), ("values", 6)]) (by rfl) sc_Process___init__.nd (pi_items (pv 3)) (blkOk_by (own := [("name", 5), ("values", 6)]) (N := N_Process___init__) (sc := defScope s_Process___init__) (by decide +kernel)) (fun _ _ _ _ _ => (pg_tupK (K := K) (n := 2) rfl rfl (pgs_cons (pg_name (i := 5) sc_Process___init__.nd rfl (.inl rfl)) (pgs_cons (pg_name (i := 6) sc_Process___init__.nd rfl (.inl rfl)) pgs_nil)))) (fun _ _ _ _ _ => pts_nil) (fun _ _ _ _ _ => (pv 5)) (fun _ _ _ _ _ => (pe_callTy (call_list_ofK (K := K) rfl) (by rfl) T.n_list (by decide +kernel) (pa_cons (pv 6) pa_nil))))) (by rfl))
      (pss_cons (ps_fld (pv 0) (pe_callTy (call_list_ofK (K := K) rfl) (by rfl) T.n_list (by decide +kernel) (pa_cons (pv 4) pa_nil)) (by rfl))
      (pss_cons (ps_fld (pv 0) (pe_lst pa_nil) (by rfl))
      (pss_cons (ps_fld (pv 0) pe_non (by rfl))
      (pss_one (ps_expr (C8.pe_mt0 M_Process_begin hr (by omega) (pv 0)))))))))), ?_⟩
  have ncu : co ≠ u := fun z => by rw [z, hu0] at hco; cases hco
  -- codes
  refine ⟨_, rfl, _, rfl, u, CP K, dx, _, rfl, hu0, T.cl_Process, T.no_Process_codes, (by show 0 < 1000; decide), ?_⟩
  generalize e1 : upd H u _ = H1
  have hu1 : H1 u = some (.ins (CP K) dx [("codes", .ref co)]) := by rw [← e1]; exact upd_same
  have m1 : Mv [u] H [u] H1 := by rw [← e1]; exact Mv.put (by simp) (by rw [hu0]; exact True.intro)
  have st : ∀ {H' : Hp} {a : Addr} {o : HO}, Mv [u] H [u] H' → H a = some o → (∀ C d f, o ≠ .ins C d f) → H' a = some o := fun m e n => m.st _ _ (fun z => n _ _ _ (by rw [List.mem_singleton.mp z, hu0] at e; exact (Option.some.inj e).symm)) e
  clear e1
  -- cells
  refine ⟨_, rfl, ce, _, rfl, .inl (st m1 hce fun _ _ _ z => nomatch z), fun pc hpc => ⟨_, rfl, u, CP K, dx, _, rfl, upd_get hpc hu1, T.cl_Process, T.no_Process_cells, (by show 1 < 1000; decide), ?_⟩⟩
  generalize e2 : upd (upd H1 pc _) u _ = H2
  have npu : pc ≠ u := fun z => by rw [z, hu1] at hpc; cases hpc
  have hu2 : H2 u = some (.ins (CP K) dx [("codes", .ref co), ("cells", .ref pc)]) := by rw [← e2]; exact upd_same
  have m2 : Mv [u] H [u] H2 := by rw [← e2]; exact m1.trans ((Mv.of (same_new hpc)).trans (Mv.put (by simp) (by rw [upd_get hpc hu1]; exact True.intro)))
  have hc2 : H2 pc = some (.dK [(Sum.inl 0, v0), (Sum.inl 1, v1)]) := by rw [← e2, upd_ne npu]; exact upd_same
  have fpc := m1.free hpc
  clear e2
  have nd2 : [pc, u, co].Nodup := by
    refine nd_new (H := H1) ?_ ?_ hpc
    · exact List.nodup_cons.mpr ⟨fun z => ncu (List.mem_singleton.mp z).symm, List.nodup_cons.mpr ⟨(fun z => nomatch z), List.nodup_nil⟩⟩
    · intro a ha
      simp only [List.mem_cons, List.not_mem_nil, or_false] at ha
      rcases ha with rfl | rfl
      · rw [hu1]; exact Option.some_ne_none _
      · rw [st m1 hco fun _ _ _ z => nomatch z]; exact Option.some_ne_none _
  have hs2 : ∀ a ∈ [pc, u, co], H2 a ≠ none := by
    intro a ha
    simp only [List.mem_cons, List.not_mem_nil, or_false] at ha
    rcases ha with rfl | rfl | rfl
    · rw [hc2]; exact Option.some_ne_none _
    · rw [hu2]; exact Option.some_ne_none _
    · rw [st m2 hco fun _ _ _ z => nomatch z]; exact Option.some_ne_none _
  -- arrays
  have hld2 := st m2 hld fun _ _ _ z => nomatch z
  have nlN2 : noL (PyData.tuple (im.ta.map nD)) = true := nlAll nlN
  have g0 := dp_kt m2.kt _ _ nlN2 g0
  have g1 := dp_kt m2.kt _ _ (show noL (PyData.tuple [(Wv.f im.tf).D]) = true from rfl) g1
  cases g0 with
  | @tup ta px _ psq pall =>
  cases g1 with
  | @tup tb py _ qsq qall =>
  have epx := dp_nats pall
  subst epx
  cases qall with
  | @cons vf _ _ _ hvf qt =>
  cases qt
  refine ⟨ld, _, hld2, True.intro, fun od => ?_⟩
  generalize eL : upd H2 ld _ = HL
  have hLd : HL ld = some (.frz od (.dK [(Sum.inl 0, .ref ta), (Sum.inl 1, .ref tb)])) := by rw [← eL]; exact upd_same
  have kL : KT H2 HL := by rw [← eL]; exact KT.put (by rw [hld2]; exact True.intro)
  have psqL := sqT_kt kL psq
  have qsqL := sqT_kt kL qsq
  refine ⟨_, rfl, ld, od, _, rfl, hLd, fun D hD => ?_⟩
  refine dc_it walk_items (PvA HL D im.ta vf) rfl (fun i H' _ p => (PvA.same hD p) _ _ hLd) ?_ ?_
  · rintro i x H3 H3' hi p ⟨Tp, kx, vx, rfl, hTp, rfl, ek, ev⟩
    have s3 := PvA.same hD p
    have s3' := s3.trans (same_new (o := .tup [kx, vx]) hTp)
    rcases i with _ | _ | i
    · cases ek
      cases ev
      refine ⟨Tp, _, rfl, .inl (.inl upd_same), rfl, _, _, rfl, _, _, rfl, rfl, rfl, tyes ⟨_, rfl, _, rfl, ta, _, rfl, .inr (sqT_same s3' psqL), fun l hl => ?_⟩⟩
      have hp : H3 = upd HL D (.dK []) := p
      subst hp
      have nT : Tp ≠ D := fun z => by rw [z, upd_same] at hTp; cases hTp
      have hl1 : (upd HL D (.dK [])) l = none := (same_new hTp).free hl
      have nl : l ≠ D := fun z => by rw [z, upd_same] at hl1; cases hl1
      have hlL : HL l = none := s3.free hl1
      refine ⟨[], Sum.inl 0, rfl, ?_, (by show 0 < sizeLine; decide), l, ?_, hlL, nl, ?_, upd_same⟩
      · rw [upd_ne nl.symm, upd_ne nT.symm]; exact upd_same
      · intro b o e
        rw [upd_ne (ne_of_none e hD), upd_ne (ne_of_none e hlL)]
        exact s3' b o e
      · rw [upd_ne nl, upd_same, List.map_map]
        rfl
    · cases ek
      cases ev
      obtain ⟨r0, _, f0, n0, a0, aD⟩ := p
      refine ⟨Tp, _, rfl, .inl (.inl upd_same), rfl, _, _, rfl, _, _, rfl, rfl, rfl, tyes ⟨_, rfl, _, rfl, tb, _, rfl, .inr (sqT_same s3' qsqL), fun l hl => ?_⟩⟩
      have nTD : Tp ≠ D := fun z => by rw [z, aD] at hTp; cases hTp
      have nT0 : Tp ≠ r0 := fun z => by rw [z, a0] at hTp; cases hTp
      have hl1 : H3 l = none := (same_new hTp).free hl
      have nl : l ≠ D := fun z => by rw [z, aD] at hl1; cases hl1
      have nl0 : l ≠ r0 := fun z => by rw [z, a0] at hl1; cases hl1
      have hlL : HL l = none := s3.free hl1
      have sE : Same HL (upd (upd (upd H3 Tp (.tup [kV (Sum.inl 1), .ref tb])) l (.lst [vf])) D (.dK [(Sum.inl 0, .ref r0), (Sum.inl 1, .ref l)])) := fun b o e => by
        rw [upd_ne (ne_of_none e hD), upd_ne (ne_of_none e hlL)]
        exact s3' b o e
      refine ⟨[(Sum.inl 0, .ref r0)], Sum.inl 1, rfl, ?_, (by show 1 < sizeLine; decide), r0, l, sE, f0, hlL, n0, nl, nl0, ?_, ?_, upd_same⟩
      · rw [upd_ne nl.symm, upd_ne nTD.symm]; exact aD
      · rw [upd_ne n0, upd_ne nl0.symm, upd_ne nT0.symm]; exact a0
      · rw [upd_ne nl]; exact upd_same
    · exact absurd hi (by show ¬ i + 2 < 2; omega)
  rintro H3 ⟨r0, r1, s3, f0, f1, n0, n1, n10, a0, a1, aD⟩
  refine ⟨s3 _ _ hLd, ?_⟩
  have sU := same_unlock hld2 (eL ▸ s3)
  have gL : ∀ a, HL a = none → H2 a = none ∧ a ≠ ld := fun a ha => by
    have n : a ≠ ld := fun z => by rw [z, hLd] at ha; cases ha
    rw [← eL, upd_ne n] at ha
    exact ⟨ha, n⟩
  obtain ⟨g0, n0l⟩ := gL _ f0
  obtain ⟨g1, n1l⟩ := gL _ f1
  obtain ⟨gD, nDl⟩ := gL _ hD
  have b0 : (upd H3 ld (.dK [(Sum.inl 0, .ref ta), (Sum.inl 1, .ref tb)])) r0 = some (.lst (im.ta.map nV)) := (upd_ne n0l).trans a0
  have b1 : (upd H3 ld (.dK [(Sum.inl 0, .ref ta), (Sum.inl 1, .ref tb)])) r1 = some (.lst [vf]) := (upd_ne n1l).trans a1
  have bD : (upd H3 ld (.dK [(Sum.inl 0, .ref ta), (Sum.inl 1, .ref tb)])) D = some (.dK [(Sum.inl 0, .ref r0), (Sum.inl 1, .ref r1)]) := (upd_ne nDl).trans aD
  have nd3 : [r1, r0, D, pc, u, co].Nodup := by
    have h1 := nd_new nd2 hs2 gD
    refine List.nodup_cons.mpr ⟨?_, List.nodup_cons.mpr ⟨?_, h1⟩⟩
    · intro z
      rcases List.mem_cons.mp z with z | z
      · exact n10 z
      · rcases List.mem_cons.mp z with z | z
        · exact n1 z
        · exact hs2 _ z g1
    · intro z
      rcases List.mem_cons.mp z with z | z
      · exact n0 z
      · exact hs2 _ z g0
  generalize upd H3 ld (.dK [(Sum.inl 0, .ref ta), (Sum.inl 1, .ref tb)]) = H4 at sU b0 b1 bD ⊢
  clear eL hLd kL psqL qsqL s3 aD a0 a1
  refine ⟨_, rfl, u, CP K, dx, _, rfl, sU _ _ hu2, T.cl_Process, T.no_Process_arrays, (by show 2 < 1000; decide), ?_⟩
  generalize e5 : upd H4 u _ = H5
  have hu5 : H5 u = some (.ins (CP K) dx [("codes", .ref co), ("cells", .ref pc), ("arrays", .ref D)]) := by rw [← e5]; exact upd_same
  have m5' : Mv [u] H2 [u] H5 := by rw [← e5]; exact (Mv.of sU).trans (Mv.put (by simp) (by rw [sU _ _ hu2]; exact True.intro))
  have m5 := m2.trans m5'
  have q0 : H5 r0 = some (.lst (im.ta.map nV)) := by rw [← e5, upd_ne (fun z => hs2 u (by simp) (by rw [← z]; exact g0))]; exact b0
  have q1 : H5 r1 = some (.lst [vf]) := by rw [← e5, upd_ne (fun z => hs2 u (by simp) (by rw [← z]; exact g1))]; exact b1
  have qD : H5 D = some (.dK [(Sum.inl 0, .ref r0), (Sum.inl 1, .ref r1)]) := by rw [← e5, upd_ne (fun z => hs2 u (by simp) (by rw [← z]; exact gD))]; exact bD
  have qc : H5 pc = some (.dK [(Sum.inl 0, v0), (Sum.inl 1, v1)]) := m5'.st _ _ (fun z => npu (List.mem_singleton.mp z)) hc2
  have hvf5 := dp_kt m5'.kt _ _ rfl hvf
  have hs5 : ∀ a ∈ [r1, r0, D, pc, u, co], H5 a ≠ none := by
    intro a ha
    simp only [List.mem_cons, List.not_mem_nil, or_false] at ha
    rcases ha with rfl | rfl | rfl | ha
    · rw [q1]; exact Option.some_ne_none _
    · rw [q0]; exact Option.some_ne_none _
    · rw [qD]; exact Option.some_ne_none _
    · exact m5'.gr a (hs2 a (by simp only [List.mem_cons, List.not_mem_nil, or_false]; exact ha))
  have F0 : H r0 = none := m2.free g0
  have F1 : H r1 = none := m2.free g1
  have FD : H D = none := m2.free gD
  clear e5 m5' sU b0 b1 bD m2 hu2 hc2 hs2 hld2 psq qsq
  -- waiting
  refine ⟨_, rfl, cl, xs, rfl, .inl (.inl (.inl (st m5 hcl fun _ _ _ z => nomatch z))), fun wl hwl => ⟨_, rfl, u, CP K, dx, _, rfl, upd_get hwl hu5, T.cl_Process, T.no_Process_waiting, (by show 3 < 1000; decide), ?_⟩⟩
  generalize e6 : upd (upd H5 wl _) u _ = H6
  have nd6 := nd_new nd3 hs5 hwl
  have nwu : wl ≠ u := fun z => by rw [z, hu5] at hwl; cases hwl
  have hu6 : H6 u = some (.ins (CP K) dx [("codes", .ref co), ("cells", .ref pc), ("arrays", .ref D), ("waiting", .ref wl)]) := by rw [← e6]; exact upd_same
  have m6' : Mv [u] H5 [u] H6 := by rw [← e6]; exact (Mv.of (same_new hwl)).trans (Mv.put (by simp) (by rw [upd_get hwl hu5]; exact True.intro))
  have qw6 : H6 wl = some (.lst xs) := by rw [← e6, upd_ne nwu]; exact upd_same
  have Fw := m5.free hwl
  have hs6 : ∀ a ∈ [wl, r1, r0, D, pc, u, co], H6 a ≠ none := by
    intro a ha
    rcases List.mem_cons.mp ha with rfl | ha
    · rw [qw6]; exact Option.some_ne_none _
    · exact m6'.gr a (hs5 a ha)
  clear e6
  -- frames
  refine ⟨Nat.zero_le _, fun pf hpf => ⟨_, rfl, u, CP K, dx, _, rfl, upd_get hpf hu6, T.cl_Process, T.no_Process_frames, (by show 4 < 1000; decide), ?_⟩⟩
  generalize e7 : upd (upd H6 pf _) u _ = H7
  have nd7 := nd_new nd6 hs6 hpf
  have nfu : pf ≠ u := fun z => by rw [z, hu6] at hpf; cases hpf
  have hu7 : H7 u = some (.ins (CP K) dx [("codes", .ref co), ("cells", .ref pc), ("arrays", .ref D), ("waiting", .ref wl), ("frames", .ref pf)]) := by rw [← e7]; exact upd_same
  have m7' : Mv [u] H6 [u] H7 := by rw [← e7]; exact (Mv.of (same_new hpf)).trans (Mv.put (by simp) (by rw [upd_get hpf hu6]; exact True.intro))
  have qf7 : H7 pf = some (.lst []) := by rw [← e7, upd_ne nfu]; exact upd_same
  have Ff := (m5.trans m6').free hpf
  clear e7
  -- end
  refine ⟨_, rfl, u, CP K, dx, _, rfl, hu7, T.cl_Process, T.no_Process_end, (by show 5 < 1000; decide), ?_⟩
  generalize e8 : upd H7 u _ = H8
  have hu8 : H8 u = some (PcO K dx co ⟨u, pc, D, r0, r1, wl, pf⟩ .non) := by rw [← e8]; exact upd_same
  have m8' : Mv [u] H7 [u] H8 := by rw [← e8]; exact Mv.put (by simp) (by rw [hu7]; exact True.intro)
  clear e8
  have M7 := m7'.trans m8'
  have M6 := m6'.trans M7
  have M := m5.trans M6
  have nin : ∀ {a : Addr} {H : Hp}, H u ≠ none → H a = none → a ∉ [u] := fun h z w => h (List.mem_singleton.mp w ▸ z)
  have hH : H u ≠ none := by rw [hu0]; exact Option.some_ne_none _
  have hbs : BsH (ShP K im dx co) H8 ⟨u, pc, D, r0, r1, wl, pf⟩ [] (ms0 im k ws) .non := by
    have k := M.kt
    refine ⟨hu8, ⟨v0, v1, M6.st _ _ (nin hH fpc) qc, ?_, ?_⟩, M6.st _ _ (nin hH FD) qD, ?_, ⟨vf, M6.st _ _ (nin hH F1) q1, ?_⟩, ⟨xs, M7.st _ _ (nin hH Fw) qw6, dpAll_kt k _ _ (nlCalls _) hxs⟩, m8'.st _ _ (nin hH Ff) qf7, ⟨ckv, st M hco (fun _ _ _ z => nomatch z), fun j cd hj => ?_⟩⟩
    · exact dp_kt k _ _ rfl d0
    · exact dp_kt k _ _ rfl d1
    · exact M6.st _ _ (nin hH F0) q0
    · exact dp_kt M6.kt _ _ rfl hvf5
    · obtain ⟨v, e1, e2⟩ := hcodes j cd hj
      exact ⟨v, e1, dp_kt k _ _ (nlCd cd) e2⟩
  have hm : MsH (ShP K im dx co) im H8 ⟨u, pc, D, r0, r1, wl, pf⟩ [] (ms0 im k ws) .non 0 := by
    refine ⟨hbs, True.intro, ?_, Nat.le_refl _⟩
    have e : ([u, pc, D, r0, r1, wl, pf] ++ [co] ++ ([] ++ [])).Perm [pf, wl, r1, r0, D, pc, u, co] := by
      rw [List.append_nil, List.append_nil]
      refine (List.perm_append_comm (l₁ := [u, pc, D, r0, r1, wl, pf]) (l₂ := [co])).trans ?_
      exact (List.reverse_perm [pf, wl, r1, r0, D, pc, u, co]).symm.symm.trans (List.Perm.refl _)
    exact e.nodup_iff.mpr nd7
  obtain ⟨k0, ws0, cs, ec, eb, hk0⟩ := begun_eq im k ws
  obtain ⟨cd, hcd⟩ : ∃ cd, im.codes[k0]? = some cd := by
    rcases hk0 with h | rfl
    · obtain ⟨cd, e, _⟩ := hI.starts.2 k0 h
      exact ⟨cd, e⟩
    · exact hcd
  refine ⟨_, rfl, u, dx, _, rfl, hu8, rfl, ?_⟩
  refine ⟨im, dx, co, ⟨u, pc, D, r0, r1, wl, pf⟩, [], ms0 im k ws, k0, ws0, cs, cd, 0, rfl, hm, by omega, ec, hcd, hI.codes cd (List.mem_of_getElem? hcd), fun H' p mv h2 => ?_⟩
  rw [← eb] at h2
  refine q H' _ p rfl ((M.wide (fun a ha => by simp only [List.mem_cons, List.not_mem_nil, or_false] at ha ⊢; exact .inl ha) fun a ha => ?_).trans mv) h2
  have ha : a ∈ [u, pc, D, r0, r1, wl, pf] ++ [co] ++ ([] ++ []) := ha
  rw [List.append_nil, List.append_nil] at ha
  simp only [List.cons_append, List.nil_append, List.mem_cons, List.not_mem_nil, or_false] at ha ⊢
  rcases ha with rfl | rfl | rfl | rfl | rfl | rfl | rfl | rfl
  · exact .inl (.inl rfl)
  · exact .inr fpc
  · exact .inr FD
  · exact .inr F0
  · exact .inr F1
  · exact .inr Fw
  · exact .inr Ff
  · exact .inl (.inr rfl)
end
end K18

set_option maxHeartbeats 1000000
namespace K18
open PySem PySem.Spec PyProof.Rows L2 HG P18
abbrev runD : PyData := .tuple [.str "running"]
abbrev resD : List Nat × Res → PyData
  | (ps, .at _) => .tuple [.tuple (ps.map nD), runD]
  | (ps, .fin e) => .tuple [.tuple (ps.map nD), e.D]
def spOut (K : PySem.W.Frag) : Sp := fun vs H Q _ => ∃ (im : Im) (dx co : Addr) (A : Ad) (fa : List (Addr × Addr)) (s : Ms) (n m : Nat), vs = [.ref A.top, nV m] ∧ ImOk im ∧ MsOk im s ∧ n + m ≤ 100000 ∧ MsH (ShP K im dx co) im H A fa s .non n ∧
  ∀ H' z, Mv (allA (ShP K im dx co) A fa) H [] H' → Dp K H' z (resD (runs im s m)) → Q z H'
/-- where a run stands -/
def StR {K : PySem.W.Frag} (S : Sh K) (im : Im) (A : Ad) (H : Hp) (fa : List (Addr × Addr)) (n : Nat) : Res → Prop
  | .at s => MsH S im H A fa s .non n ∧ MsOk im s
  | .fin e => ∃ v, H A.top = some (S.top A v) ∧ Dp K H v e.D
theorem StR.same {K : PySem.W.Frag} {S : Sh K} {im : Im} {A : Ad} {H H' : Hp} {fa : List (Addr × Addr)} {n : Nat} {r : Res} (h : StR S im A H fa n r) (s : Same H H') : StR S im A H' fa n r := by
  cases r with
  | «at» m => exact ⟨h.1.same s, h.2⟩
  | fin e =>
    obtain ⟨v, e1, e2⟩ := h
    exact ⟨v, s _ _ e1, dp_mono s _ _ e2⟩
theorem Mv.add {F F1 : List Addr} {H H1 : Hp} (m : Mv F H F1 H1) (L : List Addr) : Mv (L ++ F) H (L ++ F1) H1 := ⟨fun b o n e => m.st b o (fun z => n (List.mem_append_right _ z)) e, m.kt, fun a ha => by
  rcases List.mem_append.mp ha with z | z
  · exact .inl (List.mem_append_left _ z)
  · rcases m.nw a z with z | z
    · exact .inl (List.mem_append_right _ z)
    · exact .inr z, m.gr⟩
def tlOut (K : PySem.W.Frag) : TS := tRet (tTup (tCons (tCB (fun xs H Q => ∃ p ys, xs = [V.ref p] ∧ ((SqL K H p ys ∧ ∀ (l : Addr), H l = none → Q (V.ref l) (upd H l (HO.tup ys))) ∨ SqT K H p ys ∧ Q (V.ref p) H)) (tCons (tVar 2) tNil))
  (tCons (tIf (tTest (tOp (fun x y H Q => y = V.non ∧ Q (V.bl (decide (x = V.non))) H) (tFld K (tVar 0) "end") (tC V.non))) (tTup (tCons (tC (V.str "running")) tNil)) (tFld K (tVar 0) "end")) tNil)))
/-- the loop of outcome -/
def OutI (K : PySem.W.Frag) (im : Im) (dx co : Addr) (A : Ad) (fa : List (Addr × Addr)) (s : Ms) (n m : Nat) (H : Hp) (pr : Addr) (j : Nat) (σ : L2.St) (H' : Hp) : Prop :=
  ∃ (i : Nat) (x : Option V) (fa' : List (Addr × Addr)), j = m - i ∧ i ≤ m ∧ σ = [some (.ref A.top), some (nV m), some (.ref pr), some (.int ((m : Int) - (i : Int))), x] ∧ H' pr = some (.lst ((runs im s i).1.map nV)) ∧ pr ∉ allA (ShP K im dx co) A fa' ∧
    Mv (allA (ShP K im dx co) A fa) H ([pr] ++ allA (ShP K im dx co) A fa') H' ∧ StR (ShP K im dx co) im A H' fa' (n + i) (runs im s i).2
theorem dp_nvs {K : PySem.W.Frag} {H : Hp} : ∀ ns : List Nat, DpAll K H (ns.map nV) (ns.map nD)
  | [] => .nil
  | n :: ns => .cons (.int (n : Int)) (dp_nvs ns)
theorem runs_succ {im : Im} {s s' : Ms} {i : Nat} {ps : List Nat} (h : runs im s i = (ps, .at s')) : runs im s (i + 1) = match step im s' with
    | .go s2 p => (ps ++ p.toList, Res.at s2)
    | .stop e => (ps, Res.fin e) := by
  rw [runs, h]
  all_goals rfl
section
variable {P : Program} {w : World} {K : PySem.W.Frag} {mg : Str → Option Value} {base : Heap}
set_option pp.maxSteps 600 in
theorem c_outcome (T : Txt w K mg) : Cal P w K mg base "outcome" 7 ["process", "steps"] (spOut K) := by
  obtain ⟨fd, F⟩ := T.d_outcome
  refine ⟨⟨fd, F.ok sc_outcome (fun vs H Q E h => by repeat (first | (obtain ⟨e, _⟩ := h; subst e; rfl) | (obtain ⟨_, h⟩ := h))) (fun cdv A outer s H vs Q E hr h => ?_), F.bindsN fun _ _ _ _ _ _ us hl => match us, hl with | [_, _], _ => rfl⟩, T.g _ (by decide), F.kp⟩
  obtain ⟨im, dx, co, A, fa, s, n, m, rfl, hI, hok, hn, hm, q⟩ := h
  have hu := hu_of hr
  have M_Process_step := m_Process_step (P := P) (w := w) (base := base) T
  refine ⟨_, PSs.nox (pss_cons (ps_set (i := 2) sc_outcome.nd rfl (.inl rfl) (pe_lst pa_nil))
      (pss_cons (ps_set (i := 3) sc_outcome.nd rfl (.inl rfl) (pv 1))
      (pss_cons (ps_while PassesOwn.never (PW.pt (pw_and (pt_cmpR op_gt (pv 3) pe_int (nomark _)) (pw_and1 (pt_cmpR op_isN (pe_fld (pv 0) rfl) pe_non (nomark _))))) (pss_cons (ps_set (i := 4) sc_outcome.nd rfl (.inl rfl) (C8.pe_mt0 M_Process_step hr (by omega) (pv 0)))
      (pss_cons (ps_if (pt_cmpR op_notN (pv 4) pe_non (nomark _)) (pss_one (ps_expr (pe_bm PySem.F.plainAttrs_list PySem.F.slot_list_append PySem.F.type_list_append mt_append (pv 2) (pa_cons (pv 4) pa_nil)))) pss_nil)
      (pss_one (ps_aug (i := 3) sc_outcome.nd rfl (.inl rfl) pe_int ip_sub)))))
      (pss_one (ps_ret (pe_tup (pa_cons (pe_callTy call_tuple_of (by rfl) T.n_tuple (by decide +kernel) (pa_cons (pv 2) pa_nil)) (pa_cons (pe_ifExp (pt_cmpR op_isN (pe_fld (pv 0) rfl) pe_non (nomark _)) (pe_tup (pa_cons pe_str pa_nil)) (pe_fld (pv 0) rfl)) pa_nil)))))))), ?_⟩
  refine ⟨Nat.zero_le _, fun pr hpr => ⟨_, rfl, ?_⟩⟩
  have s0 := same_new (o := .lst []) hpr
  have hm1 := hm.same s0
  have hall := hm.has fun a ha => by obtain ⟨kv, e, _⟩ := hm.bs.ex; rw [List.mem_singleton.mp ha, e]; exact Option.some_ne_none _
  have npr : pr ∉ allA (ShP K im dx co) A fa := fun z => hall pr z hpr
  have last : ∀ (i : Nat) (x : Option V) (fa' : List (Addr × Addr)) (y : V) (H' : Hp), i ≤ m → runs im s m = runs im s i → H' pr = some (.lst ((runs im s i).1.map nV)) → Mv (allA (ShP K im dx co) A fa) H ([pr] ++ allA (ShP K im dx co) A fa') H' → StR (ShP K im dx co) im A H' fa' (n + i) (runs im s i).2 →
      tlOut K { nx := fun x H' => Q V.non H', rt := Q } [some (.ref A.top), some (nV m), some (.ref pr), some y, x] H' := by
    intro i x fa' y H' hi er hp mv sr
    rw [er] at q
    refine ⟨_, rfl, pr, _, rfl, .inl ⟨.inl (.inl hp), fun l hl => ?_⟩⟩
    have s1 := same_new (o := .tup ((runs im s i).1.map nV)) hl
    have g1 := dp_tupN (K := K) hl (dp_nvs (runs im s i).1)
    have mv1 := mv.trans (Mv.of s1)
    have sr1 := sr.same s1
    generalize upd H' l (.tup ((runs im s i).1.map nV)) = H2 at s1 g1 mv1 sr1 ⊢
    rcases er2 : runs im s i with ⟨ps, r⟩
    rw [er2] at q g1 sr1
    cases r with
    | «at» s' =>
      have htop := sr1.1.bs.top
      refine ⟨_, rfl, A.top, CP K, dx, _, .non, rfl, htop, T.cl_Process, T.no_Process_end, rfl, rfl, _, rfl, iteT ⟨(by show 1 ≤ sizeLine; decide), fun pt hpt => ⟨(by show 2 ≤ sizeLine; decide), fun pu hpu => ?_⟩⟩⟩
      have s2 := same_new (o := .tup [V.str "running"]) hpt
      have g2 := dp_tupN (K := K) hpt (.cons (.str "running") .nil)
      exact q _ _ ((mv1.trans (Mv.of (s2.trans (same_new hpu)))).sub fun a ha => nomatch ha) (dp_tupN hpu (.cons (dp_mono s2 _ _ g1) (.cons g2 .nil)))
    | fin e =>
      obtain ⟨v, htop, hv⟩ := sr1
      have nv : decide (v = V.non) = false := decide_eq_false fun z => by
        rw [z] at hv
        cases e <;> cases hv
      refine ⟨_, rfl, A.top, CP K, dx, _, v, rfl, htop, T.cl_Process, T.no_Process_end, rfl, rfl, _, rfl, ifF nv ⟨_, rfl, A.top, CP K, dx, _, v, rfl, htop, T.cl_Process, T.no_Process_end, rfl, ⟨(by show 2 ≤ sizeLine; decide), fun pu hpu => ?_⟩⟩⟩
      exact q _ _ ((mv1.trans (Mv.of (same_new hpu))).sub fun a ha => nomatch ha) (dp_tupN hpu (.cons g1 (.cons hv .nil)))
  refine ⟨OutI K im dx co A fa s n m H pr, ⟨m, 0, _, fa, rfl, Nat.zero_le _, rfl, upd_same, npr, ?_, hm1, hok⟩, ?_⟩
  · exact (Mv.of s0).sub fun a ha => by
      rcases List.mem_append.mp ha with z | z
      · exact .inr (List.mem_singleton.mp z ▸ hpr)
      · exact .inl z
  rintro j σ H' ⟨i, x, fa', rfl, hi, rfl, hp, npr', mv, sr⟩
  have last := last i x fa' (.int ((m : Int) - (i : Int))) H' hi
  by_cases hlt : i < m
  · refine ⟨_, rfl, _, _, rfl, rfl, _, rfl, ifT (decide_eq_true (by omega)) ?_⟩
    rcases er : runs im s i with ⟨ps, r⟩
    rw [er] at sr hp
    cases r with
    | fin e =>
      have ef : runs im s m = runs im s i := by
        have := runs_fin (im := im) (s := s) (m := i) (e := e) (by rw [er]) (m - i)
        rw [Nat.add_sub_cancel' hi] at this
        exact this
      rw [er] at last
      have last := last (ef.trans er) hp mv sr
      obtain ⟨v, htop, hv⟩ := sr
      have nv : decide (v = V.non) = false := decide_eq_false fun z => by
        rw [z] at hv
        cases e <;> cases hv
      exact ⟨_, rfl, A.top, CP K, dx, _, v, rfl, htop, T.cl_Process, T.no_Process_end, rfl, rfl, _, rfl, ifF nv last⟩
    | «at» s' =>
      clear last
      obtain ⟨hm', hok'⟩ := sr
      have htop := hm'.bs.top
      refine ⟨_, rfl, A.top, CP K, dx, _, .non, rfl, htop, T.cl_Process, T.no_Process_end, rfl, rfl, _, rfl, iteT ⟨fun σ' H2 => OutI K im dx co A fa s n m H pr (m - (i + 1)) σ' H2, fun σ' H2 o => ⟨_, by omega, o⟩, ?_⟩⟩
      -- a step
      have hso := step_ok hI hok'
      have er1 := runs_succ er
      have fin : ∀ (x2 : V) (fa2 : List (Addr × Addr)) (H2 : Hp), pr ∉ allA (ShP K im dx co) A fa2 → Mv (allA (ShP K im dx co) A fa) H ([pr] ++ allA (ShP K im dx co) A fa2) H2 → H2 pr = some (.lst ((runs im s (i + 1)).1.map nV)) → StR (ShP K im dx co) im A H2 fa2 (n + (i + 1)) (runs im s (i + 1)).2 →
          OutI K im dx co A fa s n m H pr (m - (i + 1)) [some (.ref A.top), some (nV m), some (.ref pr), some (.int ((m : Int) - (i : Int) - 1)), some x2] H2 := fun x2 fa2 H2 n2 mv2 h2 sr2 =>
        ⟨i + 1, _, fa2, rfl, hlt, by rw [show (m : Int) - (i : Int) - 1 = (m : Int) - ((i + 1 : Nat) : Int) by omega], h2, n2, mv2, sr2⟩
      have q2 : ∀ {fa2 : List (Addr × Addr)} {H2 : Hp}, Mv (allA (ShP K im dx co) A fa') H' (allA (ShP K im dx co) A fa2) H2 → pr ∉ allA (ShP K im dx co) A fa2 ∧ Mv (allA (ShP K im dx co) A fa) H ([pr] ++ allA (ShP K im dx co) A fa2) H2 ∧ H2 pr = some (.lst (ps.map nV)) := fun mv2 =>
        ⟨mv2.out hp npr', mv.trans (mv2.add [pr]), mv2.st _ _ npr' hp⟩
      refine ⟨_, rfl, A.top, dx, _, rfl, htop, rfl, im, dx, co, A, fa', s', n + i, rfl, hI, hok', by omega, hm', ?_⟩
      cases es : step im s' with
      | stop e =>
        rw [es] at er1
        intro H2 fa2 v mv2 ht2 hv2
        obtain ⟨a1, a2, a3⟩ := q2 mv2
        refine ⟨_, rfl, rfl, _, rfl, iteF ⟨_, rfl, _, _, rfl, rfl, ?_⟩⟩
        refine fin _ fa2 H2 a1 a2 (by rw [er1]; exact a3) ?_
        rw [er1]
        exact ⟨v, ht2, hv2⟩
      | go s2 p =>
        rw [es] at er1 hso
        intro H2 fa2 mv2 hm2
        obtain ⟨a1, a2, a3⟩ := q2 mv2
        cases p with
        | none =>
          refine ⟨_, rfl, rfl, _, rfl, iteF ⟨_, rfl, _, _, rfl, rfl, ?_⟩⟩
          refine fin _ fa2 H2 a1 a2 (by rw [er1]; show _ = some (HO.lst (List.map nV (ps ++ []))); rw [List.append_nil]; exact a3) ?_
          rw [er1]
          exact ⟨hm2, hso⟩
        | some k =>
          refine ⟨_, rfl, rfl, _, rfl, iteT ⟨_, rfl, .inl ⟨rfl, _, .inl (.inl a3)⟩, _, rfl, pr, _, nV k, rfl, rfl, a3, ?_, ?_⟩⟩
          · rw [List.length_map]
            have := runs_len (im := im) (s := s) i
            rw [er] at this
            have : ps.length ≤ i := this
            exact small_line (by omega)
          · refine ⟨_, rfl, _, _, rfl, rfl, ?_⟩
            have hmu : Mut (H2 pr) := by rw [a3]; exact True.intro
            refine fin _ fa2 _ a1 (a2.trans (Mv.put (List.mem_append_left _ (List.mem_singleton.mpr rfl)) hmu)) ?_ ?_
            · rw [er1]
              show _ = some (HO.lst (List.map nV (ps ++ [k])))
              rw [List.map_append]
              exact upd_same
            · rw [er1]
              exact ⟨hm2.mv (F := [pr]) (F' := [pr]) (Mv.put (List.mem_singleton.mpr rfl) hmu) (fun a ha z => a1 (List.mem_singleton.mp z ▸ ha)), hso⟩
  · have e : i = m := by omega
    subst e
    exact ⟨_, rfl, _, _, rfl, rfl, _, rfl, ifF (decide_eq_false (by omega)) (last rfl hp mv sr)⟩
end
end K18

set_option maxHeartbeats 1000000
namespace K18
open PySem PySem.Spec PyProof.Rows L2 HG P18
def spLoad (K : PySem.W.Frag) : Sp := fun vs H Q _ => ∃ (im : Im) (vi : V) (nm : Str) (k : Nat) (ws : List Nat) (wa : Addr) (wv : List V), vs = [vi, .str nm, .ref wa] ∧ ImOk im ∧ Dp K H vi im.D ∧ SqT K H wa wv ∧ DpAll K H wv (ws.map nD) ∧ (nm, k, ws.length) ∈ im.entries ∧
  ∀ H' A dx co p, Mv [] H (allA (ShP K im dx co) A [p]) H' → MsH (ShP K im dx co) im H' A [p] (begun im k ws) .non 1 → Q (.ref A.top) H'
theorem Mv.fresh {F F1 : List Addr} {H H1 H2 : Hp} (s : Same H H1) (m : Mv F H1 F1 H2) (hF : ∀ a ∈ F, H a = none) : Mv [] H F1 H2 := ⟨fun b o _ e => m.st b o (fun z => by rw [hF b z] at e; cases e) (s _ _ e), (KT.of s).trans m.kt, fun a ha => .inr (by
  rcases m.nw a ha with z | z
  · exact hF a z
  · exact s.free z), fun b h => m.gr b fun z => h (s.free z)⟩
/-- the entries of one name -/
abbrev isEn (nm : Str) (c : Nat) (e : Str × Nat × Nat) : Bool := decide (V.str e.1 = V.str nm) && decide (V.int (e.2.2 : Int) = V.int (c : Int))
theorem isEn_iff {nm : Str} {c : Nat} {e : Str × Nat × Nat} : isEn nm c e = true ↔ e.1 = nm ∧ e.2.2 = c := by
  rw [Bool.and_eq_true, decide_eq_true_iff, decide_eq_true_iff]
  constructor
  · rintro ⟨h1, h2⟩
    injection h1 with h1
    injection h2 with h2
    exact ⟨h1, by omega⟩
  · rintro ⟨rfl, rfl⟩
    exact ⟨rfl, rfl⟩
theorem en_only {nm : Str} {k c : Nat} : ∀ {l : List (Str × Nat × Nat)}, (l.map (·.1)).Nodup → (nm, k, c) ∈ l → l.filter (isEn nm c) = [(nm, k, c)]
  | e :: l, nd, h => by
    rw [List.map_cons, List.nodup_cons] at nd
    rcases List.mem_cons.mp h with rfl | h
    · rw [List.filter_cons_of_pos (p := isEn nm c) (isEn_iff.mpr ⟨rfl, rfl⟩), List.filter_eq_nil_iff.mpr fun e he z => nd.1 (List.mem_map.mpr ⟨e, he, (isEn_iff.mp z).1⟩)]
    · rw [List.filter_cons_of_neg (fun z => nd.1 (List.mem_map.mpr ⟨_, h, (isEn_iff.mp z).1.symm⟩))]
      exact en_only nd.2 h
theorem en_parts {K : PySem.W.Frag} {H : Hp} {x : V} {e : Str × Nat × Nat} (h : Dp K H x (enD e)) : ∃ ea, x = .ref ea ∧ SqT K H ea [.str e.1, nV e.2.1, nV e.2.2] := by
  cases h with
  | @tup ea es _ esq eall =>
  cases eall with
  | cons e1 t1 =>
  cases t1 with
  | cons e2 t2 =>
  cases t2 with
  | cons e3 t3 =>
  cases t3
  cases e1
  cases e2
  cases e3
  exact ⟨ea, rfl, esq⟩
theorem im_parts {K : PySem.W.Frag} {H : Hp} {x : V} {im : Im} (h : Dp K H x im.D) : ∃ za ca ga aa sa na cx gx ax sx nx, x = .ref za ∧ SqT K H za [.ref ca, .ref ga, .ref aa, .ref sa, .ref na] ∧ SqT K H ca cx ∧ DpAll K H cx (im.codes.map Cd.D) ∧
    SqT K H ga gx ∧ DpAll K H gx [.tuple [.str "ga", nD im.ga], .tuple [.str "gf", (Wv.f im.gf).D]] ∧ SqT K H aa ax ∧ DpAll K H ax [.tuple [.str "ta", .tuple (im.ta.map nD)], .tuple [.str "tf", .tuple [(Wv.f im.tf).D]]] ∧
    SqT K H sa sx ∧ DpAll K H sx (im.starts.map nD) ∧ SqT K H na nx ∧ DpAll K H nx (im.entries.map enD) := by
  cases h with
  | @tup za zs _ zq zz =>
  cases zz with
  | @cons vc _ t1 _ gc t1 =>
  cases t1 with
  | @cons ve _ t2 _ ge t2 =>
  cases t2 with
  | @cons va _ t3 _ ga t3 =>
  cases t3 with
  | @cons vs _ t4 _ gs t4 =>
  cases t4 with
  | @cons vn _ t5 _ gn t5 =>
  cases t5
  cases gc with
  | tup a1 b1 =>
  cases ge with
  | tup a2 b2 =>
  cases ga with
  | tup a3 b3 =>
  cases gs with
  | tup a4 b4 =>
  cases gn with
  | tup a5 b5 =>
  exact ⟨za, _, _, _, _, _, _, _, _, _, _, rfl, zq, a1, b1, a2, b2, a3, b3, a4, b4, a5, b5⟩
theorem st_eq {t : TS} {D : Ends} {σ σ' : L2.St} {H : Hp} (h : σ = σ') (x : t D σ' H) : t D σ H := h ▸ x
theorem gn_eq {i : Nat} {x : V} {σ σ' : L2.St} {H : Hp} {Q : L2.St → Hp → Prop} (e : σ.set i (some x) = σ') (h : Q σ' H) : gName i x σ H Q := by
  subst e
  exact h
/-- a dict of two numbered values -/
def PvC (HL : Hp) (D : Addr) (v u : V) (i : Nat) (H : Hp) : Prop := Same HL H ∧
  match i with
  | 0 => H D = some (.dK [])
  | 1 => H D = some (.dK [(Sum.inl 0, v)])
  | _ => H D = some (.dK [(Sum.inl 0, v), (Sum.inl 1, u)])
theorem cd_parts {K : PySem.W.Frag} {H : Hp} {x : V} {cd : Cd} (h : Dp K H x cd.D) : ∃ da p c, x = .ref da ∧ SqT K H da [p, .bl cd.ret, c] ∧ Dp K H p (.tuple (cd.ps.map nD)) ∧ Dp K H c (.tuple (cd.rows.map Rw.D)) := by
  cases h with
  | @tup ea es _ esq eall =>
  cases eall with
  | cons e1 t1 =>
  cases t1 with
  | cons e2 t2 =>
  cases t2 with
  | cons e3 t3 =>
  cases t3
  cases e2
  exact ⟨ea, _, _, rfl, esq, e1, e3⟩
theorem two_parts {K : PySem.W.Frag} {H : Hp} {xs : List V} {n m : Str} {d e : PyData} (h : DpAll K H xs [.tuple [.str n, d], .tuple [.str m, e]]) : ∃ a b v u, xs = [.ref a, .ref b] ∧ SqT K H a [.str n, v] ∧ SqT K H b [.str m, u] ∧ Dp K H v d ∧ Dp K H u e := by
  cases h with
  | cons h1 t1 =>
  cases t1 with
  | cons h2 t2 =>
  cases t2
  cases h1 with
  | @tup a _ _ q1 a1 =>
  cases h2 with
  | @tup b _ _ q2 a2 =>
  cases a1 with
  | cons b1 c1 =>
  cases c1 with
  | cons b2 c2 =>
  cases c2
  cases b1
  cases a2 with
  | cons d1 e1 =>
  cases e1 with
  | cons d2 e2 =>
  cases e2
  cases d1
  exact ⟨a, b, _, _, rfl, q1, q2, b2, d2⟩
section
variable {P : Program} {w : World} {K : PySem.W.Frag} {mg : Str → Option Value} {base : Heap}
set_option pp.maxSteps 600 in
theorem c_loaded (T : Txt w K mg) : Cal P w K mg base "loaded" 7 ["image", "entry", "words"] (spLoad K) := by
  obtain ⟨fd, F⟩ := T.d_loaded
  refine ⟨⟨fd, F.ok sc_loaded (fun vs H Q E h => by repeat (first | (obtain ⟨e, _⟩ := h; subst e; rfl) | (obtain ⟨_, h⟩ := h))) (fun cdv A outer s H vs Q E hr h => ?_), F.bindsN fun _ _ _ _ _ _ us hl => match us, hl with | [_, _, _], _ => rfl⟩, T.g _ (by decide), F.kp⟩
  obtain ⟨im, vi, nm, k, ws, wa, wv, rfl, hI, hvi, hwa, hwv, hen, q⟩ := h
  have hu := hu_of hr
  have K_Process := k_Process (P := P) (w := w) (base := base) T
  refine ⟨_, PSs.nox (pss_cons (ps_asg (pv 0) (pg_tupK (K := K) (n := 5) rfl rfl (pgs_cons (pg_name (i := 3) sc_loaded.nd rfl (.inl rfl)) (pgs_cons (pg_name (i := 4) sc_loaded.nd rfl (.inl rfl)) (pgs_cons (pg_name (i := 5) sc_loaded.nd rfl (.inl rfl)) (pgs_cons (pg_name (i := 6) sc_loaded.nd rfl (.inl rfl)) (pgs_cons (pg_name (i := 7) sc_loaded.nd rfl (.inl rfl)) pgs_nil)))))))
      (pss_cons (ps_setLc (i := 8) (own := [("name", 12), ("number", 13), ("count", 14)]) (by rfl) sc_loaded.nd rfl rfl (sw_true rfl rfl rfl (by decide +kernel)) (pi_tup (pv 7)) (blkOk_by (own := [("name", 12), ("number", 13), ("count", 14)]) (N := N_loaded) (sc := defScope s_loaded) (by decide +kernel)) (fun _ _ _ _ _ => (pg_tupK (K := K) (n := 3) rfl rfl (pgs_cons (pg_name (i := 12) sc_loaded.nd rfl (.inl rfl)) (pgs_cons (pg_name (i := 13) sc_loaded.nd rfl (.inl rfl)) (pgs_cons (pg_name (i := 14) sc_loaded.nd rfl (.inl rfl)) pgs_nil))))) (fun _ _ _ _ _ => pts_one (PW.pt (pw_and (pt_cmpR op_eq (pv 12) (pv 1) (nomark _)) (pw_and1 (pt_cmpR op_eq (pv 14) (pe_callB (lenK (K := K) rfl) (by rfl) T.n_len (by decide +kernel) (pa_cons (pv 2) pa_nil)) (nomark _)))))) (fun _ _ _ _ _ => (pv 13)))
      (pss_cons (ps_if (pt_cmpR (op_eqDK (K := K) rfl hr.units) (pv 8) (pe_lst pa_nil) (nomark _)) (pss_one ps_never) pss_nil)
      (pss_cons (ps_setDc (i := 9) (own := [("number", 13), ("slots", 15), ("returns", 16), ("code", 17)]) (by rfl) sc_loaded.nd rfl rfl (sw_trueD rfl rfl rfl (by decide +kernel)) (pi_enumT (by rfl) T.n_enumerate (pa_cons (pv 3) pa_nil)) (blkOk_by (own := [("number", 13), ("slots", 15), ("returns", 16), ("code", 17)]) (N := N_loaded) (sc := defScope s_loaded) (by decide +kernel)) (fun _ _ _ _ _ => (pg_tupK (K := K) (n := 2) rfl rfl (pgs_cons (pg_name (i := 13) sc_loaded.nd rfl (.inl rfl)) (pgs_cons (pg_tupK (K := K) (n := 3) rfl rfl (pgs_cons (pg_name (i := 15) sc_loaded.nd rfl (.inl rfl)) (pgs_cons (pg_name (i := 16) sc_loaded.nd rfl (.inl rfl)) (pgs_cons (pg_name (i := 17) sc_loaded.nd rfl (.inl rfl)) pgs_nil)))) pgs_nil)))) (fun _ _ _ _ _ => pts_nil) (fun _ _ _ _ _ => (pv 13)) (fun _ _ _ _ _ => (pe_tup (pa_cons (pv 15) (pa_cons (pv 17) pa_nil)))))
      (pss_cons (ps_setDc (i := 10) (own := [("number", 13), ("name", 12), ("value", 18)]) (by rfl) sc_loaded.nd rfl rfl (sw_trueD rfl rfl rfl (by decide +kernel)) (pi_enumT (by rfl) T.n_enumerate (pa_cons (pv 4) pa_nil)) (blkOk_by (own := [("number", 13), ("name", 12), ("value", 18)]) (N := N_loaded) (sc := defScope s_loaded) (by decide +kernel)) (fun _ _ _ _ _ => (pg_tupK (K := K) (n := 2) rfl rfl (pgs_cons (pg_name (i := 13) sc_loaded.nd rfl (.inl rfl)) (pgs_cons (pg_tupK (K := K) (n := 2) rfl rfl (pgs_cons (pg_name (i := 12) sc_loaded.nd rfl (.inl rfl)) (pgs_cons (pg_name (i := 18) sc_loaded.nd rfl (.inl rfl)) pgs_nil))) pgs_nil)))) (fun _ _ _ _ _ => pts_nil) (fun _ _ _ _ _ => (pv 13)) (fun _ _ _ _ _ => (pv 18)))
      (pss_cons (ps_setDc (i := 11) (own := [("number", 13), ("name", 12), ("some", 19)]) (by rfl) sc_loaded.nd rfl rfl (sw_trueD rfl rfl rfl (by decide +kernel)) (pi_enumT (by rfl) T.n_enumerate (pa_cons (pv 5) pa_nil)) (blkOk_by (own := [("number", 13), ("name", 12), ("some", 19)]) (N := N_loaded) (sc := defScope s_loaded) (by decide +kernel)) (fun _ _ _ _ _ => (pg_tupK (K := K) (n := 2) rfl rfl (pgs_cons (pg_name (i := 13) sc_loaded.nd rfl (.inl rfl)) (pgs_cons (pg_tupK (K := K) (n := 2) rfl rfl (pgs_cons (pg_name (i := 12) sc_loaded.nd rfl (.inl rfl)) (pgs_cons (pg_name (i := 19) sc_loaded.nd rfl (.inl rfl)) pgs_nil))) pgs_nil)))) (fun _ _ _ _ _ => pts_nil) (fun _ _ _ _ _ => (pv 13)) (fun _ _ _ _ _ => (pv 19)))
      (pss_one (ps_ret (pe_mk K_Process (hr.mono (by omega)) (by rfl) (pa_cons (pv 9) (pa_cons (pv 10) (pa_cons (pv 11) (pa_cons (pe_op op_cat (pe_lc (own := [("number", 13)]) (by rfl) sc_loaded.nd (pi_tup (pv 6)) (blkOk_by (own := [("number", 13)]) (N := N_loaded) (sc := defScope s_loaded) (by decide +kernel)) (fun _ _ _ _ _ => (pg_name (i := 13) sc_loaded.nd rfl (.inl rfl))) (fun _ _ _ _ _ => pts_nil) (fun _ _ _ _ _ => (pe_tup (pa_cons (pv 13) (pa_cons (pe_tup pa_nil) pa_nil))))) (pe_lst (pa_cons (pe_tup (pa_cons (pe_ix (ix_listK (K := K) rfl) (pv 8) pe_int (fun _ _ => rfl)) (pa_cons (pv 2) pa_nil))) pa_nil))) pa_nil))))))))))))), ?_⟩
  obtain ⟨za, ca, ga, aa, sa, na, cx, gx, ax, sx, nx, rfl, zq, csq, call, gsq, gall, asq, aall, ssq, sall, nsq, nall⟩ := im_parts hvi
  refine ⟨_, rfl, za, _, rfl, zq, rfl, _, _, rfl, _, _, rfl, _, _, rfl, _, _, rfl, _, _, rfl, rfl, ?_⟩
  refine st_eq (σ' := [some (.ref za), some (.str nm), some (.ref wa), some (.ref ca), some (.ref ga), some (.ref aa), some (.ref sa), some (.ref na), none, none, none, none, none, none, none, none, none, none, none, none]) rfl ?_
  have wlen := dpAll_len hwv
  rw [List.length_map] at wlen
  -- numbers
  refine ⟨_, rfl, na, rfl, ⟨nx, nsq⟩, fun D hD => ?_⟩
  have nlen := dpAll_len nall
  rw [List.length_map] at nlen
  have l5 := hI.entries.1
  refine lc_tup (xs := nx) (fun i H2 => H2 D = some (.lst (((im.entries.take i).filter (isEn nm ws.length)).map fun e => nV e.2.1)) ∧ Same H H2) ⟨upd_same, same_new hD⟩ ?_ ?_ ?_
  · rintro i H2 _ ⟨_, s2⟩
    exact sqT_same s2 nsq
  · rintro i x H2 hi ⟨h2, s2⟩
    obtain ⟨e, he, hxe⟩ := dpAll_map_get nall hi
    obtain ⟨ea, rfl, esq⟩ := en_parts (dp_mono s2 _ _ hxe)
    have hlt := (List.getElem?_eq_some_iff.mp he).1
    have etk : im.entries.take (i + 1) = im.entries.take i ++ [e] := by rw [List.take_add_one, he]; rfl
    have stay : isEn nm ws.length e = false → (H2 D = some (.lst (((im.entries.take (i + 1)).filter (isEn nm ws.length)).map fun e => nV e.2.1)) ∧ Same H H2) := fun z => by
      rw [etk, List.filter_append, List.filter_cons_of_neg (by rw [z]; decide), List.filter_nil, List.append_nil]
      exact ⟨h2, s2⟩
    refine ⟨ea, _, rfl, esq, rfl, _, _, rfl, _, _, rfl, _, _, rfl, rfl, rfl, _, rfl, _, rfl, rfl, _, rfl, ?_⟩
    show if decide (V.str e.1 = V.str nm) = true then _ else _
    by_cases h1 : decide (V.str e.1 = V.str nm) = true
    · refine ifT h1 ⟨_, rfl, _, rfl, .ref wa, wv.length, rfl, .inr ⟨wv, sqT_same s2 hwa, rfl⟩, rfl, _, rfl, ?_⟩
      rw [wlen]
      show if decide (V.int (e.2.2 : Int) = V.int (ws.length : Int)) = true then _ else _
      by_cases h3 : decide (V.int (e.2.2 : Int) = V.int (ws.length : Int)) = true
      · refine ifT h3 ⟨_, rfl, _, h2, small_line ?_, ?_, fun b o q => by rw [upd_ne (ne_of_none q hD)]; exact s2 _ _ q⟩
        · rw [List.length_map]
          have := List.length_filter_le (isEn nm ws.length) (im.entries.take i)
          rw [List.length_take] at this
          omega
        · rw [etk, List.filter_append, List.filter_cons_of_pos (p := isEn nm ws.length) (by show (_ && _) = true; rw [h1, h3]; rfl), List.filter_nil, List.map_append]
          exact upd_same
      · have h3 : decide (V.int (e.2.2 : Int) = V.int (ws.length : Int)) = false := by simpa using h3
        exact ifF h3 (stay (by show (_ && _) = false; rw [h3, Bool.and_false]))
    · have h1 : decide (V.str e.1 = V.str nm) = false := by simpa using h1
      exact ifF h1 (iteF (stay (by show (_ && _) = false; rw [h1, Bool.false_and])))
  rintro H2 ⟨h2, s2⟩
  rw [nlen, List.take_of_length_le (Nat.le_refl _), en_only hI.entries.2.1 hen] at h2
  have h2 : H2 D = some (.lst [nV k]) := h2
  refine gn_eq (σ' := [some (.ref za), some (.str nm), some (.ref wa), some (.ref ca), some (.ref ga), some (.ref aa), some (.ref sa), some (.ref na), some (.ref D), none, none, none, none, none, none, none, none, none, none, none]) rfl ?_
  refine ⟨_, rfl, Nat.zero_le _, fun pe hpe => ⟨.list [nD k], .list [], .lst (.inl (.inl (same_new hpe _ _ h2))) (.cons (.int (k : Int)) .nil), .lst (.inl (.inl upd_same)) .nil, rfl, rfl, _, rfl, ifF rfl ?_⟩⟩
  have s3 := s2.trans (same_new (o := .lst []) hpe)
  have h3 := same_new (o := .lst []) hpe _ _ h2
  generalize upd H2 pe (.lst []) = H3 at s3 h3 ⊢
  -- numbered
  refine ⟨_, rfl, ca, cx, rfl, sqT_same s3 csq, fun D2 hD2 => ?_⟩
  have clen := dpAll_len call
  rw [List.length_map] at clen
  refine dc_it walk_enumT (fun i H4 => Same H3 H4 ∧ ∃ kv, H4 D2 = some (.dK kv) ∧ kv.length ≤ i ∧ ∀ (j : Nat) (cd : Cd), j < i → im.codes[j]? = some cd → ∃ v, valV kv (Sum.inl (j : Int)) = some v ∧ Dp K H4 v (cdPD cd)) ⟨same_new hD2, [], upd_same, Nat.zero_le _, fun j cd z => absurd z (Nat.not_lt_zero j)⟩ (fun i H4 _ p => sqT_same (s3.trans p.1) csq) ?_ ?_
  · rintro i x H4 H4' hi ⟨s4, kv, h4, hl, hkv⟩ ⟨Tp, kx, vx, rfl, hTp, rfl, ek, ev⟩
    cases ek
    obtain ⟨cd, hcd, hvx⟩ := dpAll_map_get call ev
    have s4' := s4.trans (same_new (o := .tup [.int (i : Nat), vx]) hTp)
    obtain ⟨da, vp, vc, rfl, dsq, hvp, hvc⟩ := cd_parts (dp_mono (s3.trans s4') _ _ hvx)
    refine ⟨Tp, _, rfl, .inl (.inl upd_same), rfl, _, _, rfl, _, _, rfl, da, _, rfl, dsq, rfl, _, _, rfl, _, _, rfl, _, _, rfl, rfl, rfl, rfl, tyes ⟨_, rfl, _, rfl, _, rfl, (by show 2 ≤ sizeLine; decide), fun pt hpt => ⟨kv, Sum.inl (i : Int), rfl, upd_get hpt (upd_get hTp h4), ?_, ?_, _, upd_same, ?_, ?_⟩⟩⟩
    · have := hI.len
      exact small_line (by omega)
    · intro b o e
      rw [upd_ne (ne_of_none e hD2)]
      exact upd_get hpt (s4' b o e)
    · have := length_putK kv (Sum.inl (i : Int)) (V.ref pt)
      omega
    · intro j cd' hj hcd'
      have g := dp_tupN (K := K) hpt (.cons hvp (.cons hvc .nil))
      have kk := KT.put (o := .dK (putK kv (Sum.inl (i : Int)) (V.ref pt))) (show Mut ((upd (upd H4 Tp (.tup [.int (i : Nat), .ref da])) pt (.tup [vp, vc])) D2) by rw [upd_get hpt (upd_get hTp h4)]; exact True.intro)
      rw [valV_put]
      by_cases e : j = i
      · subst e
        rw [hcd] at hcd'
        cases hcd'
        rw [if_pos rfl]
        exact ⟨_, rfl, dp_kt kk _ _ (nlCd cd) g⟩
      · rw [if_neg (fun z => e (by injection z with z; omega))]
        obtain ⟨v, e1, e2⟩ := hkv j cd' (by omega) hcd'
        exact ⟨v, e1, dp_kt kk _ _ (nlCd cd') (dp_mono (same_new hpt) _ _ (dp_mono (same_new hTp) _ _ e2))⟩
  rintro H5 ⟨s5, kv, hD5, _, hkv⟩
  rw [clen] at hkv
  have hkv : ∀ (j : Nat) (cd : Cd), im.codes[j]? = some cd → ∃ v, valV kv (Sum.inl (j : Int)) = some v ∧ Dp K H5 v (cdPD cd) := fun j cd h => hkv j cd (List.getElem?_eq_some_iff.mp h).1 h
  have s6 := s3.trans s5
  have h5 := s5 _ _ h3
  refine gn_eq (σ' := [some (.ref za), some (.str nm), some (.ref wa), some (.ref ca), some (.ref ga), some (.ref aa), some (.ref sa), some (.ref na), some (.ref D), some (.ref D2), none, none, none, none, none, none, none, none, none, none]) rfl ?_
  -- values
  obtain ⟨a0, a1, v0, v1, rfl, q0, q1, d0, d1⟩ := two_parts gall
  refine ⟨_, rfl, ga, _, rfl, sqT_same s6 gsq, fun D3 hD3 => ?_⟩
  refine dc_it walk_enumT (PvC H5 D3 v0 v1) ⟨same_new hD3, upd_same⟩ (fun i H4 _ p => sqT_same (s6.trans p.1) gsq) ?_ ?_
  · rintro i x H4 H4' hi ⟨s4, h4⟩ ⟨Tp, kx, vx, rfl, hTp, rfl, ek, ev⟩
    have s4' := s4.trans (same_new (o := .tup [kx, vx]) hTp)
    have sE : ∀ z, Same H5 (upd (upd H4 Tp (.tup [kx, vx])) D3 z) := fun z b o e => by
      rw [upd_ne (ne_of_none e hD3)]
      exact s4' b o e
    rcases i with _ | _ | i
    · cases ek
      cases ev
      have h4 : H4 D3 = some (.dK []) := h4
      exact ⟨Tp, _, rfl, .inl (.inl upd_same), rfl, _, _, rfl, _, _, rfl, a0, _, rfl, sqT_same (s6.trans s4') q0, rfl, _, _, rfl, _, _, rfl, rfl, rfl, rfl, tyes ⟨_, rfl, _, rfl, _, Sum.inl 0, rfl, upd_get hTp h4, (by show 0 < sizeLine; decide), sE _, upd_same⟩⟩
    · cases ek
      cases ev
      have h4 : H4 D3 = some (.dK [(Sum.inl 0, v0)]) := h4
      exact ⟨Tp, _, rfl, .inl (.inl upd_same), rfl, _, _, rfl, _, _, rfl, a1, _, rfl, sqT_same (s6.trans s4') q1, rfl, _, _, rfl, _, _, rfl, rfl, rfl, rfl, tyes ⟨_, rfl, _, rfl, _, Sum.inl 1, rfl, upd_get hTp h4, (by show 1 < sizeLine; decide), sE _, upd_same⟩⟩
    · exact absurd hi (by show ¬ i + 2 < 2; omega)
  rintro H6 ⟨s5, hD32⟩
  have hD32 : H6 D3 = some (.dK [(Sum.inl 0, v0), (Sum.inl 1, v1)]) := hD32
  have s7 := s6.trans s5
  have hD52 := s5 _ _ hD5
  have h6 := s5 _ _ h5
  have hkv6 : ∀ (j : Nat) (cd : Cd), im.codes[j]? = some cd → ∃ v, valV kv (Sum.inl (j : Int)) = some v ∧ Dp K H6 v (cdPD cd) := fun j cd h => by
    obtain ⟨v, e1, e2⟩ := hkv j cd h
    exact ⟨v, e1, dp_mono s5 _ _ e2⟩
  clear hkv
  refine gn_eq (σ' := [some (.ref za), some (.str nm), some (.ref wa), some (.ref ca), some (.ref ga), some (.ref aa), some (.ref sa), some (.ref na), some (.ref D), some (.ref D2), some (.ref D3), none, none, none, none, none, none, none, none, none]) rfl ?_
  -- lists
  obtain ⟨b0, b1, t0, t1, rfl, r0, r1, g0, g1⟩ := two_parts aall
  refine ⟨_, rfl, aa, _, rfl, sqT_same s7 asq, fun D4 hD4 => ?_⟩
  refine dc_it walk_enumT (PvC H6 D4 t0 t1) ⟨same_new hD4, upd_same⟩ (fun i H4 _ p => sqT_same (s7.trans p.1) asq) ?_ ?_
  · rintro i x H4 H4' hi ⟨s4, h4⟩ ⟨Tp, kx, vx, rfl, hTp, rfl, ek, ev⟩
    have s4' := s4.trans (same_new (o := .tup [kx, vx]) hTp)
    have sE : ∀ z, Same H6 (upd (upd H4 Tp (.tup [kx, vx])) D4 z) := fun z b o e => by
      rw [upd_ne (ne_of_none e hD4)]
      exact s4' b o e
    rcases i with _ | _ | i
    · cases ek
      cases ev
      have h4 : H4 D4 = some (.dK []) := h4
      exact ⟨Tp, _, rfl, .inl (.inl upd_same), rfl, _, _, rfl, _, _, rfl, b0, _, rfl, sqT_same (s7.trans s4') r0, rfl, _, _, rfl, _, _, rfl, rfl, rfl, rfl, tyes ⟨_, rfl, _, rfl, _, Sum.inl 0, rfl, upd_get hTp h4, (by show 0 < sizeLine; decide), sE _, upd_same⟩⟩
    · cases ek
      cases ev
      have h4 : H4 D4 = some (.dK [(Sum.inl 0, t0)]) := h4
      exact ⟨Tp, _, rfl, .inl (.inl upd_same), rfl, _, _, rfl, _, _, rfl, b1, _, rfl, sqT_same (s7.trans s4') r1, rfl, _, _, rfl, _, _, rfl, rfl, rfl, rfl, tyes ⟨_, rfl, _, rfl, _, Sum.inl 1, rfl, upd_get hTp h4, (by show 1 < sizeLine; decide), sE _, upd_same⟩⟩
    · exact absurd hi (by show ¬ i + 2 < 2; omega)
  rintro H7 ⟨s5, hD42⟩
  have hD42 : H7 D4 = some (.dK [(Sum.inl 0, t0), (Sum.inl 1, t1)]) := hD42
  have s8 := s7.trans s5
  have hD53 := s5 _ _ hD52
  have h7 := s5 _ _ h6
  have hD33 := s5 _ _ hD32
  have hkv7 : ∀ (j : Nat) (cd : Cd), im.codes[j]? = some cd → ∃ v, valV kv (Sum.inl (j : Int)) = some v ∧ Dp K H7 v (cdPD cd) := fun j cd h => by
    obtain ⟨v, e1, e2⟩ := hkv6 j cd h
    exact ⟨v, e1, dp_mono s5 _ _ e2⟩
  clear hkv6
  refine gn_eq (σ' := [some (.ref za), some (.str nm), some (.ref wa), some (.ref ca), some (.ref ga), some (.ref aa), some (.ref sa), some (.ref na), some (.ref D), some (.ref D2), some (.ref D3), some (.ref D4), none, none, none, none, none, none, none, none]) rfl ?_
  -- the process
  refine ⟨_, rfl, _, rfl, _, rfl, _, rfl, sa, rfl, ⟨sx, sqT_same s8 ssq⟩, fun D5 hD5 => ?_⟩
  have slen := dpAll_len sall
  rw [List.length_map] at slen
  have hs2 := hI.starts.1
  have nlC : ∀ l : List Nat, noLAll (l.map fun b => callD (b, [])) = true := fun l => noLAll_map fun p _ => rfl
  refine lc_tup (xs := sx) (fun i H2 => ∃ us, H2 D5 = some (.lst us) ∧ DpAll K H2 us ((im.starts.take i).map fun b => callD (b, [])) ∧ us.length = i ∧ Same H7 H2) ⟨[], upd_same, .nil, rfl, same_new hD5⟩ ?_ ?_ ?_
  · rintro i H2 _ ⟨us, _, _, _, s2⟩
    exact sqT_same (s8.trans s2) ssq
  · rintro i x H2 hi ⟨us, h2, hus, hul, s2⟩
    obtain ⟨b, hb, hxb⟩ := dpAll_map_get sall hi
    have ex : x = nV b := by cases hxb; rfl
    subst ex
    refine ⟨rfl, tyes ⟨_, rfl, Nat.zero_le _, fun p0 hp0 => ⟨(by show 2 ≤ sizeLine; decide), fun p1 hp1 => ⟨us, upd_get hp1 (upd_get hp0 h2), small_line (by have := (List.getElem?_eq_some_iff.mp hb).1; omega), us ++ [.ref p1], upd_same, ?_, by rw [List.length_append, hul]; rfl, fun c o e => by rw [upd_ne (ne_of_none e hD5)]; exact upd_get hp1 (upd_get hp0 (s2 c o e))⟩⟩⟩⟩
    have g0 := dp_tupN (K := K) (vs := []) (ds := []) hp0 .nil
    have g := dp_tupN (K := K) hp1 (.cons (.int (b : Int)) (.cons g0 .nil))
    have kk := KT.lst (o := .lst (us ++ [.ref p1])) (upd_get (o := .tup [nV b, .ref p0]) hp1 (upd_get (o := .tup []) hp0 h2))
    rw [List.take_add_one, hb, List.map_append]
    exact dpAll_app (dpAll_kt kk _ _ (nlC _) (dpAll_mono (same_new hp1) _ _ (dpAll_mono (same_new hp0) _ _ hus))) (.cons (dp_kt kk _ _ rfl g) .nil)
  rintro H8 ⟨us, h8, hus, hul, s9⟩
  rw [slen, List.take_of_length_le (Nat.le_refl _)] at hus
  have h8D := s9 _ _ h7
  refine ⟨_, rfl, D, _, 0, nV k, rfl, rfl, .inl (.inl h8D), rfl, _, rfl, (by show 2 ≤ sizeLine; decide), fun p6 hp6 => ⟨(by show 1 ≤ sizeLine; decide), fun p7 hp7 => ⟨D5, p7, us, [.ref p6], rfl, rfl, upd_get hp7 (upd_get hp6 h8), upd_same, ?_, fun p8 hp8 => ?_⟩⟩⟩
  · rw [hul, slen]
    exact Nat.le_trans (show im.starts.length + 1 ≤ 3 by omega) (by decide)
  generalize eH : upd (upd (upd H8 p6 (.tup [nV k, .ref wa])) p7 (.lst [.ref p6])) p8 (.lst (us ++ [.ref p6])) = H9
  have h98 : H9 p8 = some (.lst (us ++ [.ref p6])) := by rw [← eH]; exact upd_same
  have g6 := dp_tupN (K := K) hp6 (.cons (.int (k : Int)) (.cons (.tup (sqT_same (s8.trans s9) hwa) (dpAll_mono (s8.trans s9) _ _ hwv)) .nil))
  have s10 : Same H8 H9 := by rw [← eH]; exact ((same_new hp6).trans (same_new hp7)).trans (same_new hp8)
  have g6 : Dp K H9 (.ref p6) (callD (k, ws)) := by rw [← eH]; exact dp_mono ((same_new hp7).trans (same_new hp8)) _ _ g6
  clear eH
  intro u dxx hu1 hdx ne
  have sm : Same H9 (upd (upd H9 dxx (.own u)) u (.ins (CP K) dxx [])) := fun b o e => by
    rw [upd_ne (ne_of_none e hu1), upd_ne (ne_of_none e hdx)]
    exact e
  have s11 := s10.trans sm
  have s12 := s9.trans s11
  have sA := s8.trans s12
  refine ⟨im, u, dxx, D2, D3, D4, p8, k, ws, kv, v0, v1, t0, t1, us ++ [.ref p6], rfl, hI, upd_same, s12 _ _ hD53, fun j cd h => ?_, s12 _ _ hD33, dp_mono sA _ _ d0, dp_mono sA _ _ d1, s12 _ _ hD42, dp_mono sA _ _ g0, dp_mono sA _ _ g1, sm _ _ h98, ?_, ?_, fun H' A' p eA mv hms => ⟨rfl, ?_⟩⟩
  · obtain ⟨v, e1, e2⟩ := hkv7 j cd h
    exact ⟨v, e1, dp_mono s12 _ _ e2⟩
  · rw [List.map_append, List.map_map]
    exact dpAll_app (dpAll_mono s11 _ _ hus) (.cons (dp_mono sm _ _ g6) .nil)
  · obtain ⟨cd, e, _⟩ := hI.entries.2.2 _ hen
    exact ⟨cd, e⟩
  · have z := q H' A' dxx D2 p (Mv.fresh sA mv fun a ha => ?_) hms
    · rw [eA] at z
      exact z
    · rcases List.mem_cons.mp ha with rfl | ha
      · exact (s8.trans (s9.trans s10)).free hu1
      · rw [List.mem_singleton.mp ha]
        exact s3.free hD2
end
end K18

set_option maxHeartbeats 2000000
/-! HStarK: def f(a, .., *v, k = ..), called as f(e, .., k = e'). -/
namespace HG
open PySem PySem.Spec PyProof.Rows L2 StX
/-- a promise by position and one keyword -/
def FnRK (P : Program) (w : World) (K : PySem.W.Frag) (mg : Str → Option Value) (base : Heap) (CX : CXT) (k : Nat) (f : Addr) (ks : List Str) (sp : List V → Sp) : Prop :=
  ∀ (A : Around) (outer : List Env) (s : Shared) (H : Hp) (us ws : List Value) (vs zs : List V) (Q : VK) (E : XK), Room k A → Env0 P w K mg base A outer s H → Vals vs us → Vals zs ws → sp zs vs H Q E →
    codeAny (model P w) A (.call (.ref f) ⟨us, ks.zip ws⟩) (CR CX outer P w H s Q E) s
section
variable {CX : CXT} {P : Program} {w : World} {K : PySem.W.Frag} {mg : Str → Option Value} {base : Heap} {k : Nat} {f : Addr} {name qual : Str} {params : Arguments} {body : List Stmt} {scope : Scope} {dV kV doc pm cdv ct oc : Value} {an od : Option Addr}
  {osl : Array (Option Value)} {N ps : List Str} {sp : Sp}
/-- def f(a, .., *v, k = ..): what is left over is a new tuple -/
theorem fn_starK {pv pk : Str} (lk : K.lookup f = some ⟨oc, od, .func (PySem.W.fnOf name qual params body scope dV kV doc pm an cdv ct), osl⟩) (hcd : PySem.W.codeIn K cdv qual = true) (S : FnScope N (ps ++ [pk, pv]) scope) (hCX : CXUp CX)
    (hb : ∀ (us rest : List Value) (z : Value), us.length = ps.length → bindArgs (PySem.W.fnOf name qual params body scope dV kV doc pm an cdv ct) ⟨us ++ rest, [(pk, z)]⟩ = (newTuple rest >>= fun t => pure (ps.zip us ++ [(pk, z), (pv, t)])))
    (hbody : ∀ (A : Around) (outer : List Env) (s : Shared) (H : Hp) (vs : List V) (Q : VK) (E : XK), Room k (A.deeper (envOfC qual scope s.heap.objs.size f cdv)) → sp vs H Q E →
      ∃ t, PSs (cxOf CX P w K mg base N qual scope f cdv A outer s H E) body t ∧ t { nx := fun _ H' => Q .non H', rt := Q } (start N vs) H) :
    FnRK P w K mg base CX (k + 1) f [pk] (fun zs vs H Q E => ∃ ws rest z, zs = [z] ∧ vs = ws ++ rest ∧ ws.length = ps.length ∧ rest.length ≤ sizeLine ∧ ∀ p, H p = Option.none → sp (ws ++ [z, V.ref p]) (upd H p (.tup rest)) Q E) := by
  intro A outer s H us ws0 vs zs Q E hr e0 r rz hsp
  obtain ⟨ws, rest, z, ez, ev, hl, hz, hq⟩ := hsp
  subst ev ez
  obtain ⟨u1, u2, eu, r1, r2⟩ := vals_split r
  subst eu
  cases rz with
  | @cons _ zu _ _ rz1 rzt =>
  cases rzt
  have hn : H s.heap.objs.size = Option.none := e0.hok.fresh (Nat.le_refl _)
  have hl1 : u1.length = ps.length := by rw [← r1.length]; exact hl
  have hl2 : u2.length ≤ sizeLine := by rw [← r2.length]; exact hz
  refine run_bnd lk hcd S hr e0 (G := fun xs H2 => ∃ p, H p = Option.none ∧ xs = ws ++ [z, V.ref p] ∧ H2 = upd H p (.tup rest)) (fun A' Ex Q' h => ?_) fun s2 H2 xs ⟨p, hp, ex, eH⟩ hr' => ?_
  · show wpAny _ A' (bindArgs _ ⟨u1 ++ u2, [(pk, zu)]⟩) Q' Ex s
    rw [hb u1 u2 zu hl1]
    refine wpAny_bind (wpAny_newTuple (wpAny_pure ?_) hl2)
    have new : ObjOk P w (upd H s.heap.objs.size (.tup rest)) (s.heap.push ({ cls := .type "tuple", data := .seq u2.toArray } : Obj)) s.heap.objs.size (.tup rest) := ⟨hz, u2, r2, ⟨_, Heap.get?_push_size _ rfl, rfl, _, rfl⟩⟩
    have un := un_laid (fs := frs outer) (s := s) (o := ({ cls := .type "tuple", data := .seq u2.toArray } : Obj)) (u := .tup rest) hn
    have zz := h _ _ (ws ++ [z, V.ref s.heap.objs.size]) (u1 ++ [zu, Value.ref s.heap.objs.size]) (env0_laid e0 new) un rfl (fun e s' => hCX outer s H _ _ E e s' un (fun b o q => Heap.get?_push_of_some _ q) rfl) (r1.append (.cons rz1 (.cons rfl .nil)))
      (by rw [List.length_append, List.length_append, hl] <;> rfl) ⟨_, hn, rfl, rfl⟩
    rw [List.zip_append hl1.symm] at zz
    exact zz
  · subst ex eH
    exact hbody A outer s2 _ _ Q E hr' (hq p hp)
end
theorem bind_starK2 {B : List Value → List (Str × Value) → Sem (List (Str × Value))} {p1 p2 pv pk : Str} (h0 : ∀ a b z, B [a, b] [(pk, z)] = (newTuple [] >>= fun t => pure [(p1, a), (p2, b), (pk, z), (pv, t)])) (h1 : ∀ a b z r rs, B (a :: b :: r :: rs) [(pk, z)] = (newTuple (r :: rs) >>= fun t => pure [(p1, a), (p2, b), (pk, z), (pv, t)])) :
    ∀ (us rest : List Value) (z : Value), us.length = [p1, p2].length → B (us ++ rest) [(pk, z)] = (newTuple rest >>= fun t => pure ([p1, p2].zip us ++ [(pk, z), (pv, t)]))
  | [a, b], [], z, _ => h0 a b z
  | [a, b], r :: rs, z, _ => h1 a b z r rs
section
variable {X : Cx} {CX : CXT} {k : Nat} {f : Addr} {ks : List Str} {sp : List V → Sp} {E : XK} {x : Str} {p pos : Pos} {e : Expr} {es : List Expr} {kws : List Keyword} {t tk : TA}
theorem run_fnRK {pins : List (Addr × Obj)} {σ : L2.St} {H : Hp} {s : Shared} {Q : VK} {us ws : List Value} {vs zs : List V} (F : FnRK X.prog X.w X.K X.mg X.base CX k f ks sp) (hr : Room k X.A) (hx : Passes CX X E)
    (I : Inv X pins σ H s) (r : Vals vs us) (rz : Vals zs ws) (h : sp zs vs H Q E) : wpAny (model X.prog X.w) X.A (call (.ref f) us (ks.zip ws)) (EP X pins σ Q) X.xe s := by
  refine wpAny_call (codeAny_mono (F X.A X.stack s H us ws vs zs Q E hr I.env0 r rz h) fun r s' hq => ?_)
  cases r with
  | error e => exact hx pins σ H s e s' I hq
  | ok fl =>
    cases fl with
    | ret u => exact I.after hq
    | next => exact False.elim hq
    | brk => exact False.elim hq
    | cont => exact False.elim hq
/-- f(e, .., k = v, ..) -/
theorem pe_callRK (F : FnRK X.prog X.w X.K X.mg X.base CX k f ks sp) (hr : Room k X.A) (hg : Gl X x) (hm : X.mg x = some (.ref f)) (hk : PySem.W.keepIn X.K (.ref f) = true) (hx : Passes CX X E)
    (ha : PA X (e :: es) t) (hkw : PK X kws tk) (hall : (backToKw pos (keywordEach kws X.env)).all (·.1.isSome) = true := by rfl) (hks : (backToKw pos (keywordEach kws X.env)).filterMap (·.1) = ks := by rfl)
    (hdb : (x == ("__debug__" : Str)) = false := by decide) (he : starEach (e :: es) X.env = (false, eval e X.env) :: starEach es X.env := by rfl)
    (hpl : ((backTo pos (starEach (e :: es) X.env)).any (·.1) || (backToKw pos (keywordEach kws X.env)).any (·.1.isNone)) = false := by rfl) :
    PE X (.Call (.Name x p) (e :: es) kws pos) (fun σ H Q => t σ H fun vs H1 => tk σ H1 fun zs H2 => sp zs vs H2 Q E) := by
  refine ⟨fun pins s σ H Q I h => ?_⟩
  refine wpAny_Call_Name_kw (ld_glob I hg hm ?_ hdb)
  refine PySem.W.callWith_KW (h₀ := X.base) I.ok.mod.kin hk hall (thn (ha.run pos pins s σ H _ I h) fun us s1 ⟨vs, H1, I1, r, q⟩ => ?_) hpl he
  refine thn (hkw.run pos pins s1 σ H1 _ I1 q) fun ws s2 ⟨zs, H2, I2, rz, q2⟩ => ⟨I2.kIn, ?_⟩
  rw [hks]
  exact run_fnRK F hr hx I2 r rz q2
end
end HG

set_option maxHeartbeats 1000000
namespace K18
open PySem PySem.Spec PyProof.Rows L2 HG P18
abbrev N_ex : List Str := ["image", "entry", "steps", "words"]
theorem sc_ex : FnScope N_ex ["image", "entry", "steps", "words"] (defScope s_execute) := ⟨rfl, rfl, rfl, by decide +kernel, rfl, by decide +kernel, by decide +kernel⟩
/-- what may be executed -/
structure Ask (im : Im) (nm : Str) (k : Nat) (ws : List Nat) : Prop where
  I : ImOk im
  en : (nm, k, ws.length) ∈ im.entries
  ok : MsOk im (begun im k ws)
  len : ws.length ≤ 4
def spExec (K : PySem.W.Frag) : List V → Sp := fun zs vs H Q _ => ∃ (im : Im) (vi : V) (nm : Str) (k : Nat) (ws : List Nat) (m : Nat), zs = [nV m] ∧ vs = vi :: .str nm :: ws.map nV ∧ Ask im nm k ws ∧ m ≤ 50000 ∧ Dp K H vi im.D ∧
  ∀ H' z, Same H H' → Dp K H' z (resD (runs im (begun im k ws) m)) → Q z H'
section
variable {P : Program} {w : World} {K : PySem.W.Frag} {mg : Str → Option Value} {base : Heap}
set_option pp.maxSteps 600 in
theorem x_execute (T : Txt w K mg) : FnRK P w K mg base CX0 9 (He.ga K "execute") ["steps"] (spExec K) := by
  obtain ⟨fd, F⟩ := T.d_execute
  have C_outcome := c_outcome (P := P) (w := w) (base := base) T
  have C_loaded := c_loaded (P := P) (w := w) (base := base) T
  obtain ⟨oc, od, dV, kV, doc, pm, an, cdv, ct, osl, rfl, lk, hcd, hdv, hK⟩ := F.ex
  obtain rfl : dV = .none := by
    rcases hdv with ⟨_, e⟩ | ⟨e, _⟩
    · exact e
    · exact absurd rfl e
  have hb := bind_starK2 (B := fun us kw => bindArgs (PySem.W.fnOf "execute" "execute" (defArgs s_execute) (defBody s_execute) (defScope s_execute) .none kV doc pm an cdv ct) ⟨us, kw⟩) (p1 := "image") (p2 := "entry") (pv := "words") (pk := "steps") (by intros; rfl) (by intros; rfl)
  have G := fn_starK (k := 8) (P := P) (w := w) (mg := mg) (base := base) (CX := CX0) (ps := ["image", "entry"]) (pk := "steps") (pv := "words") (sp := fun vs H Q _ => ∃ (im : Im) (vi : V) (nm : Str) (k : Nat) (ws : List Nat) (p : Addr) (m : Nat), vs = [vi, .str nm, nV m, .ref p] ∧ H p = some (.tup (ws.map nV)) ∧ Ask im nm k ws ∧ m ≤ 50000 ∧ Dp K H vi im.D ∧
      ∀ H' z, Same H H' → Dp K H' z (resD (runs im (begun im k ws) m)) → Q z H') lk hcd sc_ex StX.cxUp_none hb fun A outer s H vs Q E hr h => ?_
  · intro A outer s H us ws0 vs zs Q E hr e0 r rz h
    obtain ⟨im, vi, nm, k, ws, m, ez, ev, ha, hm, hv, q⟩ := h
    refine G A outer s H us ws0 vs zs Q E hr e0 r rz ⟨[vi, .str nm], ws.map nV, nV m, ez, ev, rfl, ?_, fun p hp => ⟨im, vi, nm, k, ws, p, m, rfl, upd_same, ha, hm, dp_mono (same_new hp) _ _ hv, fun H' z s1 hz => q H' z ((same_new hp).trans s1) hz⟩⟩
    rw [List.length_map]
    exact Nat.le_trans ha.len (by decide)
  · obtain ⟨im, vi, nm, k, ws, p, m, rfl, hp, ha, hm, hv, q⟩ := h
    refine ⟨_, PSs.nox (pss_one (ps_ret (pe_cal C_outcome (hr.mono (by omega)) (by rfl) (pa_cons (pe_cal C_loaded (hr.mono (by omega)) (by rfl) (pa_cons (pv 0) (pa_cons (pv 1) (pa_cons (pv 3) pa_nil)))) (pa_cons (pv 2) pa_nil))))), ?_⟩
    refine ⟨_, rfl, _, rfl, _, rfl, im, vi, nm, k, ws, p, ws.map nV, rfl, ha.I, hv, .inl (.inl hp), dp_nvs ws, ha.en, fun H1 A1 dx co pq mv hms => ⟨_, rfl, im, dx, co, A1, [pq], begun im k ws, 1, m, rfl, ha.I, ha.ok, by omega, hms, fun H2 z mv2 hz => q H2 z (fun b o e => ?_) hz⟩⟩
    exact (mv.trans mv2).st b o (fun z => nomatch z) e
end
end K18

set_option maxHeartbeats 1000000
namespace K18
open PySem PySem.Spec PyProof.Rows L2 HG P18
/-! ### the law's machine -/
abbrev McKV (cv : V) (pr : Addr) (A : Ad) (fin : V) : List (Key × V) := [(Sum.inr "codes", cv), (Sum.inr "cells", .ref A.ce), (Sum.inr "arrays", .ref A.ar), (Sum.inr "calls", .ref A.wa), (Sum.inr "frames", .ref A.fr), (Sum.inr "end", fin), (Sum.inr "prints", .ref pr)]
def McO (cv : V) (pr : Addr) (A : Ad) (fin : V) : HO := .dK (McKV cv pr A fin)
/-- a frame's slots -/
def HdL (P : Program) (w : World) (K : PySem.W.Frag) (H : Hp) (a : Addr) (h : Nat → Wv) (n : Nat) : Prop := ∃ kvs : List (OKey × V), NkH P w H a kvs ∧ kvs.length ≤ n + 14 ∧ ∀ s : Nat, s < 10 → ∃ v, valV kvs (some (Sum.inl (s : Int))) = some v ∧ Dp K H v (h s).D
theorem nkh_eq {P : Program} {w : World} {H H' : Hp} {a : Addr} {kvs : List (OKey × V)} (e : H' a = H a) (h : NkH P w H a kvs) : NkH P w H' a kvs := by
  unfold NkH at h ⊢
  rw [e]
  exact h
theorem nlCs (im : Im) : noL (.tuple (im.codes.map Cd.D)) = true := nlAll fun cd => by simp only [Cd.D, noL, noLAll, nlAll nlN, nlAll nlR, Bool.and_true]
def ShL (P : Program) (w : World) (K : PySem.W.Frag) (im : Im) (cv : V) (pr : Addr) : Sh K where
  top := McO cv pr
  ce := fun v u => .lst [v, u]
  ar := fun A => .lst [.ref A.r0, .ref A.r1]
  fm := fun o cv pc a u => o = .lst [cv, .int (pc : Int), .ref a, u]
  hd := HdL P w K
  ex := []
  keep := fun H => Dp K H cv (.tuple (im.codes.map Cd.D))
  mtop := fun _ _ => True.intro
  mce := fun _ _ => True.intro
  mfm := fun o v n a u h => by subst h; exact True.intro
  mhd := fun H a h n x => by obtain ⟨kv, e, _⟩ := x; exact nk_mut e
  hd_mono := fun H H' a h n k e x => by
    obtain ⟨kv, e1, e2, e3⟩ := x
    refine ⟨kv, nkh_eq e e1, e2, fun s hs => ?_⟩
    obtain ⟨v, g1, g2⟩ := e3 s hs
    exact ⟨v, g1, dp_kt k _ _ (nlW _) g2⟩
  hd_up := fun H a h n m hn x => by
    obtain ⟨kv, e1, e2, e3⟩ := x
    exact ⟨kv, e1, by omega, e3⟩
  keep_mono := fun H H' g k x => dp_kt k _ _ (nlCs im) x
section
variable {cv : V} {pr : Addr} {A : Ad} {fin v : V} {H : Hp} {a : Addr}
theorem mc_codes (h : H a = some (McO cv pr A fin)) : DGet H a (.str "codes") (some cv) := .inl ⟨_, Sum.inr "codes", .inl h, rfl, by rw [valV_pos rfl]⟩
theorem mc_cells (h : H a = some (McO cv pr A fin)) : DGet H a (.str "cells") (some (.ref A.ce)) := .inl ⟨_, Sum.inr "cells", .inl h, rfl, by rw [valV_neg (k_ne (by decide +kernel)), valV_pos rfl]⟩
theorem mc_arrays (h : H a = some (McO cv pr A fin)) : DGet H a (.str "arrays") (some (.ref A.ar)) := .inl ⟨_, Sum.inr "arrays", .inl h, rfl, by rw [valV_neg (k_ne (by decide +kernel)), valV_neg (k_ne (by decide +kernel)), valV_pos rfl]⟩
theorem mc_calls (h : H a = some (McO cv pr A fin)) : DGet H a (.str "calls") (some (.ref A.wa)) := .inl ⟨_, Sum.inr "calls", .inl h, rfl, by rw [valV_neg (k_ne (by decide +kernel)), valV_neg (k_ne (by decide +kernel)), valV_neg (k_ne (by decide +kernel)), valV_pos rfl]⟩
theorem mc_frames (h : H a = some (McO cv pr A fin)) : DGet H a (.str "frames") (some (.ref A.fr)) := .inl ⟨_, Sum.inr "frames", .inl h, rfl, by rw [valV_neg (k_ne (by decide +kernel)), valV_neg (k_ne (by decide +kernel)), valV_neg (k_ne (by decide +kernel)), valV_neg (k_ne (by decide +kernel)), valV_pos rfl]⟩
theorem mc_end (h : H a = some (McO cv pr A fin)) : DGet H a (.str "end") (some fin) := .inl ⟨_, Sum.inr "end", .inl h, rfl, by rw [valV_neg (k_ne (by decide +kernel)), valV_neg (k_ne (by decide +kernel)), valV_neg (k_ne (by decide +kernel)), valV_neg (k_ne (by decide +kernel)), valV_neg (k_ne (by decide +kernel)), valV_pos rfl]⟩
theorem mc_prints (h : H a = some (McO cv pr A fin)) : DGet H a (.str "prints") (some (.ref pr)) := .inl ⟨_, Sum.inr "prints", .inl h, rfl, by rw [valV_neg (k_ne (by decide +kernel)), valV_neg (k_ne (by decide +kernel)), valV_neg (k_ne (by decide +kernel)), valV_neg (k_ne (by decide +kernel)), valV_neg (k_ne (by decide +kernel)), valV_neg (k_ne (by decide +kernel)), valV_pos rfl]⟩
theorem putK_neg {κ : Type} [DecidableEq κ] {k k' : κ} {x y : V} {l : List (κ × V)} (h : ¬ k' = k) : putK ((k', x) :: l) k y = (k', x) :: putK l k y := by
  unfold putK
  rw [List.any_cons, decide_eq_false (show ¬ (k', x).1 = k from h), Bool.false_or, List.map_cons, if_neg (show ¬ (k', x).1 = k from h)]
  split <;> rfl
theorem mc_put : putK (McKV cv pr A fin) (Sum.inr "end") v = McKV cv pr A v := by
  rw [putK_neg (k_ne (by decide +kernel)), putK_neg (k_ne (by decide +kernel)), putK_neg (k_ne (by decide +kernel)), putK_neg (k_ne (by decide +kernel)), putK_neg (k_ne (by decide +kernel))]
  unfold putK
  rw [List.any_cons, decide_eq_true rfl, Bool.true_or, if_pos rfl, List.map_cons, List.map_cons, List.map_nil, if_pos rfl, if_neg (k_ne (by decide +kernel))]
theorem mc_dput (h : H a = some (McO cv pr A fin)) : DPut H a (.str "end") v (upd H a (McO cv pr A v)) := by
  have z := DPut.k (k := Sum.inr "end") (v := v) h (small_line (by show 7 ≤ 1000000; omega))
  rw [mc_put] at z
  exact z
end
end K18

set_option maxHeartbeats 1000000
namespace K18
open PySem PySem.Spec PyProof.Rows L2 HG P18
abbrev FlO (cv : V) (pc : Nat) (a : Addr) (t : V) : HO := .lst [cv, .int (pc : Int), .ref a, t]
def spWorth (P : Program) (w : World) (K : PySem.W.Frag) : Sp := fun vs H Q _ => ∃ (p a : Addr) (cv t v : V) (pc n : Nat) (h : Nat → Wv) (o : Op), vs = [.ref p, v] ∧ H p = some (FlO cv pc a t) ∧ HdL P w K H a h n ∧ Dp K H v o.D ∧ (∀ s, some o = some (.v s) → s < 10) ∧
  ∀ z, Dp K H z (worth h o).D → Q z H
theorem paired_cat {α β : Type} {R : α → β → Prop} : ∀ {a : List α} {b : List β} {c : List α} {d : List β}, Paired R a b → Paired R c d → Paired R (a ++ c) (b ++ d)
  | _, _, _, _, .nil, h => h
  | _, _, _, _, .cons h t, g => .cons h (paired_cat t g)
theorem valV_out {k : Key} : ∀ {kvs : List (Key × V)}, k ∉ kvs.map (·.1) → valV kvs k = none
  | [], _ => rfl
  | p :: r, h => by
    rw [List.map_cons] at h
    rw [show valV (p :: r) k = valV r k from valV_neg (fun z => h (by rw [← z]; exact List.mem_cons_self))]
    exact valV_out fun z => h (List.mem_cons_of_mem _ z)
theorem valV_merge {j : Key} : ∀ {more acc : List (Key × V)}, (more.map (·.1)).Nodup → valV (mergeK acc more) j = match valV more j with | some v => some v | none => valV acc j
  | [], acc, _ => rfl
  | p :: more, acc, h => by
    rw [List.map_cons, List.nodup_cons] at h
    show valV (mergeK (putK acc p.1 p.2) more) j = _
    rw [valV_merge h.2, valV_put]
    by_cases e : j = p.1
    · have hn : valV more j = none := by
        rw [e]
        exact valV_out h.1
      rw [hn, if_pos e, show valV (p :: more) j = some p.2 from valV_pos e.symm]
    · rw [if_neg e, show valV (p :: more) j = valV more j from valV_neg (fun z => e z.symm)]
abbrev zeros (n : Nat) : List (Key × V) := (List.range n).map fun i => (kI i, V.int 0)
theorem zeros_nd (n : Nat) : ((zeros n).map (·.1)).Nodup := by
  rw [List.map_map]
  exact List.Pairwise.map _ (fun a b h z => h (kI_inj z)) List.nodup_range
theorem zeros_val {n s : Nat} (h : s < n) : valV (zeros n) (kI s) = some (.int 0) := by
  have key : ∀ l : List Nat, s ∈ l → valV (l.map fun i => (kI i, V.int 0)) (kI s) = some (.int 0) := fun l => by
    induction l with
    | nil => intro h; cases h
    | cons a l ih =>
      intro h
      by_cases e : a = s
      · subst e
        exact valV_pos rfl
      · refine (valV_neg (fun z => e (kI_inj z))).trans (ih ?_)
        rcases List.mem_cons.mp h with z | z
        · exact absurd z.symm e
        · exact z
  exact key _ (List.mem_range.mpr h)
theorem paired_map {α β γ : Type} {R : α → β → Prop} {f : γ → β} : ∀ {a : List α} {l : List γ}, Paired R a (l.map f) → Paired (fun p q => R p (f q)) a l
  | [], [], _ => .nil
  | _ :: _, [], h => by cases h
  | [], _ :: _, h => by cases h
  | _ :: _, _ :: _, h => by
    cases h with
    | cons h t => exact .cons h (paired_map t)
theorem sqL_same {K : PySem.W.Frag} {H H' : Hp} {a : Addr} {xs : List V} (s : Same H H') (h : SqL K H a xs) : SqL K H' a xs := by
  rcases h with (h | ⟨o, h⟩) | h
  · exact .inl (.inl (s _ _ h))
  · exact .inl (.inr ⟨o, s _ _ h⟩)
  · exact .inr h
theorem paired_len {α β : Type} {R : α → β → Prop} : ∀ {a : List α} {b : List β}, Paired R a b → a.length = b.length
  | _, _, .nil => rfl
  | _, _, .cons _ t => congrArg Nat.succ (paired_len t)
theorem valV_up {j : Key} : ∀ kvs : List (Key × V), valV (upK kvs) (some j) = valV kvs j
  | [] => rfl
  | p :: r => by
    show valV ((some p.1, p.2) :: upK r) (some j) = _
    by_cases e : p.1 = j
    · rw [valV_pos (congrArg some e), valV_pos e]
    · rw [valV_neg (fun z => e (Option.some.inj z)), valV_neg e]
      exact valV_up r
/-- the slots of a new frame -/
theorem hd_new {P : Program} {w : World} {K : PySem.W.Frag} {H : Hp} {a : Addr} {ps : List Nat} {ys : List V} {ws : List Wv} {n : Nat} (hl : ps.length ≤ 4) (nd : ps.Nodup) (e : H a = some (.dK (mergeK [] (zeros 10 ++ (ps.map kI).zip ys)))) (hws : DpAll K H ys (ws.map Wv.D)) : HdL P w K H a (bind ps ws) n := by
  have em : mergeK [] (zeros 10 ++ (ps.map kI).zip ys) = mergeK (zeros 10) ((ps.map kI).zip ys) := by
    have e1 : mergeK [] (zeros 10 ++ (ps.map kI).zip ys) = mergeK (mergeK [] (zeros 10)) ((ps.map kI).zip ys) := List.foldl_append
    rw [e1, mergeK_nd (zeros_nd 10)]
  rw [em] at e
  have nks : (((ps.map kI).zip ys).map (·.1)).Nodup := (List.Pairwise.map _ (fun a b h z => h (kI_inj z)) nd).sublist (zip_sub _ _)
  refine ⟨upK (mergeK (zeros 10) ((ps.map kI).zip ys)), .inr ⟨_, e, rfl⟩, ?_, fun s hs => ?_⟩
  · rw [List.length_map]
    have h1 := length_mergeK ((ps.map kI).zip ys) (zeros 10)
    rw [List.length_zip, List.length_map, List.length_map, List.length_range] at h1
    omega
  · rw [valV_up, valV_merge nks]
    rcases hd_zip hws s with ⟨v, h1, h2⟩ | ⟨h1, h2⟩
    · rw [h1]
      exact ⟨v, rfl, h2⟩
    · rw [h1, zeros_val hs, h2]
      exact ⟨_, rfl, .int 0⟩
theorem zeros_succ (i : Nat) : zeros (i + 1) = zeros i ++ [(kI i, V.int 0)] := by
  show List.map _ _ = List.map _ _ ++ _
  rw [List.range_succ, List.map_append]
  rfl
section
variable {P : Program} {w : World} {K : PySem.W.Frag} {mg : Str → Option Value} {base : Heap}
set_option pp.maxSteps 600 in
theorem c_worth (T : Txt w K mg) : Cal P w K mg base "_law_worth" 1 ["_law_frame", "_law_part"] (spWorth P w K) := by
  obtain ⟨fd, F⟩ := T.d__law_worth
  refine ⟨⟨fd, F.ok sc__law_worth (fun vs H Q E h => by repeat (first | (obtain ⟨e, _⟩ := h; subst e; rfl) | (obtain ⟨_, h⟩ := h))) (fun cdv A outer s H vs Q E hr h => ?_), F.bindsN fun _ _ _ _ _ _ us hl => match us, hl with | [_, _], _ => rfl⟩, T.g _ (by decide), F.kp⟩
  obtain ⟨p, a, cv, t, v, pc, n, h, o, rfl, hp, hd, hv, ho, q⟩ := h
  have hu := hu_of hr
  refine ⟨_, PSs.nox (pss_one (ps_ret (pe_ifExp (pt_val (pe_callB (isiK (K := K) rfl) (by rfl) T.n_isinstance (by decide +kernel) (pa_cons (pv 1) (pa_cons (pe_bltn (v := .ty "tuple") (u := .type "tuple") (by rfl) T.n_tuple (by decide +kernel) rfl) pa_nil)))) (pe_nget rfl rfl (pe_ix (ix_listK (K := K) rfl) (pv 0) pe_int (fun _ _ => rfl)) (pe_ix (ix_P (K := K) rfl) (pv 1) pe_int (fun _ _ => rfl)) (fun _ _ => rfl)) (pv 1)))), ?_⟩
  refine ⟨_, rfl, v, .ty "tuple", _, _, _, rfl, .ty _, dp_ty hv, kit_ty (kit_tuple o.D), _, rfl, ?_⟩
  cases o with
  | k m => exact iteF ⟨_, rfl, q _ hv⟩
  | v s =>
    refine iteT ?_
    obtain ⟨kvs, e1, _, e3⟩ := hd
    obtain ⟨y, g1, g2⟩ := e3 s (ho s rfl)
    refine ⟨_, rfl, p, _, 2, .ref a, rfl, rfl, .inl (.inl hp), rfl, _, rfl, _, 1, _, hv, rfl, rfl, fun z hz => ?_⟩
    cases hz
    exact ⟨a, kvs, some (Sum.inl (s : Int)), y, rfl, rfl, e1, g1, q y g2⟩
def spEntd (P : Program) (w : World) (K : PySem.W.Frag) : Sp := fun vs H Q _ => ∃ (im : Im) (cv : V) (pr : Addr) (A : Ad) (fa : List (Addr × Addr)) (s : Ms) (k : Nat) (va : Addr) (ys : List V) (ws : List Wv) (t : Option Nat) (cd : Cd) (n : Nat), vs = [.ref A.top, .int (k : Int), .ref va, optV t] ∧ MsH (ShL P w K im cv pr) im H A fa s .non n ∧ n ≤ 100001 ∧
  im.codes[k]? = some cd ∧ CdOk im cd ∧ (SqT K H va ys ∨ SqL K H va ys) ∧ DpAll K H ys (ws.map Wv.D) ∧
  ∀ H' p, Mv (allA (ShL P w K im cv pr) A fa) H (allA (ShL P w K im cv pr) A (p :: fa)) H' → MsH (ShL P w K im cv pr) im H' A (p :: fa) { s with fr := entered im k ws t :: s.fr } .non (n + 1) → Q .non H'
set_option pp.maxSteps 600 in
theorem c_entered (T : Txt w K mg) : Cal P w K mg base "_law_entered" 2 ["_law_machine", "_law_number", "_law_values", "_law_target"] (spEntd P w K) := by
  obtain ⟨fd, F⟩ := T.d__law_entered
  refine ⟨⟨fd, F.ok sc__law_entered (fun vs H Q E h => by repeat (first | (obtain ⟨e, _⟩ := h; subst e; rfl) | (obtain ⟨_, h⟩ := h))) (fun cdv A outer s H vs Q E hr h => ?_), F.bindsN fun _ _ _ _ _ _ us hl => match us, hl with | [_, _, _, _], _ => rfl⟩, T.g _ (by decide), F.kp⟩
  obtain ⟨im, cv, pr, A, fa, s, k, va, ys, ws, t, cd, n, rfl, hm, hn, hcd, hok, hys, hws, q⟩ := h
  have hu := hu_of hr
  refine ⟨_, PSs.nox (pss_cons (ps_asg (pe_ix (ix_P (K := K) rfl) (pe_dget hu (pv 0) pe_str (fun _ _ => rfl)) (pv 1) (fun _ _ => rfl)) (pg_tupK (K := K) (n := 3) rfl rfl (pgs_cons (pg_name (i := 4) sc__law_entered.nd rfl (.inl rfl)) (pgs_cons (pg_name (i := 5) sc__law_entered.nd rfl (.inl rfl)) (pgs_cons (pg_name (i := 6) sc__law_entered.nd rfl (.inl rfl)) pgs_nil)))))
      (pss_cons (ps_set (i := 7) sc__law_entered.nd rfl (.inl rfl) (pe_callTy (call_dictP rfl) (by rfl) T.n_dict (by decide +kernel) (pa_cons (pe_op op_cat (pe_lc (own := [("_law_slot", 8)]) (by rfl) sc__law_entered.nd (pi_range1 (by rfl) T.n_range (pa_cons pe_int pa_nil)) (blkOk_by (own := [("_law_slot", 8)]) (N := N__law_entered) (sc := defScope s__law_entered) (by decide +kernel)) (fun _ _ _ _ _ => (pg_name (i := 8) sc__law_entered.nd rfl (.inl rfl))) (fun _ _ _ _ _ => pts_nil) (fun _ _ _ _ _ => (pe_tup (pa_cons (pv 8) (pa_cons pe_int pa_nil))))) (pe_listZip rfl (by rfl) T.n_list (by rfl) T.n_zip (pv 4) (pv 2))) pa_nil)))
      (pss_one (ps_expr (pe_bm PySem.F.plainAttrs_list PySem.F.slot_list_append PySem.F.type_list_append mt_append (pe_dget hu (pv 0) pe_str (fun _ _ => rfl)) (pa_cons (pe_lst (pa_cons (pv 6) (pa_cons pe_int (pa_cons (pv 7) (pa_cons (pv 3) pa_nil))))) pa_nil)))))), ?_⟩
  have htop := hm.bs.top
  have hfr := hm.bs.fr
  have hkp : Dp K H cv (.tuple (im.codes.map Cd.D)) := hm.bs.ex
  refine ⟨_, rfl, A.top, cv, rfl, mc_codes htop, _, rfl, _, k, cd.D, hkp, rfl, by rw [List.getElem?_map, hcd]; rfl, fun z hz => ?_⟩
  obtain ⟨da, vp, vc, rfl, dsq, hvp, hvc⟩ := cd_parts hz
  refine ⟨da, _, rfl, dsq, rfl, _, _, rfl, _, _, rfl, _, _, rfl, rfl, ?_⟩
  obtain ⟨pa, px, rfl, psq, pall⟩ : ∃ pa px, vp = .ref pa ∧ SqT K H pa px ∧ DpAll K H px (cd.ps.map nD) := by
    cases hvp with
    | tup a b => exact ⟨_, _, rfl, a, b⟩
  have epx := dp_nats pall
  subst epx
  -- the zeros
  refine ⟨10, rfl, by decide, by decide, fun D hD => ?_⟩
  refine lc_range (lo := 0) (n := (10 : Int).toNat) (fun i H2 => ∃ as : List Addr, H2 D = some (.lst (as.map V.ref)) ∧ Paired (fun p kv => SqT K H2 p [kV kv.1, kv.2]) as (zeros i) ∧ as.length = i ∧ Same H H2) ⟨[], upd_same, .nil, rfl, same_new hD⟩ ?_ ?_
  · rintro i H2 hi ⟨as, h2, hp, hl, s2⟩
    have hi : i < 10 := hi
    refine ⟨rfl, tyes ⟨_, rfl, (by show 2 ≤ sizeLine; decide), fun p1 hp1 => ⟨_, upd_get hp1 h2, small_line (by rw [List.length_map]; omega), as ++ [p1], ?_, ?_, by rw [List.length_append, hl]; rfl, fun b o e => by rw [upd_ne (ne_of_none e hD)]; exact upd_get hp1 (s2 b o e)⟩⟩⟩
    · rw [List.map_append]
      exact upd_same
    · have kk := (KT.of (same_new (o := .tup [V.int (0 + (i : Int)), .int 0]) hp1)).trans (KT.lst (o := .lst (as.map V.ref ++ [V.ref p1])) (upd_get (o := .tup [V.int (0 + (i : Int)), .int 0]) hp1 h2))
      rw [zeros_succ]
      refine paired_cat (Paired.mapP hp fun a b h => sqT_kt kk h) (.cons ?_ .nil)
      have z := KT.lst (o := .lst (as.map V.ref ++ [V.ref p1])) (upd_get (o := .tup [V.int (0 + (i : Int)), .int 0]) hp1 h2)
      refine sqT_kt z ?_
      rw [Int.zero_add]
      exact .inl (.inl upd_same)
  rintro H2 ⟨as, h2, hp, hl, s2⟩
  have hl : as.length = 10 := hl
  have hp : Paired (fun p kv => SqT K H2 p [kV kv.1, kv.2]) as (zeros 10) := hp
  have hzl : (((cd.ps.map kI).map kV).zip ys).length ≤ 4 := by
    rw [List.length_zip, List.length_map, List.length_map]
    have := hok.ps.1
    omega
  refine ⟨_, rfl, _, rfl, pa, va, _, ys, rfl, sqT_same s2 psq, hys.imp (fun h => sqT_same s2 h) (fun h => sqL_same s2 h), small_line (by omega), fun l bs H3 hlz s3 hl3 pp => ?_⟩
  have e2 : ((cd.ps.map kI).map kV).zip ys = ((cd.ps.map kI).zip ys).map (fun q => (kV q.1, q.2)) := by rw [List.zip_map_left]; rfl
  rw [e2] at pp
  have pp := paired_map pp
  have bl : bs.length ≤ 4 := by
    have := paired_len pp
    rw [List.length_zip, List.length_map] at this
    have := hok.ps.1
    omega
  refine ⟨D, l, as.map V.ref, bs.map V.ref, rfl, rfl, s3 _ _ h2, hl3, ?_, fun pc hpc => ⟨pc, as ++ bs, zeros 10 ++ (cd.ps.map kI).zip ys, rfl, .inl (.inl (by rw [List.map_append]; exact upd_same)), ?_, fun dd hdd => ?_⟩⟩
  · rw [List.length_map, List.length_map]
    exact Nat.le_trans (show as.length + bs.length ≤ 14 by omega) (by decide)
  · have s4 := same_new (o := .lst (as.map V.ref ++ bs.map V.ref)) hpc
    exact paired_cat (Paired.mapP hp fun a b h => sqT_same (s3.trans s4) h) (Paired.mapP pp fun a b h => .inl (.inl (s4 _ _ h)))
  have s5 : Same H (upd (upd H3 pc (.lst (as.map V.ref ++ bs.map V.ref))) dd (.dK (mergeK [] (zeros 10 ++ (cd.ps.map kI).zip ys)))) := (s2.trans s3).trans ((same_new hpc).trans (same_new hdd))
  have hdd0 : H dd = none := (s2.trans (s3.trans (same_new hpc))).free hdd
  have e5 : (upd (upd H3 pc (.lst (as.map V.ref ++ bs.map V.ref))) dd (.dK (mergeK [] (zeros 10 ++ (cd.ps.map kI).zip ys)))) dd = some (.dK (mergeK [] (zeros 10 ++ (cd.ps.map kI).zip ys))) := upd_same
  refine gn_eq (σ' := [some (.ref A.top), some (.int (k : Int)), some (.ref va), some (optV t), some (.ref pa), some (.bl cd.ret), some vc, some (.ref dd), none]) rfl ?_
  generalize upd (upd H3 pc (.lst (as.map V.ref ++ bs.map V.ref))) dd (.dK (mergeK [] (zeros 10 ++ (cd.ps.map kI).zip ys))) = H5 at s5 e5 ⊢
  have hm5 := hm.same s5
  have htop5 := hm5.bs.top
  have hfr5 := hm5.bs.fr
  refine ⟨_, rfl, A.top, .ref A.fr, rfl, mc_frames htop5, .inl ⟨rfl, _, .inl (.inl hfr5)⟩, _, rfl, _, rfl, _, rfl, (by show 4 ≤ sizeLine; decide), fun pf hpf => ?_⟩
  refine ⟨A.fr, _, .ref pf, rfl, rfl, upd_get hpf hfr5, ?_, ?_⟩
  · rw [List.length_reverse, List.length_map, List.length_map]
    have := hm.len
    exact small_line (by omega)
  have s6 := s5.trans (same_new (o := .lst [vc, .int 0, .ref dd, optV t]) hpf)
  have e6 : (upd H5 pf (.lst [vc, .int 0, .ref dd, optV t])) pf = some (FlO vc 0 dd (optV t)) := upd_same
  have e5 := upd_get (o := .lst [vc, .int 0, .ref dd, optV t]) hpf e5
  have hpf0 := s5.free hpf
  have ndf : pf ≠ dd := fun z => by rw [z] at hpf; rw [upd_ne] at e5 <;> simp_all
  generalize upd H5 pf (.lst [vc, .int 0, .ref dd, optV t]) = H6 at s6 e6 e5 ⊢
  have hm6 := hm.same s6
  have hall := hm.has fun a ha => nomatch ha
  have nu : pf ∉ allA (ShL P w K im cv pr) A fa := fun z => hall pf z hpf0
  have nd : dd ∉ allA (ShL P w K im cv pr) A fa := fun z => hall dd z hdd0
  have hrows : Dp K H6 vc (rowsD im k) := by
    unfold rowsD
    rw [hcd]
    exact dp_mono s6 _ _ hvc
  have eps : psOf im k = cd.ps := by unfold psOf; rw [hcd]; rfl
  have hf : FmH (ShL P w K im cv pr) im H6 (pf, dd) (entered im k ws t) (n + 1) := by
    refine ⟨_, vc, e6, rfl, hrows, ?_⟩
    show HdL P w K H6 dd (bind (psOf im k) ws) (n + 1)
    rw [eps]
    exact hd_new hok.ps.1 hok.ps.2.1 e5 (dpAll_mono s6 _ _ hws)
  have hl := hm.len
  have h4 := (hm6.up (Nat.le_succ n)).push (p := (pf, dd)) ndf nu nd hf (by omega)
  rw [show ((fa.map (·.1)).map V.ref).reverse = (fa.map fun q => V.ref q.1).reverse by rw [List.map_map]; rfl]
  have m1 : Mv (allA (ShL P w K im cv pr) A fa) H (allA (ShL P w K im cv pr) A fa) (upd H6 A.fr (.lst ((fa.map fun q => V.ref q.1).reverse ++ [.ref pf]))) := (Mv.of s6).trans (Mv.put (in_base (by simp)) (by rw [hm6.bs.fr]; exact True.intro))
  refine q _ (pf, dd) (m1.sub fun a ha => ?_) h4
  rcases mem_all ha with h | h | h
  · exact .inr (h ▸ hpf0)
  · exact .inr (h ▸ hdd0)
  · exact .inl h
end
end K18

set_option maxHeartbeats 1000000
namespace K18
open PySem PySem.Spec PyProof.Rows L2 HG P18
def spLeft (P : Program) (w : World) (K : PySem.W.Frag) : Sp := fun vs H Q _ => ∃ (im : Im) (cv : V) (pr : Addr) (A : Ad) (p : Addr × Addr) (fa : List (Addr × Addr)) (s : Ms) (f0 : Fm) (r : List Fm) (a : Option Op) (n : Nat) (v : V), vs = [.ref A.top, .ref p.1, v] ∧ Dp K H v (wD (a.map (worth f0.h))) ∧ Row im s f0 r (.rt a) ∧ n ≤ 100000 ∧ MsH (ShL P w K im cv pr) im H A (p :: fa) { s with fr := adv f0 :: r } .non n ∧
  Post (ShL P w K im cv pr) im A (p :: fa) H n (Q .non) (stepR im s (adv f0) r (.rt a))
/-- _law_x(machine, frame, row) -/
def SitL (P : Program) (w : World) (K : PySem.W.Frag) (v : V) (H : Hp) (im : Im) (cv : V) (pr : Addr) (A : Ad) (p : Addr × Addr) (fa : List (Addr × Addr)) (s : Ms) (f0 : Fm) (r : List Fm) (R : Rw) (n : Nat) : Prop :=
  Dp K H v R.D ∧ Row im s f0 r R ∧ n ≤ 100000 ∧ MsH (ShL P w K im cv pr) im H A (p :: fa) { s with fr := adv f0 :: r } .non n
def arrs : Rw → Bool
  | .rd _ _ _ => true
  | .wr _ _ _ => true
  | _ => false
def spArr (P : Program) (w : World) (K : PySem.W.Frag) : Sp := fun vs H Q _ => ∃ (im : Im) (cv : V) (pr : Addr) (A : Ad) (p : Addr × Addr) (fa : List (Addr × Addr)) (s : Ms) (f0 : Fm) (r : List Fm) (R : Rw) (n : Nat) (v : V), vs = [.ref A.top, .ref p.1, v] ∧ SitL P w K v H im cv pr A p fa s f0 r R n ∧ arrs R = true ∧
  Post (ShL P w K im cv pr) im A (p :: fa) H n (Q .non) (stepR im s (adv f0) r R)
section
variable {P : Program} {w : World} {K : PySem.W.Frag} {mg : Str → Option Value} {base : Heap}
theorem topL_at {im : Im} {cv : V} {pr : Addr} {H : Hp} {A : Ad} {p : Addr × Addr} {fa : List (Addr × Addr)} {s : Ms} {f : Fm} {r : List Fm} {n : Nat} (h : MsH (ShL P w K im cv pr) im H A (p :: fa) { s with fr := f :: r } .non n) :
    ∃ fv, H p.1 = some (FlO fv f.pc p.2 (optV f.t)) ∧ Dp K H fv (rowsD im f.k) ∧ HdL P w K H p.2 f.h n := by
  obtain ⟨o, fv, e1, rfl, e3, e4⟩ := h.fm.1
  exact ⟨fv, e1, e3, e4⟩
/-- other slots in the top frame -/
theorem MsH.putSl {im : Im} {cv : V} {pr : Addr} {H : Hp} {A : Ad} {p : Addr × Addr} {fa : List (Addr × Addr)} {s : Ms} {f : Fm} {r : List Fm} {n : Nat} (h : MsH (ShL P w K im cv pr) im H A (p :: fa) { s with fr := f :: r } .non n) {kvs : List (OKey × V)} {h' : Nat → Wv}
    (hl : kvs.length ≤ n + 15) (hv : ∀ s : Nat, s < 10 → ∃ v, valV kvs (some (Sum.inl (s : Int))) = some v ∧ Dp K H v (h' s).D) : MsH (ShL P w K im cv pr) im (upd H p.2 (nkO P w kvs p.2)) A (p :: fa) { s with fr := { f with h := h' } :: r } .non (n + 1) ∧ Mv (allA (ShL P w K im cv pr) A (p :: fa)) H (allA (ShL P w K im cv pr) A (p :: fa)) (upd H p.2 (nkO P w kvs p.2)) := by
  obtain ⟨fv, e1, e2, kv0, g1, _, _⟩ := topL_at h
  have hmu : Mut (H p.2) := nk_mut g1
  have k := KT.put (o := nkO P w kvs p.2) hmu
  obtain ⟨n1, n2, n3, n4⟩ := nd_cons.mp h.nd
  have hf : FmH (ShL P w K im cv pr) im (upd H p.2 (nkO P w kvs p.2)) p { f with h := h' } (n + 1) := by
    refine ⟨_, fv, by rw [upd_ne n1]; exact e1, rfl, dp_kt k _ _ (nlRows im f.k) e2, kvs, .inl upd_same, by omega, fun s hs => ?_⟩
    obtain ⟨v, h1, h2⟩ := hv s hs
    exact ⟨v, h1, dp_kt k _ _ (nlW _) h2⟩
  exact ⟨(h.up (Nat.le_succ n)).head2 rfl hf, Mv.put (in_fa2 List.mem_cons_self) hmu⟩
/-- one slot more -/
theorem sl_put {H : Hp} {kvs : List (OKey × V)} {h : Nat → Wv} {t : Nat} {z : V} {y : Wv} (g : ∀ s : Nat, s < 10 → s ≠ t → ∃ v, valV kvs (some (Sum.inl (s : Int))) = some v ∧ Dp K H v (h s).D) (hz : Dp K H z y.D) : ∀ s : Nat, s < 10 → ∃ v, valV (putK kvs (some (Sum.inl (t : Int))) z) (some (Sum.inl (s : Int))) = some v ∧ Dp K H v (hput h t y s).D := fun s hs => by
  by_cases e : s = t
  · subst e
    exact ⟨z, by rw [valV_put, if_pos rfl], by rw [hput_same]; exact hz⟩
  · obtain ⟨v, e1, e2⟩ := g s hs e
    exact ⟨v, by rw [valV_put, if_neg (fun q => e (kI_inj (Option.some.inj q)))]; exact e1, by rw [hput_ne e]; exact e2⟩
set_option pp.maxSteps 600 in
theorem c_left (T : Txt w K mg) : Cal P w K mg base "_law_left" 3 ["_law_machine", "_law_frame", "_law_worth_here"] (spLeft P w K) := by
  obtain ⟨fd, F⟩ := T.d__law_left
  have C__law_entered := c_entered (P := P) (w := w) (base := base) T
  refine ⟨⟨fd, F.ok sc__law_left (fun vs H Q E h => by repeat (first | (obtain ⟨e, _⟩ := h; subst e; rfl) | (obtain ⟨_, h⟩ := h))) (fun cdv A outer s H vs Q E hr h => ?_), F.bindsN fun _ _ _ _ _ _ us hl => match us, hl with | [_, _, _], _ => rfl⟩, T.g _ (by decide), F.kp⟩
  obtain ⟨im, mv, pr, A, p, fa, s, f0, r, a, n, z, rfl, hz, hrow, hn, hm, q⟩ := h
  have hu := hu_of hr
  refine ⟨_, PSs.nox (pss_cons (ps_expr (pe_bm0 PySem.F.plainAttrs_list PySem.F.slot_list_pop PySem.F.type_list_pop mt_pop (pe_dget hu (pv 0) pe_str (fun _ _ => rfl))))
      (pss_one (ps_if (pt_cmpR (op_neE (K := K) rfl (Nat.lt_of_succ_lt hu)) (pe_dget hu (pv 0) pe_str (fun _ _ => rfl)) (pe_lst pa_nil) (nomark _)) (pss_one (ps_nput rfl rfl (pe_ix (ix_listK (K := K) rfl) (pe_ix (ix_listK (K := K) rfl) (pe_dget hu (pv 0) pe_str (fun _ _ => rfl)) (pe_un un_neg pe_int) (fun _ _ => rfl)) pe_int (fun _ _ => rfl)) (pe_ix (ix_listK (K := K) rfl) (pv 1) pe_int (fun _ _ => rfl)) (pv 2) rfl)) (pss_one (ps_if (pt_cmpR (op_neE (K := K) rfl (Nat.lt_of_succ_lt hu)) (pe_dget hu (pv 0) pe_str (fun _ _ => rfl)) (pe_lst pa_nil) (nomark _)) (pss_cons (ps_asg (pe_bm PySem.F.plainAttrs_list PySem.F.slot_list_pop PySem.F.type_list_pop mt_popAt (pe_dget hu (pv 0) pe_str (fun _ _ => rfl)) (pa_cons pe_int pa_nil)) (pg_tupK (K := K) (n := 2) rfl rfl (pgs_cons (pg_name (i := 3) sc__law_left.nd rfl (.inl rfl)) (pgs_cons (pg_name (i := 4) sc__law_left.nd rfl (.inl rfl)) pgs_nil))))
      (pss_one (ps_expr (pe_cal C__law_entered (hr.mono (by omega)) (by rfl) (pa_cons (pv 0) (pa_cons (pv 3) (pa_cons (pv 4) (pa_cons pe_non pa_nil)))))))) (pss_one (ps_dput hu (pv 0) pe_str (pe_tup (pa_cons pe_str (pa_cons (pv 2) pa_nil))) rfl))))))), ?_⟩
  obtain ⟨cv, hp1, hcv, hhd⟩ := topL_at hm
  obtain ⟨cd, hcd0, _, hh, ⟨_, hra, hoa⟩, hto⟩ := hrow.cd
  have htop := hm.bs.top
  have hfr := hm.bs.fr
  -- the frame goes
  have ehd : ((p :: fa).map (·.1)).map V.ref = .ref p.1 :: (fa.map fun q => V.ref q.1) := by rw [List.map_cons, List.map_cons, List.map_map]; rfl
  rw [ehd, List.reverse_cons] at hfr
  refine ⟨_, rfl, A.top, .ref A.fr, rfl, mc_frames htop, .inl ⟨rfl, _, .inl (.inl hfr)⟩, A.fr, _, .ref p.1, rfl, rfl, hfr, ?_, ?_⟩
  · rw [List.length_append, List.length_singleton, Nat.add_sub_cancel, List.getElem?_append_right (Nat.le_refl _), Nat.sub_self]
    rfl
  rw [List.dropLast_concat]
  have hm1 := hm.pop rfl
  have hmu : Mut (H A.fr) := by rw [hfr]; exact True.intro
  have m1 : Mv (allA (ShL P w K im mv pr) A (p :: fa)) H (allA (ShL P w K im mv pr) A fa) (upd H A.fr (.lst ((fa.map fun q => V.ref q.1).reverse))) := (Mv.put (in_base (by simp)) hmu).sub fun a ha => .inl (sub_all ha)
  have z1 := dp_kt m1.kt _ _ (show noL (wD (a.map (worth f0.h))) = true by cases a with | none => rfl | some o => exact nlW _) hz
  have hp1' : (upd H A.fr (.lst ((fa.map fun q => V.ref q.1).reverse))) p.1 = some (FlO cv (adv f0).pc p.2 (optV (adv f0).t)) := by
    rw [upd_ne (fun e => (nd_cons.mp hm.nd).2.1 (by rw [e]; exact in_base (by simp)))]
    exact hp1
  generalize upd H A.fr (.lst ((fa.map fun q => V.ref q.1).reverse)) = H1 at hm1 m1 z1 hp1' ⊢
  have q : Post (ShL P w K im mv pr) im A (p :: fa) H n (Q .non) (left im s r f0.t (a.map (worth f0.h))) := q
  have htop1 := hm1.bs.top
  have hfr1 := hm1.bs.fr
  have nil1 := fms_nil hm1.fm
  refine ⟨_, rfl, A.top, .ref A.fr, rfl, mc_frames htop1, Nat.zero_le _, fun pe hpe => ?_⟩
  have s2 := same_new (o := .lst []) hpe
  have hm2 := hm1.same s2
  have e2 : (upd H1 pe (.lst [])) pe = some (.lst []) := upd_same
  have hp2' := s2 _ _ hp1'
  have z2 := dp_mono s2 _ _ z1
  have m2 := m1.trans (Mv.of s2)
  generalize upd H1 pe (.lst []) = H2 at hm2 e2 hp2' z2 m2 ⊢
  have htop2 := hm2.bs.top
  have hfr2 := hm2.bs.fr
  refine ⟨A.fr, pe, _, rfl, rfl, .inl (.inl hfr2), .inl (.inl e2), _, rfl, ?_⟩
  -- who goes on
  cases hr1 : r with
  | nil =>
    have hfa : fa = [] := nil1.mpr hr1
    subst hfa hr1
    have hst := hrow.ok.fr
    rw [hrow.fr] at hst
    obtain ⟨ht0, cd', hf', hret⟩ := hst
    have ecd : cd' = cd := by
      have := hf'.code
      rw [hcd0] at this
      exact (Option.some.inj this).symm
    obtain ⟨vs, hwa, hvs⟩ := hm2.bs.wa
    refine iteF ⟨_, rfl, A.top, .ref A.wa, rfl, mc_calls htop2, Nat.zero_le _, fun pf hpf => ?_⟩
    have s3 := same_new (o := .lst []) hpf
    have hm3 := hm2.same s3
    have e3 : (upd H2 pf (.lst [])) pf = some (.lst []) := upd_same
    have z3 := dp_mono s3 _ _ z2
    have m3 := m2.trans (Mv.of s3)
    have hwa3 := s3 _ _ hwa
    have hvs3 := dpAll_mono s3 _ _ hvs
    generalize upd H2 pf (.lst []) = H3 at hm3 e3 z3 m3 hwa3 hvs3 ⊢
    have htop3 := hm3.bs.top
    refine ⟨A.wa, pf, vs, rfl, rfl, .inl (.inl hwa3), .inl (.inl e3), _, rfl, ?_⟩
    cases hcs : s.calls with
    | nil =>
      have hvs3 : DpAll K H3 vs (s.calls.map callD) := hvs3
      rw [hcs] at hvs3
      cases hvs3
      have hsome := hra.mp (ecd ▸ hret)
      obtain ⟨o, rfl⟩ := Option.isSome_iff_exists.mp hsome
      obtain ⟨m, rfl, em, hm9⟩ := wv_op hh (hoa o rfl) z3
      have q : Post (ShL P w K im mv pr) im A [p] H n (Q .non) (match s.calls with | (k, ws) :: cs => .go { s with fr := [entered im k (ws.map Wv.w) none], calls := cs } none | [] => .stop (.returned (worth f0.h o).n)) := q
      rw [hcs, em] at q
      exact iteF ⟨_, rfl, (by show 2 ≤ sizeLine; decide), fun pt hpt => ⟨_, rfl, A.top, _, rfl, mc_dput (upd_get hpt htop3), hm3.endAt (m := n) hpt (e := .returned m) (.cons (.str _) (.cons (.int (m : Int)) .nil)) fun H' fa' v mv e d => q H' fa' v (m3.trans mv) e d⟩⟩
    | cons c0 cs =>
      obtain ⟨k, ws⟩ := c0
      have hvs3 : DpAll K H3 vs (s.calls.map callD) := hvs3
      rw [hcs] at hvs3
      cases hvs3 with
      | @cons v0 vr _ _ g0 gr =>
      have hcc := hrow.ok.calls.2 (k, ws) (by rw [hcs]; exact List.mem_cons_self)
      obtain ⟨cd2, hcd2, _, _, _⟩ := hcc
      have q : Post (ShL P w K im mv pr) im A [p] H n (Q .non) (match s.calls with | (k, ws) :: cs => .go { s with fr := [entered im k (ws.map Wv.w) none], calls := cs } none | [] => .stop (.returned (((a.map (worth f0.h)).map Wv.n).getD 0))) := q
      rw [hcs] at q
      refine iteT ⟨_, rfl, A.top, .ref A.wa, rfl, mc_calls htop3, .inl ⟨rfl, _, .inl (.inl hwa3)⟩, A.wa, _, 0, 0, v0, rfl, rfl, hwa3, by decide, by decide, seqIx (Nat.succ_pos _), rfl, ?_⟩
      show gTup K 2 _ v0 _ (upd H3 A.wa (.lst vr)) _
      have hmu3 : Mut (H3 A.wa) := by rw [hwa3]; exact True.intro
      have hm4 := hm3.putWa gr
      have m4 := m3.trans (Mv.put (F := allA (ShL P w K im mv pr) A []) (o := .lst vr) (in_base (by simp)) hmu3)
      have hn0 : noL (callD (k, ws)) = true := by simp only [callD, noL, noLAll, nlAll nlN, Bool.and_true]
      have g0 := dp_kt (KT.put (o := .lst vr) hmu3) _ _ hn0 g0
      generalize upd H3 A.wa (.lst vr) = H4 at hm4 m4 g0 ⊢
      cases g0 with
      | @tup za zs _ zq zz =>
      cases zz with
      | cons h1 t1 =>
      cases t1 with
      | @cons wv _ t2 _ h2 t2 =>
      cases t2
      cases h1
      cases h2 with
      | @tup wa wx _ wq wall =>
      refine ⟨za, _, rfl, zq, rfl, _, _, rfl, _, _, rfl, rfl, ?_⟩
      exact ⟨_, rfl, _, rfl, _, rfl, im, mv, pr, A, [], { s with fr := [], calls := cs }, k, wa, wx, ws.map Wv.w, none, cd2, n, rfl, hm4, by omega, hcd2, hrow.I.codes cd2 (List.mem_of_getElem? hcd2), .inl wq, dp_words wall, fun H' p2 mv h2 => q H' [p2] (m4.trans mv) h2⟩
  | cons g r' =>
    obtain ⟨b, fb, rfl⟩ : ∃ b fb, fa = b :: fb := by
      cases fa with
      | nil => have e : r = [] := nil1.mp rfl; rw [e] at hr1; cases hr1
      | cons b fb => exact ⟨b, fb, rfl⟩
    subst hr1
    rw [show (((b :: fb).map (·.1)).map V.ref).reverse.isEmpty = false by simp]
    obtain ⟨cv2, hb1, hcv2, kvs, g1, g2, g3⟩ := topL_at hm2
    have hmu2 : Mut (H2 b.2) := nk_mut g1
    have hfr2 : H2 A.fr = some (.lst ((fb.map fun q => V.ref q.1).reverse ++ [.ref b.1])) := by
      rw [hfr2, List.map_cons, List.map_cons, List.reverse_cons, List.map_map]
      rfl
    obtain ⟨ky, hky⟩ : ∃ ky : OKey, optV f0.t = okV ky ∧ ky = f0.t.map kI := ⟨f0.t.map kI, by cases f0.t <;> rfl, rfl⟩
    refine iteT ⟨_, rfl, _, rfl, A.top, .ref A.fr, rfl, mc_frames htop2, 1, rfl, A.fr, _, -1, .ref b.1, rfl, rfl, .inl (.inl hfr2), L2.atI_last _ _, b.1, _, 2, .ref b.2, rfl, rfl, .inl (.inl hb1), rfl, _, rfl, p.1, _, 3, optV f0.t, rfl, rfl, .inl (.inl hp2'), rfl, b.2, kvs, ky, rfl, hky.1, g1, ?_, ?_⟩
    · exact small_line (by omega)
    show Q .non (upd H2 b.2 (nkO P w (putK kvs ky z) b.2))
    have k := KT.put (o := nkO P w (putK kvs ky z) b.2) hmu2
    obtain ⟨n1, n2, n3, n4⟩ := nd_cons.mp hm2.nd
    have m3 := m2.trans (Mv.put (o := nkO P w (putK kvs ky z) b.2) (in_fa2 List.mem_cons_self) hmu2)
    have fin : ∀ h' : Nat → Wv, (∀ s : Nat, s < 10 → ∃ v, valV (putK kvs ky z) (some (Sum.inl (s : Int))) = some v ∧ Dp K (upd H2 b.2 (nkO P w (putK kvs ky z) b.2)) v (h' s).D) → MsH (ShL P w K im mv pr) im (upd H2 b.2 (nkO P w (putK kvs ky z) b.2)) A (b :: fb) { s with fr := { g with h := h' } :: r' } .non (n + 1) := fun h' hh' => by
      have hf : FmH (ShL P w K im mv pr) im (upd H2 b.2 (nkO P w (putK kvs ky z) b.2)) b { g with h := h' } (n + 1) :=
        ⟨_, cv2, by rw [upd_ne n1]; exact hb1, rfl, dp_kt k _ _ (nlRows im g.k) hcv2, putK kvs ky z, .inl upd_same, by have := length_putK kvs ky z; omega, hh'⟩
      exact (hm2.up (Nat.le_succ n)).head2 rfl hf
    have q : Post (ShL P w K im mv pr) im A (p :: b :: fb) H n (Q .non) (.go { s with fr := (match f0.t, a.map (worth f0.h) with | some t, some v => { g with h := hput g.h t v } | _, _ => g) :: r' } none) := q
    cases ht : f0.t with
    | none =>
      rw [ht] at q hky
      have ek : ky = none := hky.2
      refine q _ (b :: fb) m3 (fin g.h fun s hs => ?_)
      obtain ⟨v, e1, e2⟩ := g3 s hs
      refine ⟨v, ?_, dp_kt k _ _ (nlW _) e2⟩
      rw [valV_put, ek, if_neg (fun z => nomatch z)]
      exact e1
    | some t =>
      rw [ht] at q hky
      have ek : ky = some (kI t) := hky.2
      obtain ⟨ht4, hret⟩ := hto t ht
      obtain ⟨o, rfl⟩ := Option.isSome_iff_exists.mp (hra.mp hret)
      have q : Post (ShL P w K im mv pr) im A (p :: b :: fb) H n (Q .non) (.go { s with fr := { g with h := hput g.h t (worth f0.h o) } :: r' } none) := q
      have z2 : Dp K H2 z (worth f0.h o).D := z2
      refine q _ (b :: fb) m3 (fin _ fun s hs => ?_)
      by_cases e : s = t
      · subst e
        exact ⟨z, by rw [valV_put, ek, if_pos rfl], by rw [hput_same]; exact dp_kt k _ _ (nlW _) z2⟩
      · obtain ⟨v, e1, e2⟩ := g3 s hs
        exact ⟨v, by rw [valV_put, ek, if_neg (fun q => e (kI_inj (Option.some.inj q)))]; exact e1, by rw [hput_ne e]; exact dp_kt k _ _ (nlW _) e2⟩
set_option pp.maxSteps 600 in
theorem c_array (T : Txt w K mg) : Cal P w K mg base "_law_array" 3 ["_law_machine", "_law_frame", "_law_row_here"] (spArr P w K) := by
  obtain ⟨fd, F⟩ := T.d__law_array
  have C__law_worth := c_worth (P := P) (w := w) (base := base) T
  refine ⟨⟨fd, F.ok sc__law_array (fun vs H Q E h => by repeat (first | (obtain ⟨e, _⟩ := h; subst e; rfl) | (obtain ⟨_, h⟩ := h))) (fun cdv A outer s H vs Q E hr h => ?_), F.bindsN fun _ _ _ _ _ _ us hl => match us, hl with | [_, _, _], _ => rfl⟩, T.g _ (by decide), F.kp⟩
  obtain ⟨im, mv, pr, A, p, fa, s, f0, r, R, n, v, rfl, ⟨hv, hrow, hn, hm⟩, har, q⟩ := h
  have hu := hu_of hr
  refine ⟨_, PSs.nox (pss_cons (ps_set (i := 3) sc__law_array.nd rfl (.inl rfl) (pe_ix (ix_listK (K := K) rfl) (pe_dget hu (pv 0) pe_str (fun _ _ => rfl)) (pe_ix (ix_P (K := K) rfl) (pv 2) (pe_ifExp (pt_cmpR op_eq (pe_ix (ix_P (K := K) rfl) (pv 2) pe_int (fun _ _ => rfl)) pe_str (nomark _)) pe_int pe_int) (fun _ _ => rfl)) (fun _ _ => rfl)))
      (pss_cons (ps_set (i := 4) sc__law_array.nd rfl (.inl rfl) (pe_cal C__law_worth (hr.mono (by omega)) (by rfl) (pa_cons (pv 1) (pa_cons (pe_ix (ix_P (K := K) rfl) (pv 2) (pe_ifExp (pt_cmpR op_eq (pe_ix (ix_P (K := K) rfl) (pv 2) pe_int (fun _ _ => rfl)) pe_str (nomark _)) pe_int pe_int) (fun _ _ => rfl)) pa_nil))))
      (pss_one (ps_if (pt_cmpR op_ge (pv 4) (pe_callB (lenK (K := K) rfl) (by rfl) T.n_len (by decide +kernel) (pa_cons (pv 3) pa_nil)) (nomark _)) (pss_one (ps_dput hu (pv 0) pe_str (pe_tup (pa_cons pe_str (pa_cons pe_str pa_nil))) rfl)) (pss_one (ps_if (pt_cmpR op_eq (pe_ix (ix_P (K := K) rfl) (pv 2) pe_int (fun _ _ => rfl)) pe_str (nomark _)) (pss_one (ps_nput rfl rfl (pe_ix (ix_listK (K := K) rfl) (pv 1) pe_int (fun _ _ => rfl)) (pe_ix (ix_P (K := K) rfl) (pv 2) pe_int (fun _ _ => rfl)) (pe_ix (ix_listK (K := K) rfl) (pv 3) (pv 4) (fun _ _ => rfl)) rfl)) (pss_one (ps_asg (pe_cal C__law_worth (hr.mono (by omega)) (by rfl) (pa_cons (pv 1) (pa_cons (pe_ix (ix_P (K := K) rfl) (pv 2) pe_int (fun _ _ => rfl)) pa_nil))) (pg_sub (pv 3) (pv 4) set_list))))))))), ?_⟩
  obtain ⟨cv, hp1, hcv, hhd⟩ := topL_at hm
  obtain ⟨cd, hcd0, _, hh, hrw, hto⟩ := hrow.cd
  have htop := hm.bs.top
  have hr0 := hm.bs.r0
  obtain ⟨r1v, hr1, hr1d⟩ := hm.bs.r1
  have hAr : H A.ar = some (.lst [.ref A.r0, .ref A.r1]) := hm.bs.ar
  cases R with
  | rd t c a =>
    obtain ⟨_, _, hc⟩ := hrw
    have ha : ∀ x, some a = some (.v x) → x < 10 := by
      rcases hc with ⟨_, _, h⟩ | ⟨_, _, rfl⟩
      · exact opOk_lt h
      · exact fun _ h => nomatch h
    have hcc : c = 0 ∨ c = 1 := by rcases hc with ⟨_, h, _⟩ | ⟨_, h, _⟩ <;> omega
    obtain ⟨rk, hrk⟩ : ∃ rk, rk = if c = 0 then A.r0 else A.r1 := ⟨_, rfl⟩
    have hix : atI [V.ref A.r0, V.ref A.r1] (c : Int) = some (.ref rk) := by
      rcases hcc with rfl | rfl
      · rw [hrk, if_pos rfl]; rfl
      · rw [hrk, if_neg (by decide)]; rfl
    refine ⟨_, rfl, A.top, .ref A.ar, rfl, mc_arrays htop, _, rfl, _, rfl, _, 0, _, hv, rfl, rfl, fun z hz => ?_⟩
    cases hz
    refine ⟨rfl, _, rfl, ?_⟩
    rw [seq "read"]
    refine iteT ⟨_, 2, _, hv, rfl, rfl, fun z hz => ?_⟩
    cases hz
    refine ⟨A.ar, _, (c : Int), .ref rk, rfl, rfl, .inl (.inl hAr), hix, ?_⟩
    refine ⟨_, rfl, _, rfl, _, rfl, _, 0, _, hv, rfl, rfl, fun z hz => ?_⟩
    cases hz
    refine ⟨rfl, _, rfl, ?_⟩
    rw [seq "read"]
    refine iteT ⟨_, 3, _, hv, rfl, rfl, fun z hz => ⟨p.1, p.2, cv, optV f0.t, z, _, n, f0.h, a, rfl, hp1, hhd, hz, ha, fun y hy => ?_⟩⟩
    obtain ⟨kvs, g1, g2, g3⟩ := hhd
    have fin : ∀ (i : Nat) (x : V) (yv : Wv) (xs : List V), y = nV i → H rk = some (.lst xs) → xs[i]? = some x → Dp K H x yv.D → rdV s f0.h c a = some yv → ¬ (xs.length : Int) ≤ (i : Int) →
        tIfS (tTest (tOp (rI0 fun i j => V.bl (decide (j ≤ i))) (tVar 4) (tCB (rLenK K) (tCons (tVar 3) tNil)))) (sDPut (tVar 0) (tC (V.str "end")) (tTup (tCons (tC (V.str "trap")) (tCons (tC (V.str "bounds")) tNil))))
          (tIfS (tTest (tOp rEq (tOp (rIxP K) (tVar 2) (tC (V.int 0))) (tC (V.str "read")))) (sNPut P w (tOp (rIxL K) (tVar 1) (tC (V.int 2))) (tOp (rIxP K) (tVar 2) (tC (V.int 1))) (tOp (rIxL K) (tVar 3) (tVar 4))) (tAsg (tCall (spWorth P w K) [] E0 (tCons (tVar 1) (tCons (tOp (rIxP K) (tVar 2) (tC (V.int 3))) tNil))) (gSub (tVar 3) (tVar 4) rSetL)))
          { nx := fun x H' => Q V.non H', rt := Q } [some (.ref A.top), some (.ref p.1), some v, some (.ref rk), some y] H := by
      intro i x yv xs ey hx hxi hxd hrd hlt
      subst ey
      refine ⟨_, rfl, _, rfl, .ref rk, xs.length, rfl, .inl ⟨_, .inl (.inl hx), rfl⟩, _, _, rfl, rfl, _, rfl, ifF (decide_eq_false hlt) ⟨_, rfl, _, 0, _, hv, rfl, rfl, fun z hz => ?_⟩⟩
      cases hz
      refine ⟨rfl, _, rfl, ?_⟩
      rw [seq "read"]
      refine iteT ⟨_, rfl, _, rfl, rk, _, _, x, rfl, rfl, .inl (.inl hx), atI_nat hxi, _, rfl, p.1, _, 2, .ref p.2, rfl, rfl, .inl (.inl hp1), rfl, _, rfl, _, 1, _, hv, rfl, rfl, fun z hz => ?_⟩
      cases hz
      refine ⟨p.2, kvs, some (Sum.inl (t : Int)), rfl, rfl, g1, small_line (by omega), ?_⟩
      have z := hm.putSl (kvs := putK kvs (some (Sum.inl (t : Int))) x) (by have := length_putK kvs (some (Sum.inl (t : Int))) x; omega) (sl_put (fun s hs _ => g3 s hs) hxd)
      rw [asg_step (show asgV s f0.h (.rd t c a) = some (t, rdV s f0.h c a) from rfl), hrd] at q
      exact q _ _ z.2 z.1
    rcases hc with ⟨_, rfl, hoa⟩ | ⟨_, rfl, rfl⟩
    · obtain ⟨na, rfl, ea, hna⟩ := wv_op hh hoa hy
      rw [if_pos rfl] at hrk
      subst hrk
      by_cases hl : na < s.r0.length
      · refine fin na (nV s.r0[na]) (.w s.r0[na]) _ rfl hr0 (by rw [List.getElem?_map, List.getElem?_eq_getElem hl]; rfl) (.int _) ?_ (by rw [List.length_map]; show ¬ (s.r0.length : Int) ≤ (na : Int); omega)
        unfold rdV
        rw [if_pos rfl, ea]
        show (if na < s.r0.length then some (Wv.w (s.r0.getD na 0)) else none) = _
        rw [if_pos hl, List.getD_eq_getElem?_getD, List.getElem?_eq_getElem hl]
        rfl
      · refine ⟨_, rfl, _, rfl, .ref A.r0, (s.r0.map nV).length, rfl, .inl ⟨_, .inl (.inl hr0), rfl⟩, _, _, rfl, rfl, _, rfl, ifT (decide_eq_true (by rw [List.length_map]; show (s.r0.length : Int) ≤ (na : Int); omega)) ⟨(by show 2 ≤ sizeLine; decide), fun pt hpt => ⟨_, rfl, A.top, _, rfl, mc_dput (upd_get hpt htop), hm.endAt (m := n) hpt (e := .trap "bounds") (.cons (.str _) (.cons (.str _) .nil)) ?_⟩⟩⟩
        have er : rdV s f0.h 0 a = none := by
          unfold rdV
          rw [if_pos rfl, ea]
          exact if_neg hl
        rw [asg_step (show asgV s f0.h (.rd t 0 a) = some (t, rdV s f0.h 0 a) from rfl), er] at q
        have q : Post (ShL P w K im mv pr) im A (p :: fa) H n (Q .non) (.stop (.trap (if (("read" : Str) = "op") then ("zero" : Str) else "bounds"))) := q
        rw [if_neg (show ¬ (("read" : Str) = "op") by decide +kernel)] at q
        exact q
    · have ey := wv_dp (n := 0) hy
      rw [if_neg (by decide)] at hrk
      subst hrk
      exact fin 0 r1v (.f s.r1) _ ey hr1 rfl hr1d rfl (by show ¬ (1 : Int) ≤ 0; decide)
  | wr c a b =>
    obtain ⟨_, _, rfl, hoa, hob⟩ := hrw
    refine ⟨_, rfl, A.top, .ref A.ar, rfl, mc_arrays htop, _, rfl, _, rfl, _, 0, _, hv, rfl, rfl, fun z hz => ?_⟩
    cases hz
    refine ⟨rfl, _, rfl, ?_⟩
    rw [sne (show ("write" : Str) ≠ "read" by decide +kernel)]
    refine iteF ⟨_, 1, _, hv, rfl, rfl, fun z hz => ?_⟩
    cases hz
    refine ⟨A.ar, _, ((0 : Nat) : Int), .ref A.r0, rfl, rfl, .inl (.inl hAr), rfl, ?_⟩
    refine ⟨_, rfl, _, rfl, _, rfl, _, 0, _, hv, rfl, rfl, fun z hz => ?_⟩
    cases hz
    refine ⟨rfl, _, rfl, ?_⟩
    rw [sne (show ("write" : Str) ≠ "read" by decide +kernel)]
    refine iteF ⟨_, 2, _, hv, rfl, rfl, fun z hz => ⟨p.1, p.2, cv, optV f0.t, z, _, n, f0.h, a, rfl, hp1, hhd, hz, opOk_lt hoa, fun y hy => ?_⟩⟩
    obtain ⟨na, rfl, ea, hna⟩ := wv_op hh hoa hy
    have q : Post (ShL P w K im mv pr) im A (p :: fa) H n (Q .non) (if (worth f0.h a).n < s.r0.length then .go { s with fr := adv f0 :: r, r0 := s.r0.set (worth f0.h a).n (worth f0.h b).n } none else .stop (.trap "bounds")) := q
    rw [ea] at q
    refine ⟨_, rfl, _, rfl, .ref A.r0, (s.r0.map nV).length, rfl, .inl ⟨_, .inl (.inl hr0), rfl⟩, _, _, rfl, rfl, _, rfl, ?_⟩
    rw [List.length_map]
    show if decide ((s.r0.length : Int) ≤ (na : Int)) = true then _ else _
    by_cases hl : na < s.r0.length
    · rw [if_pos (show (Wv.w na).n < s.r0.length from hl)] at q
      refine ifF (decide_eq_false (by omega)) ⟨_, rfl, _, 0, _, hv, rfl, rfl, fun z hz => ?_⟩
      cases hz
      refine ⟨rfl, _, rfl, ?_⟩
      rw [sne (show ("write" : Str) ≠ "read" by decide +kernel)]
      refine iteF ⟨_, rfl, _, rfl, _, 3, _, hv, rfl, rfl, fun z hz => ⟨p.1, p.2, cv, optV f0.t, z, _, n, f0.h, b, rfl, hp1, hhd, hz, opOk_lt hob, fun y hy => ?_⟩⟩
      obtain ⟨nb, rfl, eb, hnb⟩ := wv_op hh hob hy
      rw [eb] at q
      refine ⟨_, rfl, _, rfl, A.r0, _, _, na, rfl, rfl, hr0, ixN_nat (by rw [List.length_map]; exact hl), ?_⟩
      rw [← List.map_set]
      exact q _ (p :: fa) (Mv.put (in_base (by simp)) (by rw [hr0]; exact True.intro)) ((hm.putR0 (s.r0.set na nb)).up (Nat.le_succ n))
    · rw [if_neg (show ¬ (Wv.w na).n < s.r0.length from hl)] at q
      exact ifT (decide_eq_true (by omega)) ⟨(by show 2 ≤ sizeLine; decide), fun pt hpt => ⟨_, rfl, A.top, _, rfl, mc_dput (upd_get hpt htop), hm.endAt (m := n) hpt (e := .trap "bounds") (.cons (.str _) (.cons (.str _) .nil)) q⟩⟩
  | _ => cases har
end
end K18

set_option maxHeartbeats 1000000
namespace K18
open PySem PySem.Spec PyProof.Rows L2 HG P18
section
variable {K : PySem.W.Frag} {S : Sh K} {im : Im} {A : Ad} {pr : Addr} {ps : List Nat} {fa : List (Addr × Addr)} {H H1 H2 H3 : Hp} {n : Nat} {X Y : Hp → Prop} {o : Out}
/-- what a step leaves -/
def RsL (S : Sh K) (im : Im) (A : Ad) (pr : Addr) (ps : List Nat) (fa : List (Addr × Addr)) (H : Hp) (n : Nat) : Out → Hp → Prop
  | .go s' p, H2 => ∃ fa', Mv ([pr] ++ allA S A fa) H ([pr] ++ allA S A fa') H2 ∧ pr ∉ allA S A fa' ∧ H2 pr = some (.lst ((ps ++ p.toList).map nV)) ∧ MsH S im H2 A fa' s' .non (n + 1)
  | .stop e, H2 => ∃ fa' v, Mv ([pr] ++ allA S A fa) H ([pr] ++ allA S A fa') H2 ∧ H2 A.top = some (S.top A v) ∧ Dp K H2 v e.D ∧ H2 pr = some (.lst (ps.map nV))
theorem RsL.same (r : RsL S im A pr ps fa H n o H2) (s : Same H2 H3) : RsL S im A pr ps fa H n o H3 := by
  cases o with
  | go s' p =>
    obtain ⟨fa', h1, h2, h3, h4⟩ := r
    exact ⟨fa', h1.trans (Mv.of s), h2, s _ _ h3, h4.same s⟩
  | stop e =>
    obtain ⟨fa', v, h1, h2, h3, h4⟩ := r
    exact ⟨fa', v, h1.trans (Mv.of s), s _ _ h2, dp_mono s _ _ h3, s _ _ h4⟩
theorem RsL.post (npr : ∀ s' p, o = .go s' p → p = none) (m1 : Mv (allA S A fa) H (allA S A fa) H1) (hpr : pr ∉ allA S A fa) (hp : H pr = some (.lst (ps.map nV))) : Post S im A fa H1 n (RsL S im A pr ps fa H n o) o := by
  cases o with
  | go s' p =>
    have e := npr s' p rfl
    subst e
    exact fun H' fa' mv hm => ⟨fa', (m1.trans mv).add [pr], (m1.trans mv).out hp hpr, by rw [Option.toList_none, List.append_nil]; exact (m1.trans mv).st _ _ hpr hp, hm⟩
  | stop e => exact fun H' fa' v mv ht hv => ⟨fa', v, (m1.trans mv).add [pr], ht, hv, (m1.trans mv).st _ _ hpr hp⟩
theorem Post.imp (h : Post S im A fa H n X o) (f : ∀ H', X H' → Y H') : Post S im A fa H n Y o := by
  cases o with
  | go s' p => exact fun H' fa' x y => f _ (h H' fa' x y)
  | stop e => exact fun H' fa' v x y z => f _ (h H' fa' v x y z)
/-! tests that say no -/
variable {σ : L2.St} {x w a b c : Str} {tb rest : TS} {D : Ends}
theorem skE (hw : σ[4]? = some (some (.str w))) (h : w ≠ x) (k : rest D σ H) : tSeq (tIfS (tTest (tOp rEq (tVar 4) (tC (V.str x)))) tb tNext) rest D σ H :=
  ⟨_, hw, rfl, _, rfl, ifF (decide_eq_false (fun z => h (by injection z))) k⟩
theorem skE1 (hw : σ[4]? = some (some (.str w))) (h : w ≠ x) (k : D.nx σ H) : tIfS (tTest (tOp rEq (tVar 4) (tC (V.str x)))) tb tNext D σ H :=
  ⟨_, hw, rfl, _, rfl, ifF (decide_eq_false (fun z => h (by injection z))) k⟩
theorem skI2 (hw : σ[4]? = some (some (.str w))) (h1 : w ≠ a) (h2 : w ≠ b) (k : ∀ H', Same H H' → rest D σ H') : tSeq (tIfS (tTest (tOp (rIn K false) (tVar 4) (tTup (tCons (tC (V.str a)) (tCons (tC (V.str b)) tNil))))) tb tNext) rest D σ H :=
  ⟨_, hw, (by show 2 ≤ sizeLine; decide), fun p hp => ⟨_, _, rfl, .inr (.inl (.inl upd_same)), rfl, rfl, _, rfl, ifF (in2n h1 h2) (k _ (same_new hp))⟩⟩
theorem skI3 (hw : σ[4]? = some (some (.str w))) (h1 : w ≠ a) (h2 : w ≠ b) (h3 : w ≠ c) (k : ∀ H', Same H H' → rest D σ H') : tSeq (tIfS (tTest (tOp (rIn K false) (tVar 4) (tTup (tCons (tC (V.str a)) (tCons (tC (V.str b)) (tCons (tC (V.str c)) tNil)))))) tb tNext) rest D σ H :=
  ⟨_, hw, (by show 3 ≤ sizeLine; decide), fun p hp => ⟨_, _, rfl, .inr (.inl (.inl upd_same)), rfl, rfl, _, rfl, ifF (in3n h1 h2 h3) (k _ (same_new hp))⟩⟩
theorem skJ (hw : σ[4]? = some (some (.str w))) {tx : TT} (h1 : w ≠ a) (h2 : w ≠ b) (h3 : w ≠ c) (k : ∀ H', Same H H' → rest D σ H') : tSeq (tIfS (tOr (tTest (tOp rEq (tVar 4) (tC (V.str a)))) (tAnd (tTest (tOp (rIn K false) (tVar 4) (tTup (tCons (tC (V.str b)) (tCons (tC (V.str c)) tNil))))) tx)) tb tNext) rest D σ H :=
  ⟨_, hw, rfl, _, rfl, ifF (decide_eq_false (fun z => h1 (by injection z))) ⟨_, hw, (by show 2 ≤ sizeLine; decide), fun p hp => ⟨_, _, rfl, .inr (.inl (.inl upd_same)), rfl, rfl, _, rfl, ifF (in2n h2 h3) (ifF rfl (k _ (same_new hp)))⟩⟩⟩
end
/-! the tests and what they do -/
section
variable (P : Program) (w : World) (K : PySem.W.Frag)
abbrev IX (i : Int) : TE := tOp (rIxP K) (tVar 2) (tC (V.int i))
abbrev WO (i : Int) : TE := tCall (spWorth P w K) [] E0 (tCons (tVar 1) (tCons (IX K i) tNil))
abbrev isW (x : Str) : TT := tTest (tOp rEq (tVar 4) (tC (V.str x)))
def I0 : TS := tIfS (isW "print") (tDrop (tBM K "list" rAppend (tDGet (tVar 0) (tC (V.str "prints"))) (tCons (WO P w K 1) tNil))) tNext
def CA : TS := tDrop (tCall (spEntd P w K) [] E0 (tCons (tVar 0) (tCons (tVar 5) (tCons (tLc (iTup K (IX K 3)) (gName 6) tYes (tCall (spWorth P w K) [] E0 (tCons (tVar 1) (tCons (tVar 6) tNil))) (([("_law_part", 6)] : List (Str × Nat)).map fun x => x.2)) (tCons (IX K 1) tNil)))))
def I1 : TS := tIfS (tTest (tOp (rIn K false) (tVar 4) (tTup (tCons (tC (V.str "call")) (tCons (tC (V.str "apply")) tNil))))) (tSeq (tAsg (tIf (isW "call") (IX K 2) (tOp (rIxP K) (tNGet P w (tVar 3) (IX K 2)) (tC (V.int 1)))) (gName 5)) (CA P w K)) tNext
def I2 : TS := tIfS (isW "return") (tDrop (tCall (spLeft P w K) [] E0 (tCons (tVar 0) (tCons (tVar 1) (tCons (tIf (tTest (tOp (fun x y H Q => y = V.non ∧ Q (V.bl (decide (x = V.non))) H) (IX K 1) (tC V.non))) (tC V.non) (WO P w K 1)) tNil))))) tNext
def I3 : TS := tIfS (isW "halt") (sDPut (tVar 0) (tC (V.str "end")) (tTup (tCons (tC (V.str "halted")) (tCons (IX K 1) tNil)))) tNext
def GO : TS := tAsg (tOp (rIxT K) (tVar 2) (tUn (rU fun i => V.int (-i)) (tC (V.int 1)))) (gSub (tVar 1) (tC (V.int 1)) rSetL)
def I4 : TS := tIfS (tOr (isW "jump") (tAnd (tTest (tOp (rIn K false) (tVar 4) (tTup (tCons (tC (V.str "branch")) (tCons (tC (V.str "unless")) tNil))))) (tTest (tOp rEq (tOp rNe (WO P w K 1) (tC (V.int 0))) (tOp rEq (tVar 4) (tC (V.str "branch"))))))) (GO K) tNext
def I5 : TS := tIfS (isW "store") (tAsg (WO P w K 2) (gSub (tDGet (tVar 0) (tC (V.str "cells"))) (IX K 1) rSetL)) tNext
def I6 : TS := tIfS (tTest (tOp (rIn K false) (tVar 4) (tTup (tCons (tC (V.str "const")) (tCons (tC (V.str "copy")) (tCons (tC (V.str "load")) tNil)))))) (sNPut P w (tVar 3) (IX K 1) (tDGet1 (tDisp [(tC (V.str "const"), IX K 2), (tC (V.str "copy"), tIf (isW "copy") (tNGet1 P w (tVar 3) (IX K 2)) (tC (V.int 0)))]) (tVar 4))) tNext
def I7 : TS := tIfS (isW "load") (sNPut P w (tVar 3) (IX K 1) (tOp (rIxL K) (tDGet (tVar 0) (tC (V.str "cells"))) (IX K 2))) tNext
def I8 : TS := tIfS (tTest (tOp (rIn K false) (tVar 4) (tTup (tCons (tC (V.str "read")) (tCons (tC (V.str "write")) tNil))))) (tDrop (tCall (spArr P w K) [] E0 (tCons (tVar 0) (tCons (tVar 1) (tCons (tVar 2) tNil))))) tNext
def I9 : TS := tIfS (isW "op") (tSeq (sNPut P w (tVar 3) (IX K 1) (tCall spComp [] E0 (tCons (IX K 2) (tCons (WO P w K 3) (tCons (WO P w K 4) tNil))))) (sDPut (tVar 0) (tC (V.str "end")) (tIf (tTest (tOp (fun x y H Q => y = V.non ∧ Q (V.bl (decide (x = V.non))) H) (tNGet P w (tVar 3) (IX K 1)) (tC V.non))) (tTup (tCons (tC (V.str "trap")) (tCons (tC (V.str "zero")) tNil))) (tC V.non)))) tNext
def T9 : TS := I9 P w K
def T8 : TS := tSeq (I8 P w K) (T9 P w K)
def T7 : TS := tSeq (I7 P w K) (T8 P w K)
def T6 : TS := tSeq (I6 P w K) (T7 P w K)
def T5 : TS := tSeq (I5 P w K) (T6 P w K)
def T4 : TS := tSeq (I4 P w K) (T5 P w K)
def T3 : TS := tSeq (I3 K) (T4 P w K)
def T2 : TS := tSeq (I2 P w K) (T3 P w K)
def T1 : TS := tSeq (I1 P w K) (T2 P w K)
def T0 : TS := tSeq (I0 P w K) (T1 P w K)
end
section
variable {P : Program} {w : World} {K : PySem.W.Frag} {D : Ends} {σ : L2.St} {H H1 H2 : Hp} {wd : Str}
/-- none of these words -/
def No (wd : Str) (xs : List Str) : Prop := ∀ x ∈ xs, wd ≠ x
theorem No.hd {x : Str} {xs : List Str} (h : No wd (x :: xs)) : wd ≠ x := h x List.mem_cons_self
theorem No.tl {x : Str} {xs : List Str} (h : No wd (x :: xs)) : No wd xs := fun y hy => h y (List.mem_cons_of_mem _ hy)
instance (xs : List Str) : Decidable (No wd xs) := inferInstanceAs (Decidable (∀ x ∈ xs, wd ≠ x))
theorem tl9 (hw : σ[4]? = some (some (.str wd))) (h : No wd ["op"]) (k : ∀ H', Same H H' → D.nx σ H') : T9 P w K D σ H := skE1 hw h.hd (k H (Same.refl H))
theorem tl8 (hw : σ[4]? = some (some (.str wd))) (h : No wd ["read", "write", "op"]) (k : ∀ H', Same H H' → D.nx σ H') : T8 P w K D σ H := skI2 hw h.hd h.tl.hd fun H2 s => tl9 hw h.tl.tl fun H3 s3 => k H3 (s.trans s3)
theorem tl7 (hw : σ[4]? = some (some (.str wd))) (h : No wd ["load", "read", "write", "op"]) (k : ∀ H', Same H H' → D.nx σ H') : T7 P w K D σ H := skE hw h.hd (tl8 hw h.tl k)
theorem tl6 (hw : σ[4]? = some (some (.str wd))) (h : No wd ["const", "copy", "load", "load", "read", "write", "op"]) (k : ∀ H', Same H H' → D.nx σ H') : T6 P w K D σ H := skI3 hw h.hd h.tl.hd h.tl.tl.hd fun H2 s => tl7 hw h.tl.tl.tl fun H3 s3 => k H3 (s.trans s3)
theorem tl5 (hw : σ[4]? = some (some (.str wd))) (h : No wd ["store", "const", "copy", "load", "load", "read", "write", "op"]) (k : ∀ H', Same H H' → D.nx σ H') : T5 P w K D σ H := skE hw h.hd (tl6 hw h.tl k)
theorem tl4 (hw : σ[4]? = some (some (.str wd))) (h : No wd ["jump", "branch", "unless", "store", "const", "copy", "load", "load", "read", "write", "op"]) (k : ∀ H', Same H H' → D.nx σ H') : T4 P w K D σ H := skJ hw h.hd h.tl.hd h.tl.tl.hd fun H2 s => tl5 hw h.tl.tl.tl fun H3 s3 => k H3 (s.trans s3)
theorem tl3 (hw : σ[4]? = some (some (.str wd))) (h : No wd ["halt", "jump", "branch", "unless", "store", "const", "copy", "load", "load", "read", "write", "op"]) (k : ∀ H', Same H H' → D.nx σ H') : T3 P w K D σ H := skE hw h.hd (tl4 hw h.tl k)
theorem tl2 (hw : σ[4]? = some (some (.str wd))) (h : No wd ["return", "halt", "jump", "branch", "unless", "store", "const", "copy", "load", "load", "read", "write", "op"]) (k : ∀ H', Same H H' → D.nx σ H') : T2 P w K D σ H := skE hw h.hd (tl3 hw h.tl k)
theorem tl1 (hw : σ[4]? = some (some (.str wd))) (h : No wd ["call", "apply", "return", "halt", "jump", "branch", "unless", "store", "const", "copy", "load", "load", "read", "write", "op"]) (k : ∀ H', Same H H' → D.nx σ H') : T1 P w K D σ H := skI2 hw h.hd h.tl.hd fun H2 s => tl2 hw h.tl.tl fun H3 s3 => k H3 (s.trans s3)
theorem hd1 (hw : σ[4]? = some (some (.str wd))) (h : No wd ["print"]) (k : ∀ H', Same H H' → T1 P w K D σ H') : T0 P w K D σ H := skE hw h.hd (k H (Same.refl H))
theorem hd2 (hw : σ[4]? = some (some (.str wd))) (h : No wd ["call", "apply", "print"]) (k : ∀ H', Same H H' → T2 P w K D σ H') : T0 P w K D σ H := hd1 hw h.tl.tl fun H2 s => skI2 hw h.hd h.tl.hd fun H3 s3 => k H3 (s.trans s3)
theorem hd3 (hw : σ[4]? = some (some (.str wd))) (h : No wd ["return", "call", "apply", "print"]) (k : ∀ H', Same H H' → T3 P w K D σ H') : T0 P w K D σ H := hd2 hw h.tl fun H2 s => skE hw h.hd (k H2 s)
theorem hd4 (hw : σ[4]? = some (some (.str wd))) (h : No wd ["halt", "return", "call", "apply", "print"]) (k : ∀ H', Same H H' → T4 P w K D σ H') : T0 P w K D σ H := hd3 hw h.tl fun H2 s => skE hw h.hd (k H2 s)
theorem hd5 (hw : σ[4]? = some (some (.str wd))) (h : No wd ["jump", "branch", "unless", "halt", "return", "call", "apply", "print"]) (k : ∀ H', Same H H' → T5 P w K D σ H') : T0 P w K D σ H := hd4 hw h.tl.tl.tl fun H2 s => skJ hw h.hd h.tl.hd h.tl.tl.hd fun H3 s3 => k H3 (s.trans s3)
theorem hd6 (hw : σ[4]? = some (some (.str wd))) (h : No wd ["store", "jump", "branch", "unless", "halt", "return", "call", "apply", "print"]) (k : ∀ H', Same H H' → T6 P w K D σ H') : T0 P w K D σ H := hd5 hw h.tl fun H2 s => skE hw h.hd (k H2 s)
theorem hd7 (hw : σ[4]? = some (some (.str wd))) (h : No wd ["const", "copy", "load", "store", "jump", "branch", "unless", "halt", "return", "call", "apply", "print"]) (k : ∀ H', Same H H' → T7 P w K D σ H') : T0 P w K D σ H := hd6 hw h.tl.tl.tl fun H2 s => skI3 hw h.hd h.tl.hd h.tl.tl.hd fun H3 s3 => k H3 (s.trans s3)
theorem hd8 (hw : σ[4]? = some (some (.str wd))) (h : No wd ["load", "const", "copy", "load", "store", "jump", "branch", "unless", "halt", "return", "call", "apply", "print"]) (k : ∀ H', Same H H' → T8 P w K D σ H') : T0 P w K D σ H := hd7 hw h.tl fun H2 s => skE hw h.hd (k H2 s)
theorem hd9 (hw : σ[4]? = some (some (.str wd))) (h : No wd ["read", "write", "load", "const", "copy", "load", "store", "jump", "branch", "unless", "halt", "return", "call", "apply", "print"]) (k : ∀ H', Same H H' → T9 P w K D σ H') : T0 P w K D σ H := hd8 hw h.tl.tl fun H2 s => skI2 hw h.hd h.tl.hd fun H3 s3 => k H3 (s.trans s3)
end
end K18

set_option maxHeartbeats 1000000
namespace K18
open PySem PySem.Spec PyProof.Rows L2 HG P18
/-- the machine of the law is about to do R -/
structure StepS (P : Program) (w : World) (K : PySem.W.Frag) (im : Im) (mv : V) (pr : Addr) (A : Ad) (p : Addr × Addr) (fb : List (Addr × Addr)) (s : Ms) (f0 : Fm) (r : List Fm) (R : Rw) (n : Nat) (ps : List Nat) (v : V) (H H1 : Hp) : Prop where
  hv : Dp K H1 v R.D
  row : Row im s f0 r R
  nle : n ≤ 100000
  hm : MsH (ShL P w K im mv pr) im H1 A (p :: fb) { s with fr := adv f0 :: r } .non n
  pr0 : H pr = some (.lst (ps.map nV))
  npr : pr ∉ allA (ShL P w K im mv pr) A (p :: fb)
  m : Mv (allA (ShL P w K im mv pr) A (p :: fb)) H (allA (ShL P w K im mv pr) A (p :: fb)) H1
  len : ps.length ≤ n
theorem dpAll_last {K : PySem.W.Frag} {H : Hp} {m : Nat} : ∀ {ds : List PyData} {zs : List V}, DpAll K H zs (ds ++ [nD m]) → ∃ us, zs = us ++ [nV m]
  | [], _, h => by
    cases h with
    | cons h t =>
      cases t
      cases h
      exact ⟨[], rfl⟩
  | _ :: _, _, h => by
    cases h with
    | cons h t =>
      obtain ⟨us, rfl⟩ := dpAll_last t
      exact ⟨_ :: us, rfl⟩
abbrev stS (A : Ad) (p : Addr × Addr) (v : V) (wd : Str) (x5 x6 : Option V) : L2.St := [some (.ref A.top), some (.ref p.1), some v, some (.ref p.2), some (.str wd), x5, x6]
section
variable {P : Program} {w : World} {K : PySem.W.Frag} {im : Im} {mv : V} {pr : Addr} {A : Ad} {p : Addr × Addr} {fb : List (Addr × Addr)} {s : Ms} {f0 : Fm} {r : List Fm} {R : Rw} {n : Nat} {ps : List Nat} {v : V} {H H1 H2 : Hp} {D : Ends} {wd : Str} {x5 x6 : Option V}
theorem StepS.same (S : StepS P w K im mv pr A p fb s f0 r R n ps v H H1) (x : Same H1 H2) : StepS P w K im mv pr A p fb s f0 r R n ps v H H2 := ⟨dp_mono x _ _ S.hv, S.row, S.nle, S.hm.same x, S.pr0, S.npr, S.m.trans (Mv.of x), S.len⟩
theorem StepS.pr1 (S : StepS P w K im mv pr A p fb s f0 r R n ps v H H1) : H1 pr = some (.lst (ps.map nV)) := S.m.st _ _ S.npr S.pr0
theorem StepS.post (S : StepS P w K im mv pr A p fb s f0 r R n ps v H H1) (h : isPr R = false) : Post (ShL P w K im mv pr) im A (p :: fb) H1 n (RsL (ShL P w K im mv pr) im A pr ps (p :: fb) H n (stepR im s (adv f0) r R)) (stepR im s (adv f0) r R) := RsL.post (nopr h) S.m S.npr S.pr0
theorem ac_pr {a : Op} (S : StepS P w K im mv pr A p fb s f0 r (.pr a) n ps v H H1) (q : ∀ H2, RsL (ShL P w K im mv pr) im A pr ps (p :: fb) H n (stepR im s (adv f0) r (.pr a)) H2 → T1 P w K D (stS A p v "print" x5 x6) H2) : T0 P w K D (stS A p v "print" x5 x6) H1 := by
  obtain ⟨cv, hp1, hcv, hhd⟩ := topL_at S.hm
  obtain ⟨cd, _, _, hh, hrw, hto⟩ := S.row.cd
  have htop := S.hm.bs.top
  have hpr1 := S.pr1
  have hoa : OpOk a := hrw.2.2
  refine ⟨_, rfl, rfl, _, rfl, ifT (seq "print") ?_⟩
  refine ⟨_, rfl, A.top, .ref pr, rfl, mc_prints htop, .inl ⟨rfl, _, .inl (.inl hpr1)⟩, _, rfl, _, rfl, _, 1, _, S.hv, rfl, rfl, fun z hz => ⟨p.1, p.2, cv, optV f0.t, z, _, n, f0.h, a, rfl, hp1, hhd, hz, opOk_lt hoa, fun y hy => ?_⟩⟩
  obtain ⟨na, rfl, ea, hna⟩ := wv_op hh hoa hy
  have hl := S.len
  have hn := S.nle
  refine ⟨pr, _, nV na, rfl, rfl, hpr1, small_line (by rw [List.length_map]; omega), ?_⟩
  have hmu : Mut (H1 pr) := by rw [hpr1]; exact True.intro
  refine q _ ⟨p :: fb, (S.m.add [pr]).trans (Mv.put (List.mem_append_left _ (List.mem_singleton.mpr rfl)) hmu), S.npr, ?_, (S.hm.mv (F := [pr]) (F' := [pr]) (Mv.put (List.mem_singleton.mpr rfl) hmu) fun a ha z => S.npr (List.mem_singleton.mp z ▸ ha)).up (Nat.le_succ n)⟩
  show _ = some (HO.lst (List.map nV (ps ++ [(worth f0.h a).n])))
  rw [ea, List.map_append]
  exact upd_same
/-- a new frame -/
theorem callL {t : Option Nat} {k : Nat} {as : List Op} {cd2 : Cd} (S : StepS P w K im mv pr A p fb s f0 r R n ps v H H1) (hpR : isPr R = false) (h3 : (PyData.str R.word :: R.ps)[3]? = some (.tuple (as.map Op.D))) (h1 : (PyData.str R.word :: R.ps)[1]? = some (optD t)) (hcd : im.codes[k]? = some cd2) (hoa : ∀ a ∈ as, OpOk a) (hal : as.length ≤ 4)
    (hq : stepR im s (adv f0) r R = .go { s with fr := entered im k (as.map (worth f0.h)) t :: adv f0 :: r } none) (q : ∀ H2, RsL (ShL P w K im mv pr) im A pr ps (p :: fb) H n (stepR im s (adv f0) r R) H2 → D.nx (stS A p v wd (some (nV k)) x6) H2) : CA P w K D (stS A p v wd (some (nV k)) x6) H1 := by
  obtain ⟨cv, hp1, hcv, hhd⟩ := topL_at S.hm
  refine ⟨_, rfl, _, rfl, _, rfl, _, 3, _, S.hv, rfl, h3, fun z hz => ?_⟩
  obtain ⟨aa, xs, rfl, sq, hxs⟩ : ∃ aa xs, z = .ref aa ∧ SqT K H1 aa xs ∧ DpAll K H1 xs (as.map Op.D) := by
    cases hz with
    | tup a b => exact ⟨_, _, rfl, a, b⟩
  refine ⟨aa, rfl, ⟨xs, sq⟩, fun L hL => ?_⟩
  have hxl := dpAll_len hxs
  rw [List.length_map] at hxl
  refine lc_tup (xs := xs) (fun i H2 => ∃ us, H2 L = some (.lst us) ∧ DpAll K H2 us (((as.take i).map (worth f0.h)).map Wv.D) ∧ us.length = i ∧ Same H1 H2) ⟨[], upd_same, .nil, rfl, same_new hL⟩ ?_ ?_ ?_
  · rintro i H2 _ ⟨_, _, _, _, s2⟩
    exact sqT_same s2 sq
  · rintro i x H2 hi ⟨us, h2, hus, hul, s2⟩
    obtain ⟨o, ho, hxo⟩ := dpAll_map_get hxs hi
    have hi4 := (List.getElem?_eq_some_iff.mp ho).1
    have hok := hoa o (List.mem_of_getElem? ho)
    have hhd2 : HdL P w K H2 p.2 f0.h n := by
      obtain ⟨kv, e1, e2, e3⟩ := hhd
      refine ⟨kv, ?_, e2, fun s hs => ?_⟩
      · rcases e1 with e | ⟨ks, e, ek⟩
        · exact .inl (s2 _ _ e)
        · exact .inr ⟨ks, s2 _ _ e, ek⟩
      · obtain ⟨v, g1, g2⟩ := e3 s hs
        exact ⟨v, g1, dp_mono s2 _ _ g2⟩
    refine ⟨rfl, tyes ⟨_, rfl, _, rfl, p.1, p.2, cv, optV f0.t, x, _, n, f0.h, o, rfl, s2 _ _ hp1, hhd2, dp_mono s2 _ _ hxo, opOk_lt hok, fun z hz => ⟨us, h2, small_line (by omega), us ++ [z], upd_same, ?_, by rw [List.length_append, hul]; rfl, fun b o' e => by rw [upd_ne (ne_of_none e hL)]; exact s2 _ _ e⟩⟩⟩
    have k := KT.lst (o := .lst (us ++ [z])) h2
    have nlT : ∀ l : List Wv, noLAll (l.map Wv.D) = true := fun l => noLAll_map fun v _ => nlW v
    rw [List.take_add_one, ho, List.map_append, List.map_append]
    exact dpAll_app (dpAll_kt k _ _ (nlT _) hus) (.cons (dp_kt k _ _ (nlW _) hz) .nil)
  rintro H2 ⟨us, h2, hus, hul, s2⟩
  rw [hxl, List.take_of_length_le (Nat.le_refl _)] at hus
  have S2 := S.same s2
  refine ⟨_, rfl, _, 1, _, S2.hv, rfl, h1, fun z hz => ?_⟩
  have ez : z = optV t := by
    cases t with
    | none => cases hz; rfl
    | some t => cases hz; rfl
  subst ez
  have hn := S.nle
  have R0 := S2.post hpR
  rw [hq] at R0
  exact ⟨im, mv, pr, A, p :: fb, { s with fr := adv f0 :: r }, k, L, us, as.map (worth f0.h), t, cd2, n, rfl, S2.hm, by omega, hcd, S.row.I.codes cd2 (List.mem_of_getElem? hcd), .inr (.inl (.inl h2)), hus, fun H' p2 m2 h2 => q H' (by rw [hq]; exact R0 H' (p2 :: p :: fb) m2 h2)⟩
theorem ac_ca {t : Option Nat} {k : Nat} {as : List Op} (S : StepS P w K im mv pr A p fb s f0 r (.ca t k as) n ps v H H1) (q : ∀ x H2, RsL (ShL P w K im mv pr) im A pr ps (p :: fb) H n (stepR im s (adv f0) r (.ca t k as)) H2 → T2 P w K D (stS A p v "call" x x6) H2) : T1 P w K D (stS A p v "call" x5 x6) H1 := by
  obtain ⟨cd, _, _, hh, ⟨_, _, cd2, hcd, hto, hal, hoa⟩, _⟩ := S.row.cd
  have hps := (S.row.I.codes cd2 (List.mem_of_getElem? hcd)).ps.1
  refine ⟨_, rfl, (by show 2 ≤ sizeLine; decide), fun pt hpt => ⟨_, _, rfl, .inr (.inl (.inl upd_same)), rfl, rfl, _, rfl, ifT (in2a _ _) ?_⟩⟩
  have S2 := S.same (same_new (o := .tup [.str "call", .str "apply"]) hpt)
  generalize upd H1 pt (.tup [.str "call", .str "apply"]) = H2 at S2 ⊢
  refine ⟨_, rfl, rfl, _, rfl, ifT (seq "call") ⟨_, rfl, _, 2, _, S2.hv, rfl, rfl, fun z hz => ?_⟩⟩
  cases hz
  exact callL S2 rfl rfl rfl hcd hoa (by omega) rfl (q _)
theorem ac_ap {t : Option Nat} {u : Nat} {a : Op} (S : StepS P w K im mv pr A p fb s f0 r (.ap t u a) n ps v H H1) (q : ∀ x H2, RsL (ShL P w K im mv pr) im A pr ps (p :: fb) H n (stepR im s (adv f0) r (.ap t u a)) H2 → T2 P w K D (stS A p v "apply" x x6) H2) : T1 P w K D (stS A p v "apply" x5 x6) H1 := by
  obtain ⟨cd, _, _, hh, ⟨_, _, hto, huu, hoa⟩, _⟩ := S.row.cd
  have hfu : FOk im (f0.h u) := by
    rcases huu with rfl | rfl
    · exact hh.f8 (by omega)
    · exact hh.f9 (by omega)
  obtain ⟨k, ek, cd2, hcd, hr2, p2, hp2'⟩ := hfu
  refine ⟨_, rfl, (by show 2 ≤ sizeLine; decide), fun pt hpt => ⟨_, _, rfl, .inr (.inl (.inl upd_same)), rfl, rfl, _, rfl, ifT (in2b _ _) ?_⟩⟩
  have S2 := S.same (same_new (o := .tup [.str "call", .str "apply"]) hpt)
  generalize upd H1 pt (.tup [.str "call", .str "apply"]) = H2 at S2 ⊢
  obtain ⟨cv, hp1, hcv, kvs, g1, g2, g3⟩ := topL_at S2.hm
  obtain ⟨y, e1, dy⟩ := g3 u (by omega)
  have ek : f0.h u = .f k := ek
  have dy : Dp K H2 y (f0.h u).D := dy
  rw [ek] at dy
  refine ⟨_, rfl, rfl, _, rfl, ifF (sne (show ("apply" : Str) ≠ "call" by decide +kernel)) ⟨_, rfl, _, rfl, _, 2, _, S2.hv, rfl, rfl, fun z hz => ?_⟩⟩
  cases hz
  refine ⟨p.2, kvs, some (Sum.inl (u : Int)), y, rfl, rfl, g1, e1, _, 1, _, dy, rfl, rfl, fun z hz => ?_⟩
  cases hz
  refine callL (as := [a]) S2 rfl rfl rfl hcd (fun b hb => by rw [List.mem_singleton.mp hb]; exact hoa) (show 1 ≤ 4 by decide) ?_ (q _)
  show (match f0.h u with | .f k => Out.go { s with fr := entered im k [worth f0.h a] t :: adv f0 :: r } none | .w _ => .stop (.halted 0)) = _
  rw [ek]
  rfl
theorem ac_rt {a : Option Op} (S : StepS P w K im mv pr A p fb s f0 r (.rt a) n ps v H H1) (q : ∀ H2, RsL (ShL P w K im mv pr) im A pr ps (p :: fb) H n (stepR im s (adv f0) r (.rt a)) H2 → T3 P w K D (stS A p v "return" x5 x6) H2) : T2 P w K D (stS A p v "return" x5 x6) H1 := by
  obtain ⟨cv, hp1, hcv, hhd⟩ := topL_at S.hm
  obtain ⟨cd, _, _, hh, ⟨_, hra, hoa⟩, _⟩ := S.row.cd
  refine ⟨_, rfl, rfl, _, rfl, ifT (seq "return") ⟨_, rfl, _, rfl, _, rfl, _, 1, _, S.hv, rfl, rt_ix a, fun z hz => ?_⟩⟩
  refine ⟨rfl, _, rfl, ?_⟩
  cases a with
  | none =>
    cases hz
    refine ifT rfl ?_
    exact ⟨im, mv, pr, A, p, fb, s, f0, r, none, n, .non, rfl, .non, S.row, S.nle, S.hm, (S.post rfl).imp q⟩
  | some o =>
    have nz : decide (z = V.non) = false := decide_eq_false fun e => by
      rw [e] at hz
      cases o <;> cases hz
    refine ifF nz ⟨_, rfl, _, rfl, _, 1, _, S.hv, rfl, rt_ix (some o), fun z2 hz2 => ⟨p.1, p.2, cv, optV f0.t, z2, _, n, f0.h, o, rfl, hp1, hhd, hz2, opOk_lt (hoa o rfl), fun y hy => ?_⟩⟩
    exact ⟨im, mv, pr, A, p, fb, s, f0, r, some o, n, y, rfl, hy, S.row, S.nle, S.hm, (S.post rfl).imp q⟩
theorem ac_ha {m : Nat} (S : StepS P w K im mv pr A p fb s f0 r (.ha m) n ps v H H1) (q : ∀ H2, RsL (ShL P w K im mv pr) im A pr ps (p :: fb) H n (stepR im s (adv f0) r (.ha m)) H2 → T4 P w K D (stS A p v "halt" x5 x6) H2) : T3 P w K D (stS A p v "halt" x5 x6) H1 := by
  have htop := S.hm.bs.top
  refine ⟨_, rfl, rfl, _, rfl, ifT (seq "halt") ⟨_, rfl, _, 1, _, S.hv, rfl, rfl, fun z hz => ?_⟩⟩
  cases hz
  exact ⟨(by show 2 ≤ sizeLine; decide), fun pt hpt => ⟨_, rfl, A.top, _, rfl, mc_dput (upd_get hpt htop), S.hm.endAt (m := n) hpt (e := .halted m) (.cons (.str _) (.cons (.int (m : Int)) .nil)) ((S.post rfl).imp q)⟩⟩
/-- the next instruction, the last part of the row -/
theorem goL {m : Nat} {ds : List PyData} (S : StepS P w K im mv pr A p fb s f0 r R n ps v H H1) (hpR : isPr R = false) (hl : PyData.str R.word :: R.ps = ds ++ [nD m]) (hq : stepR im s (adv f0) r R = .go { s with fr := { adv f0 with pc := m } :: r } none) {σ : L2.St} (e1 : σ[1]? = some (some (.ref p.1))) (e2 : σ[2]? = some (some v))
    (q : ∀ H2, RsL (ShL P w K im mv pr) im A pr ps (p :: fb) H n (stepR im s (adv f0) r R) H2 → D.nx σ H2) : GO K D σ H1 := by
  obtain ⟨cv, hp1, hcv, hhd⟩ := topL_at S.hm
  have hv : Dp K H1 v (.tuple (PyData.str R.word :: R.ps)) := S.hv
  rw [hl] at hv
  obtain ⟨za, zs, rfl, zq, zl⟩ : ∃ za zs, v = .ref za ∧ SqT K H1 za (zs ++ [nV m]) ∧ True := by
    cases hv with
    | @tup za zs _ a b =>
      obtain ⟨us, rfl⟩ := dpAll_last b
      exact ⟨za, us, rfl, a, trivial⟩
  refine ⟨_, e2, 1, rfl, za, _, -1, nV m, rfl, rfl, zq, L2.atI_last _ _, _, e1, p.1, _, _, 1, rfl, rfl, hp1, rfl, ?_⟩
  have R0 := S.post hpR
  rw [hq] at R0
  refine q _ ?_
  rw [hq]
  exact R0 _ _ (Mv.put (in_fa1 List.mem_cons_self) (by rw [hp1]; exact True.intro)) ((S.hm.setPc (pc' := m) (o' := FlO cv m p.2 (optV f0.t)) rfl hp1 True.intro hcv rfl).up (Nat.le_succ n))
theorem ac_jp {m : Nat} (S : StepS P w K im mv pr A p fb s f0 r (.jp m) n ps v H H1) (q : ∀ H2, RsL (ShL P w K im mv pr) im A pr ps (p :: fb) H n (stepR im s (adv f0) r (.jp m)) H2 → T5 P w K D (stS A p v "jump" x5 x6) H2) : T4 P w K D (stS A p v "jump" x5 x6) H1 := by
  refine ⟨_, rfl, rfl, _, rfl, ifT (seq "jump") (iteT ?_)⟩
  exact goL (ds := [.str "jump"]) S rfl rfl rfl rfl rfl q
theorem ac_br {a : Op} {m : Nat} (S : StepS P w K im mv pr A p fb s f0 r (.br a m) n ps v H H1) (q : ∀ H2, RsL (ShL P w K im mv pr) im A pr ps (p :: fb) H n (stepR im s (adv f0) r (.br a m)) H2 → T5 P w K D (stS A p v "branch" x5 x6) H2) : T4 P w K D (stS A p v "branch" x5 x6) H1 := by
  obtain ⟨cd, _, _, hh, ⟨_, _, hoa, _⟩, _⟩ := S.row.cd
  refine ⟨_, rfl, rfl, _, rfl, ifF (sne (show ("branch" : Str) ≠ "jump" by decide +kernel)) ⟨_, rfl, (by show 2 ≤ sizeLine; decide), fun pt hpt => ⟨_, _, rfl, .inr (.inl (.inl upd_same)), rfl, rfl, _, rfl, ifT (in2a _ _) ?_⟩⟩⟩
  have S2 := S.same (same_new (o := .tup [.str "branch", .str "unless"]) hpt)
  generalize upd H1 pt (.tup [.str "branch", .str "unless"]) = H2 at S2 ⊢
  obtain ⟨cv, hp1, hcv, hhd⟩ := topL_at S2.hm
  refine ⟨_, rfl, _, rfl, _, 1, _, S2.hv, rfl, rfl, fun z hz => ⟨p.1, p.2, cv, optV f0.t, z, _, n, f0.h, a, rfl, hp1, hhd, hz, opOk_lt hoa, fun y hy => ?_⟩⟩
  obtain ⟨na, rfl, ea, hna⟩ := wv_op hh hoa hy
  refine ⟨rfl, _, rfl, rfl, rfl, _, rfl, ?_⟩
  show if decide (V.bl (!decide (nV na = V.int 0)) = V.bl (decide (V.str "branch" = V.str "branch"))) = true then _ else _
  rw [seq "branch"]
  have eq : stepR im s (adv f0) r (.br a m) = .go { s with fr := (if (worth f0.h a).n = 0 then adv f0 else { adv f0 with pc := m }) :: r } none := rfl
  rw [ea] at eq
  by_cases h0 : na = 0
  · rw [if_pos (show (Wv.w na).n = 0 from h0)] at eq
    rw [show decide (nV na = V.int 0) = true from decide_eq_true (by rw [h0]; rfl)]
    have R0 := S2.post rfl
    rw [eq] at R0
    exact iteF (q H2 (by rw [eq]; exact R0 H2 (p :: fb) Mv.refl (S2.hm.up (Nat.le_succ n))))
  · rw [if_neg (show ¬ (Wv.w na).n = 0 from h0)] at eq
    rw [show decide (nV na = V.int 0) = false from ne_int (b := 0) h0]
    exact iteT (goL (ds := [.str "branch", a.D]) S2 rfl rfl eq rfl rfl q)
theorem ac_un {u m : Nat} (S : StepS P w K im mv pr A p fb s f0 r (.un u m) n ps v H H1) (q : ∀ H2, RsL (ShL P w K im mv pr) im A pr ps (p :: fb) H n (stepR im s (adv f0) r (.un u m)) H2 → T5 P w K D (stS A p v "unless" x5 x6) H2) : T4 P w K D (stS A p v "unless" x5 x6) H1 := by
  obtain ⟨cd, _, _, hh, ⟨_, _, hu4, _⟩, _⟩ := S.row.cd
  have hoa : OpOk (.v u) := hu4
  refine ⟨_, rfl, rfl, _, rfl, ifF (sne (show ("unless" : Str) ≠ "jump" by decide +kernel)) ⟨_, rfl, (by show 2 ≤ sizeLine; decide), fun pt hpt => ⟨_, _, rfl, .inr (.inl (.inl upd_same)), rfl, rfl, _, rfl, ifT (in2b _ _) ?_⟩⟩⟩
  have S2 := S.same (same_new (o := .tup [.str "branch", .str "unless"]) hpt)
  generalize upd H1 pt (.tup [.str "branch", .str "unless"]) = H2 at S2 ⊢
  obtain ⟨cv, hp1, hcv, hhd⟩ := topL_at S2.hm
  refine ⟨_, rfl, _, rfl, _, 1, _, S2.hv, rfl, rfl, fun z hz => ⟨p.1, p.2, cv, optV f0.t, z, _, n, f0.h, .v u, rfl, hp1, hhd, hz, opOk_lt hoa, fun y hy => ?_⟩⟩
  obtain ⟨na, rfl, ea, hna⟩ := wv_op hh hoa hy
  have ea : f0.h u = .w na := ea
  refine ⟨rfl, _, rfl, rfl, rfl, _, rfl, ?_⟩
  show if decide (V.bl (!decide (nV na = V.int 0)) = V.bl (decide (V.str "unless" = V.str "branch"))) = true then _ else _
  rw [sne (show ("unless" : Str) ≠ "branch" by decide +kernel)]
  have eq : stepR im s (adv f0) r (.un u m) = .go { s with fr := (if (f0.h u).n = 0 then { adv f0 with pc := m } else adv f0) :: r } none := rfl
  rw [ea] at eq
  by_cases h0 : na = 0
  · rw [if_pos (show (Wv.w na).n = 0 from h0)] at eq
    rw [show decide (nV na = V.int 0) = true from decide_eq_true (by rw [h0]; rfl)]
    exact iteT (goL (ds := [.str "unless", (Op.v u).D]) S2 rfl rfl eq rfl rfl q)
  · rw [if_neg (show ¬ (Wv.w na).n = 0 from h0)] at eq
    rw [show decide (nV na = V.int 0) = false from ne_int (b := 0) h0]
    have R0 := S2.post rfl
    rw [eq] at R0
    exact iteF (q H2 (by rw [eq]; exact R0 H2 (p :: fb) Mv.refl (S2.hm.up (Nat.le_succ n))))
theorem ac_st {c : Nat} {a : Op} (S : StepS P w K im mv pr A p fb s f0 r (.st c a) n ps v H H1) (q : ∀ H2, RsL (ShL P w K im mv pr) im A pr ps (p :: fb) H n (stepR im s (adv f0) r (.st c a)) H2 → T6 P w K D (stS A p v "store" x5 x6) H2) : T5 P w K D (stS A p v "store" x5 x6) H1 := by
  obtain ⟨cv, hp1, hcv, hhd⟩ := topL_at S.hm
  obtain ⟨cd, _, _, hh, hrw, hto⟩ := S.row.cd
  have htop := S.hm.bs.top
  obtain ⟨v0, v1, c1, c2, c3⟩ := S.hm.bs.ce
  have ha : ∀ x, some a = some (.v x) → x < 10 := by
    rcases hrw.2.2 with ⟨_, h⟩ | ⟨_, rfl⟩
    · exact opOk_lt h
    · intro x e
      cases e
      decide
  refine ⟨_, rfl, rfl, _, rfl, ifT (seq "store") ⟨_, rfl, _, rfl, _, 2, _, S.hv, rfl, rfl, fun z hz => ⟨p.1, p.2, cv, optV f0.t, z, _, n, f0.h, a, rfl, hp1, hhd, hz, ha, fun y hy => ?_⟩⟩⟩
  have hce : H1 A.ce = some (.lst [v0, v1]) := c1
  have hmu : Mut (H1 A.ce) := by rw [hce]; exact True.intro
  refine ⟨_, rfl, A.top, .ref A.ce, rfl, mc_cells htop, _, rfl, _, 1, _, S.hv, rfl, rfl, fun z hz => ?_⟩
  cases hz
  have hcc : c = 0 ∨ c = 1 := by rcases hrw.2.2 with ⟨h, _⟩ | ⟨h, _⟩ <;> omega
  have R0 := S.post rfl
  have eq : stepR im s (adv f0) r (.st c a) = .go (if c = 0 then { s with fr := adv f0 :: r, c0 := worth f0.h a } else { s with fr := adv f0 :: r, c1 := worth f0.h a }) none := rfl
  rcases hcc with rfl | rfl
  · rw [if_pos rfl] at eq
    refine ⟨A.ce, _, _, 0, rfl, rfl, hce, rfl, q _ ?_⟩
    rw [eq] at R0 ⊢
    exact R0 _ (p :: fb) (Mv.put (in_base (by simp)) hmu) ((S.hm.putCe (y0 := worth f0.h a) (y1 := s.c1) hy c3).up (Nat.le_succ n))
  · rw [if_neg (by decide)] at eq
    refine ⟨A.ce, _, _, 1, rfl, rfl, hce, rfl, q _ ?_⟩
    rw [eq] at R0 ⊢
    exact R0 _ (p :: fb) (Mv.put (in_base (by simp)) hmu) ((S.hm.putCe (y0 := s.c0) (y1 := worth f0.h a) c2 hy).up (Nat.le_succ n))
theorem ac_ar (S : StepS P w K im mv pr A p fb s f0 r R n ps v H H1) (har : arrs R = true) (q : ∀ H2, RsL (ShL P w K im mv pr) im A pr ps (p :: fb) H n (stepR im s (adv f0) r R) H2 → T9 P w K D (stS A p v R.word x5 x6) H2) : T8 P w K D (stS A p v R.word x5 x6) H1 := by
  have hp : isPr R = false := by cases R <;> first | rfl | cases har
  have hwd : inV (V.str R.word) [.str "read", .str "write"] = true := by cases R <;> first | exact in2a _ _ | exact in2b _ _ | cases har
  refine ⟨_, rfl, (by show 2 ≤ sizeLine; decide), fun pt hpt => ⟨_, _, rfl, .inr (.inl (.inl upd_same)), rfl, rfl, _, rfl, ifT hwd ?_⟩⟩
  have S2 := S.same (same_new (o := .tup [.str "read", .str "write"]) hpt)
  generalize upd H1 pt (.tup [.str "read", .str "write"]) = H2 at S2 ⊢
  exact ⟨_, rfl, _, rfl, _, rfl, im, mv, pr, A, p, fb, s, f0, r, R, n, v, rfl, ⟨S2.hv, S2.row, S2.nle, S2.hm⟩, har, (S2.post hp).imp q⟩
end
end K18

set_option maxHeartbeats 1000000
namespace K18
open PySem PySem.Spec PyProof.Rows L2 HG P18
section
variable {P : Program} {w : World} {K : PySem.W.Frag} {im : Im} {mv : V} {pr : Addr} {A : Ad} {p : Addr × Addr} {fb : List (Addr × Addr)} {s : Ms} {f0 : Fm} {r : List Fm} {R : Rw} {n : Nat} {ps : List Nat} {v : V} {H H1 H2 : Hp} {D : Ends} {wd : Str} {x5 x6 : Option V}
abbrev ccKV (x y : V) : List (Key × V) := [(Sum.inr "const", x), (Sum.inr "copy", y)]
theorem cc_nd {x y : V} : ((ccKV x y).map (·.1)).Nodup := show ([Sum.inr "const", Sum.inr "copy"] : List Key).Nodup by decide +kernel
theorem cc_same {p3 : Addr} {o u : HO} (h : H1 p3 = none) : Same H1 (upd (upd H1 p3 o) p3 u) := fun b x e => by
  rw [upd_ne (ne_of_none e h), upd_ne (ne_of_none e h)]
  exact e
theorem KT.same {H H' : Hp} (s : Same H H') : KT H H' := KT.of s
theorem hd_same (h : HdL P w K H1 p.2 f0.h n) (s2 : Same H1 H2) : HdL P w K H2 p.2 f0.h n := by
  obtain ⟨kv, e1, e2, e3⟩ := h
  refine ⟨kv, ?_, e2, fun s hs => ?_⟩
  · rcases e1 with e | ⟨ks, e, ek⟩
    · exact .inl (s2 _ _ e)
    · exact .inr ⟨ks, s2 _ _ e, ek⟩
  · obtain ⟨v, g1, g2⟩ := e3 s hs
    exact ⟨v, g1, dp_mono s2 _ _ g2⟩
theorem noL_get : ∀ {ds : List PyData} {i : Nat} {d : PyData}, noLAll ds = true → ds[i]? = some d → noL d = true
  | [], _, _, _, h => by cases h
  | _ :: _, 0, _, h, e => by
    cases e
    simp only [noLAll, Bool.and_eq_true] at h
    exact h.1
  | _ :: _, i + 1, _, h, e => by
    simp only [noLAll, Bool.and_eq_true] at h
    exact noL_get h.2 e
theorem nlix {d : PyData} {i : Nat} (h : (PyData.str R.word :: R.ps)[i]? = some d) : noL d = true := noL_get (show noLAll _ = true from nlR R) h
abbrev dsp (P : Program) (w : World) (K : PySem.W.Frag) : TE := tDGet1 (tDisp [(tC (V.str "const"), IX K 2), (tC (V.str "copy"), tIf (isW "copy") (tNGet1 P w (tVar 3) (IX K 2)) (tC (V.int 0)))]) (tVar 4)
theorem dsp_const {d : PyData} {Q : VK} (S : StepS P w K im mv pr A p fb s f0 r R n ps v H H1) (h2 : (PyData.str R.word :: R.ps)[2]? = some d) (q : ∀ H2 z, Same H1 H2 → Dp K H2 z d → Q z H2) : dsp P w K (stS A p v "const" x5 x6) H1 Q := by
  intro p3 hp3
  have S2 := S.same (same_new (o := .dK []) hp3)
  refine ⟨_, rfl, _, 2, _, S2.hv, rfl, h2, fun z hz => ?_⟩
  refine ⟨_, rfl, rfl, _, rfl, ifF (sne (show ("const" : Str) ≠ "copy" by decide +kernel)) ⟨upd_same, ccKV z (.int 0), rfl, by show 2 ≤ 15; decide, ?_⟩⟩
  rw [mergeK_nd cc_nd]
  refine ⟨p3, rfl, .inl ⟨_, .inl upd_same⟩, _, rfl, some z, .inl ⟨_, Sum.inr "const", .inl upd_same, rfl, by rw [valV_pos rfl]⟩, q _ z (cc_same hp3) ?_⟩
  exact dp_kt (KT.put (by rw [upd_same]; exact True.intro)) _ _ (nlix h2) hz
theorem dsp_copy {t u : Nat} {Q : VK} (S : StepS P w K im mv pr A p fb s f0 r (.cp t u) n ps v H H1) (hu : u < 10) (q : ∀ H2 z, Same H1 H2 → Dp K H2 z (f0.h u).D → Q z H2) : dsp P w K (stS A p v "copy" x5 x6) H1 Q := by
  intro p3 hp3
  have S2 := S.same (same_new (o := .dK []) hp3)
  obtain ⟨cv, hp1, hcv, kvs, g1, g2, g3⟩ := topL_at S2.hm
  obtain ⟨y, e1, dy⟩ := g3 u hu
  refine ⟨_, rfl, _, 2, _, S2.hv, rfl, rfl, fun z hz => ?_⟩
  refine ⟨_, rfl, rfl, _, rfl, ifT (seq "copy") ⟨_, rfl, p.2, kvs, rfl, g1, _, rfl, _, 2, _, S2.hv, rfl, rfl, fun z2 hz2 => ?_⟩⟩
  cases hz2
  refine ⟨kvs, some (Sum.inl (u : Int)), rfl, g1, ?_⟩
  rw [e1]
  refine ⟨upd_same, ccKV z y, rfl, by show 2 ≤ 15; decide, ?_⟩
  rw [mergeK_nd cc_nd]
  refine ⟨p3, rfl, .inl ⟨_, .inl upd_same⟩, _, rfl, some y, .inl ⟨_, Sum.inr "copy", .inl upd_same, rfl, by rw [valV_neg (k_ne (by decide +kernel)), valV_pos rfl]⟩, q _ y (cc_same hp3) ?_⟩
  exact dp_kt (KT.put (by rw [upd_same]; exact True.intro)) _ _ (nlW _) dy
theorem dsp_load {d : PyData} {Q : VK} (S : StepS P w K im mv pr A p fb s f0 r R n ps v H H1) (h2 : (PyData.str R.word :: R.ps)[2]? = some d) (q : ∀ H2, Same H1 H2 → Q .non H2) : dsp P w K (stS A p v "load" x5 x6) H1 Q := by
  intro p3 hp3
  have S2 := S.same (same_new (o := .dK []) hp3)
  refine ⟨_, rfl, _, 2, _, S2.hv, rfl, h2, fun z hz => ?_⟩
  refine ⟨_, rfl, rfl, _, rfl, ifF (sne (show ("load" : Str) ≠ "copy" by decide +kernel)) ⟨upd_same, ccKV z (.int 0), rfl, by show 2 ≤ 15; decide, ?_⟩⟩
  rw [mergeK_nd cc_nd]
  exact ⟨p3, rfl, .inl ⟨_, .inl upd_same⟩, _, rfl, none, .inl ⟨_, Sum.inr "load", .inl upd_same, rfl, by rw [valV_neg (k_ne (by decide +kernel)), valV_neg (k_ne (by decide +kernel))]; rfl⟩, q _ (cc_same hp3)⟩
/-- a slot is set -/
theorem putL {t : Nat} {y : Wv} {tv : TE} (S : StepS P w K im mv pr A p fb s f0 r R n ps v H H1) (hpR : isPr R = false) (h1 : (PyData.str R.word :: R.ps)[1]? = some (nD t)) (hq : stepR im s (adv f0) r R = .go { s with fr := { adv f0 with h := hput f0.h t y } :: r } none)
    (htv : ∀ Q : VK, (∀ H2 z, Same H1 H2 → Dp K H2 z y.D → Q z H2) → tv (stS A p v wd x5 x6) H1 Q) (q : ∀ H2, RsL (ShL P w K im mv pr) im A pr ps (p :: fb) H n (stepR im s (adv f0) r R) H2 → D.nx (stS A p v wd x5 x6) H2) : sNPut P w (tVar 3) (IX K 1) tv D (stS A p v wd x5 x6) H1 := by
  refine htv _ fun H2 z s2 hz => ?_
  have S2 := S.same s2
  obtain ⟨cv, hp1, hcv, kvs, g1, g2, g3⟩ := topL_at S2.hm
  refine ⟨_, rfl, _, rfl, _, 1, _, S2.hv, rfl, h1, fun z1 hz1 => ?_⟩
  cases hz1
  have hn := S.nle
  refine ⟨p.2, kvs, some (Sum.inl (t : Int)), rfl, rfl, g1, small_line (by omega), q _ ?_⟩
  have zz := S2.hm.putSl (kvs := putK kvs (some (Sum.inl (t : Int))) z) (by have := length_putK kvs (some (Sum.inl (t : Int))) z; omega) (sl_put (fun s hs _ => g3 s hs) hz)
  have R0 := S2.post hpR
  rw [hq] at R0 ⊢
  exact R0 _ _ zz.2 zz.1
theorem cc_word {a : Str} (h : a ∈ (["const", "copy", "load"] : List Str)) : inV (V.str a) [.str "const", .str "copy", .str "load"] = true := by
  simp only [List.mem_cons, List.not_mem_nil, or_false] at h
  rcases h with rfl | rfl | rfl
  · exact in3a _ _ _
  · exact in3b _ _ _
  · exact in3c _ _ _
theorem ac_cw {t m : Nat} (S : StepS P w K im mv pr A p fb s f0 r (.cw t m) n ps v H H1) (q : ∀ H2, RsL (ShL P w K im mv pr) im A pr ps (p :: fb) H n (stepR im s (adv f0) r (.cw t m)) H2 → T7 P w K D (stS A p v "const" x5 x6) H2) : T6 P w K D (stS A p v "const" x5 x6) H1 := by
  refine ⟨_, rfl, (by show 3 ≤ sizeLine; decide), fun pt hpt => ⟨_, _, rfl, .inr (.inl (.inl upd_same)), rfl, rfl, _, rfl, ifT (in3a _ _ _) ?_⟩⟩
  have S2 := S.same (same_new (o := .tup [.str "const", .str "copy", .str "load"]) hpt)
  generalize upd H1 pt (.tup [.str "const", .str "copy", .str "load"]) = H2 at S2 ⊢
  exact putL (y := .w m) S2 rfl rfl rfl (fun Q k => dsp_const S2 rfl k) q
theorem ac_cf {t k : Nat} (S : StepS P w K im mv pr A p fb s f0 r (.cf t k) n ps v H H1) (q : ∀ H2, RsL (ShL P w K im mv pr) im A pr ps (p :: fb) H n (stepR im s (adv f0) r (.cf t k)) H2 → T7 P w K D (stS A p v "const" x5 x6) H2) : T6 P w K D (stS A p v "const" x5 x6) H1 := by
  refine ⟨_, rfl, (by show 3 ≤ sizeLine; decide), fun pt hpt => ⟨_, _, rfl, .inr (.inl (.inl upd_same)), rfl, rfl, _, rfl, ifT (in3a _ _ _) ?_⟩⟩
  have S2 := S.same (same_new (o := .tup [.str "const", .str "copy", .str "load"]) hpt)
  generalize upd H1 pt (.tup [.str "const", .str "copy", .str "load"]) = H2 at S2 ⊢
  exact putL (y := .f k) S2 rfl rfl rfl (fun Q k => dsp_const S2 rfl k) q
theorem ac_cp {t u : Nat} (S : StepS P w K im mv pr A p fb s f0 r (.cp t u) n ps v H H1) (q : ∀ H2, RsL (ShL P w K im mv pr) im A pr ps (p :: fb) H n (stepR im s (adv f0) r (.cp t u)) H2 → T7 P w K D (stS A p v "copy" x5 x6) H2) : T6 P w K D (stS A p v "copy" x5 x6) H1 := by
  obtain ⟨cd, _, _, hh, hrw, hto⟩ := S.row.cd
  have hu10 : u < 10 := by
    rcases hrw.2.2 with ⟨_, h⟩ | ⟨_, rfl⟩
    · omega
    · decide
  refine ⟨_, rfl, (by show 3 ≤ sizeLine; decide), fun pt hpt => ⟨_, _, rfl, .inr (.inl (.inl upd_same)), rfl, rfl, _, rfl, ifT (in3b _ _ _) ?_⟩⟩
  have S2 := S.same (same_new (o := .tup [.str "const", .str "copy", .str "load"]) hpt)
  generalize upd H1 pt (.tup [.str "const", .str "copy", .str "load"]) = H2 at S2 ⊢
  exact putL (y := f0.h u) S2 rfl rfl rfl (fun Q k => dsp_copy S2 hu10 k) q
theorem len_put2 {kvs : List (OKey × V)} {k : OKey} {x z : V} : (putK (putK kvs k x) k z).length = (putK kvs k x).length := by
  have e : ((putK kvs k x).any fun kv => decide (kv.1 = k)) = true := by rw [valV_any, valV_put, if_pos rfl]; rfl
  rw [show putK (putK kvs k x) k z = (putK kvs k x).map (fun kv => if kv.1 = k then (kv.1, z) else kv) from if_pos e, List.length_map]
theorem ac_ld {t c : Nat} (S : StepS P w K im mv pr A p fb s f0 r (.ld t c) n ps v H H1) (q : ∀ H2, RsL (ShL P w K im mv pr) im A pr ps (p :: fb) H n (stepR im s (adv f0) r (.ld t c)) H2 → T8 P w K D (stS A p v "load" x5 x6) H2) : T6 P w K D (stS A p v "load" x5 x6) H1 := by
  obtain ⟨cd, _, _, hh, hrw, hto⟩ := S.row.cd
  have hcc : c = 0 ∨ c = 1 := by rcases hrw.2.2 with ⟨_, h⟩ | ⟨_, h⟩ <;> omega
  have hn := S.nle
  refine ⟨_, rfl, (by show 3 ≤ sizeLine; decide), fun pt hpt => ⟨_, _, rfl, .inr (.inl (.inl upd_same)), rfl, rfl, _, rfl, ifT (in3c _ _ _) ?_⟩⟩
  have S2 := S.same (same_new (o := .tup [.str "const", .str "copy", .str "load"]) hpt)
  generalize upd H1 pt (.tup [.str "const", .str "copy", .str "load"]) = H2 at S2 ⊢
  refine dsp_load S2 rfl fun H3 s3 => ?_
  have S3 := S2.same s3
  obtain ⟨cv, hp1, hcv, kvs, g1, g2, g3⟩ := topL_at S3.hm
  refine ⟨_, rfl, _, rfl, _, 1, _, S3.hv, rfl, rfl, fun z1 hz1 => ?_⟩
  cases hz1
  refine ⟨p.2, kvs, some (Sum.inl (t : Int)), rfl, rfl, g1, small_line (by omega), ?_⟩
  -- now the global
  have htop := S3.hm.bs.top
  obtain ⟨v0, v1, c1, c2, c3⟩ := S3.hm.bs.ce
  have hmu : Mut (H3 p.2) := nk_mut g1
  have n2 : ∀ a ∈ A.base, a ≠ p.2 := fun a ha z => (nd_cons.mp S3.hm.nd).2.2.1 (by rw [← z]; exact in_base ha)
  have k := KT.put (o := nkO P w (putK kvs (some (Sum.inl (t : Int))) .non) p.2) hmu
  have hv4 := dp_kt k _ _ (nlR _) S3.hv
  have htop4 : (upd H3 p.2 (nkO P w (putK kvs (some (Sum.inl (t : Int))) .non) p.2)) A.top = some (McO mv pr A .non) := by rw [upd_ne (n2 _ (by simp))]; exact htop
  have hce4 : (upd H3 p.2 (nkO P w (putK kvs (some (Sum.inl (t : Int))) .non) p.2)) A.ce = some (.lst [v0, v1]) := by rw [upd_ne (n2 _ (by simp))]; exact c1
  have fin : ∀ z : V, Dp K H3 z (if c = 0 then s.c0 else s.c1).D → T8 P w K D (stS A p v "load" x5 x6) (upd (upd H3 p.2 (nkO P w (putK kvs (some (Sum.inl (t : Int))) .non) p.2)) p.2 (nkO P w (putK (putK kvs (some (Sum.inl (t : Int))) .non) (some (Sum.inl (t : Int))) z) p.2)) := fun z hz => by
    rw [upd_upd]
    have zz := S3.hm.putSl (kvs := putK (putK kvs (some (Sum.inl (t : Int))) .non) (some (Sum.inl (t : Int))) z) (by rw [len_put2]; have := length_putK kvs (some (Sum.inl (t : Int))) .non; omega)
      (sl_put (y := if c = 0 then s.c0 else s.c1) (fun x hx ne => by
        obtain ⟨y, e1, e2⟩ := g3 x hx
        exact ⟨y, by rw [valV_put, if_neg (fun q => ne (kI_inj (Option.some.inj q)))]; exact e1, e2⟩) hz)
    exact q _ ((S3.post rfl) _ _ zz.2 zz.1)
  have hlen : (putK kvs (some (Sum.inl (t : Int))) V.non).length < sizeLine := small_line (by have := length_putK kvs (some (Sum.inl (t : Int))) .non; omega)
  refine ⟨_, rfl, rfl, _, rfl, ifT (seq "load") ⟨_, rfl, A.top, .ref A.ce, rfl, mc_cells htop4, _, rfl, _, 2, _, hv4, rfl, rfl, fun z hz => ?_⟩⟩
  cases hz
  rcases hcc with rfl | rfl
  · refine ⟨A.ce, _, ((0 : Nat) : Int), v0, rfl, rfl, .inl (.inl hce4), rfl, _, rfl, _, rfl, _, 1, _, hv4, rfl, rfl, fun z hz => ?_⟩
    cases hz
    exact ⟨p.2, _, some (Sum.inl (t : Int)), rfl, rfl, .inl upd_same, hlen, fin v0 c2⟩
  · refine ⟨A.ce, _, ((1 : Nat) : Int), v1, rfl, rfl, .inl (.inl hce4), rfl, _, rfl, _, rfl, _, 1, _, hv4, rfl, rfl, fun z hz => ?_⟩
    cases hz
    exact ⟨p.2, _, some (Sum.inl (t : Int)), rfl, rfl, .inl upd_same, hlen, fin v1 c3⟩
end
end K18

set_option maxHeartbeats 1000000
namespace K18
open PySem PySem.Spec PyProof.Rows L2 HG P18
section
variable {P : Program} {w : World} {K : PySem.W.Frag} {im : Im} {mv : V} {pr : Addr} {A : Ad} {p : Addr × Addr} {fb : List (Addr × Addr)} {s : Ms} {f0 : Fm} {r : List Fm} {R : Rw} {n : Nat} {ps : List Nat} {v : V} {H H1 H2 : Hp} {D : Ends} {wd : Str} {x5 x6 : Option V}
theorem upd_self {H : Hp} {a : Addr} {o : HO} (h : H a = some o) : upd H a o = H := by
  funext x
  by_cases e : x = a
  · subst e; rw [upd_same, h]
  · exact upd_ne e
theorem ac_op {t : Nat} {x : Str} {a b : Op} (S : StepS P w K im mv pr A p fb s f0 r (.op t x a b) n ps v H H1) (q : ∀ H2, RsL (ShL P w K im mv pr) im A pr ps (p :: fb) H n (stepR im s (adv f0) r (.op t x a b)) H2 → D.nx (stS A p v "op" x5 x6) H2) : T9 P w K D (stS A p v "op" x5 x6) H1 := by
  obtain ⟨cv, hp1, hcv, hhd⟩ := topL_at S.hm
  obtain ⟨cd, _, _, hh, ⟨_, _, _, hx8, hoa, hob⟩, _⟩ := S.row.cd
  have hn := S.nle
  refine ⟨_, rfl, rfl, _, rfl, ifT (seq "op") ⟨_, rfl, _, 2, _, S.hv, rfl, rfl, fun z hz => ?_⟩⟩
  cases hz
  refine ⟨_, rfl, _, rfl, _, 3, _, S.hv, rfl, rfl, fun z hz => ⟨p.1, p.2, cv, optV f0.t, z, _, n, f0.h, a, rfl, hp1, hhd, hz, opOk_lt hoa, fun y hy => ?_⟩⟩
  obtain ⟨na, rfl, ea, hna⟩ := wv_op hh hoa hy
  refine ⟨_, rfl, _, rfl, _, 4, _, S.hv, rfl, rfl, fun z hz => ⟨p.1, p.2, cv, optV f0.t, z, _, n, f0.h, b, rfl, hp1, hhd, hz, opOk_lt hob, fun y hy => ?_⟩⟩
  obtain ⟨nb, rfl, eb, hnb⟩ := wv_op hh hob hy
  refine ⟨x, na, nb, rfl, hx8, hna, hnb, fun H2 s2 => ?_⟩
  have S2 := S.same s2
  clear hp1 hcv hhd
  obtain ⟨cv, hp1, hcv, kvs, g1, g2, g3⟩ := topL_at S2.hm
  have htop := S2.hm.bs.top
  refine ⟨_, rfl, _, rfl, _, 1, _, S2.hv, rfl, rfl, fun z1 hz1 => ?_⟩
  cases hz1
  refine ⟨p.2, kvs, some (Sum.inl (t : Int)), rfl, rfl, g1, small_line (by omega), ?_⟩
  have hmu : Mut (H2 p.2) := nk_mut g1
  have n2 : ∀ a ∈ A.base, a ≠ p.2 := fun a ha z => (nd_cons.mp S2.hm.nd).2.2.1 (by rw [← z]; exact in_base ha)
  have eq : stepR im s (adv f0) r (.op t x a b) = (match comp x (worth f0.h a).n (worth f0.h b).n with | none => Out.stop (.trap "zero") | some n => .go { s with fr := { adv f0 with h := hput f0.h t (.w n) } :: r } none) := rfl
  rw [ea, eb] at eq
  have R0 := S2.post rfl
  have eq : stepR im s (adv f0) r (.op t x a b) = (match comp x na nb with | none => Out.stop (.trap "zero") | some n => .go { s with fr := { adv f0 with h := hput f0.h t (.w n) } :: r } none) := eq
  rw [eq] at R0 q
  generalize comp x na nb = cr at R0 q ⊢
  have k := KT.put (o := nkO P w (putK kvs (some (Sum.inl (t : Int))) (optV cr)) p.2) hmu
  have hv4 := dp_kt k _ _ (nlR _) S2.hv
  have htop4 : (upd H2 p.2 (nkO P w (putK kvs (some (Sum.inl (t : Int))) (optV cr)) p.2)) A.top = some (McO mv pr A .non) := by rw [upd_ne (n2 _ (by simp))]; exact htop
  refine ⟨_, rfl, _, rfl, _, 1, _, hv4, rfl, rfl, fun z1 hz1 => ?_⟩
  cases hz1
  refine ⟨p.2, _, some (Sum.inl (t : Int)), optV cr, rfl, rfl, .inl upd_same, by rw [valV_put, if_pos rfl], rfl, _, rfl, ?_⟩
  have m4 : Mv (allA (ShL P w K im mv pr) A (p :: fb)) H2 (allA (ShL P w K im mv pr) A (p :: fb)) (upd H2 p.2 (nkO P w (putK kvs (some (Sum.inl (t : Int))) (optV cr)) p.2)) := Mv.put (in_fa2 List.mem_cons_self) hmu
  cases cr with
  | none =>
    refine ifT rfl ⟨(by show 2 ≤ sizeLine; decide), fun pt hpt => ⟨_, rfl, A.top, _, rfl, mc_dput (upd_get hpt htop4), q _ ?_⟩⟩
    have s5 := same_new (o := .tup [.str "trap", .str "zero"]) hpt
    have g5 := dp_tupN (K := K) hpt (.cons (.str "trap") (.cons (.str "zero") .nil))
    have hmt : Mut ((upd (upd H2 p.2 (nkO P w (putK kvs (some (Sum.inl (t : Int))) (optV none)) p.2)) pt (.tup [.str "trap", .str "zero"])) A.top) := by rw [upd_get hpt htop4]; exact True.intro
    exact R0 _ (p :: fb) (.ref pt) (m4.trans ((Mv.of s5).trans (Mv.put (in_base (by simp)) hmt))) upd_same (dp_kt (KT.put hmt) _ _ rfl g5)
  | some m =>
    refine ifF rfl ⟨_, rfl, A.top, _, rfl, mc_dput htop4, ?_⟩
    rw [upd_self htop4]
    have zz := S2.hm.putSl (kvs := putK kvs (some (Sum.inl (t : Int))) (optV (some m))) (by have := length_putK kvs (some (Sum.inl (t : Int))) (optV (some m)); omega) (sl_put (y := .w m) (fun s hs _ => g3 s hs) (.int (m : Int)))
    exact q _ (R0 _ _ zz.2 zz.1)
theorem goSt0 {Q : VK} (S : StepS P w K im mv pr A p fb s f0 r R n ps v H H1) (hD : ∀ σ H', D.nx σ H' = Q .non H') (q : ∀ H2, RsL (ShL P w K im mv pr) im A pr ps (p :: fb) H n (stepR im s (adv f0) r R) H2 → Q .non H2) : T0 P w K D (stS A p v R.word x5 x6) H1 := by
  have q : ∀ {σ : L2.St} (H2 : Hp), RsL (ShL P w K im mv pr) im A pr ps (p :: fb) H n (stepR im s (adv f0) r R) H2 → D.nx σ H2 := fun {σ} H2 r1 => by rw [hD]; exact q H2 r1
  cases R with
  | pr a => have S2 := S; exact ac_pr S2 fun H3 r1 => tl1 (wd := "print") rfl (by decide +kernel) fun H4 s4 => q _ (r1.same s4)
  | ca t k as => exact hd1 (wd := "call") rfl (by decide +kernel) fun H2 s2 => have S2 := S.same s2; ac_ca S2 fun x H3 r1 => tl2 (wd := "call") rfl (by decide +kernel) fun H4 s4 => q _ (r1.same s4)
  | ap t u a => exact hd1 (wd := "apply") rfl (by decide +kernel) fun H2 s2 => have S2 := S.same s2; ac_ap S2 fun x H3 r1 => tl2 (wd := "apply") rfl (by decide +kernel) fun H4 s4 => q _ (r1.same s4)
  | rt a => exact hd2 (wd := "return") rfl (by decide +kernel) fun H2 s2 => have S2 := S.same s2; ac_rt S2 fun H3 r1 => tl3 (wd := "return") rfl (by decide +kernel) fun H4 s4 => q _ (r1.same s4)
  | ha m => exact hd3 (wd := "halt") rfl (by decide +kernel) fun H2 s2 => have S2 := S.same s2; ac_ha S2 fun H3 r1 => tl4 (wd := "halt") rfl (by decide +kernel) fun H4 s4 => q _ (r1.same s4)
  | jp m => exact hd4 (wd := "jump") rfl (by decide +kernel) fun H2 s2 => have S2 := S.same s2; ac_jp S2 fun H3 r1 => tl5 (wd := "jump") rfl (by decide +kernel) fun H4 s4 => q _ (r1.same s4)
  | br a m => exact hd4 (wd := "branch") rfl (by decide +kernel) fun H2 s2 => have S2 := S.same s2; ac_br S2 fun H3 r1 => tl5 (wd := "branch") rfl (by decide +kernel) fun H4 s4 => q _ (r1.same s4)
  | un u m => exact hd4 (wd := "unless") rfl (by decide +kernel) fun H2 s2 => have S2 := S.same s2; ac_un S2 fun H3 r1 => tl5 (wd := "unless") rfl (by decide +kernel) fun H4 s4 => q _ (r1.same s4)
  | st c a => exact hd5 (wd := "store") rfl (by decide +kernel) fun H2 s2 => have S2 := S.same s2; ac_st S2 fun H3 r1 => tl6 (wd := "store") rfl (by decide +kernel) fun H4 s4 => q _ (r1.same s4)
  | cw t m => exact hd6 (wd := "const") rfl (by decide +kernel) fun H2 s2 => have S2 := S.same s2; ac_cw S2 fun H3 r1 => tl7 (wd := "const") rfl (by decide +kernel) fun H4 s4 => q _ (r1.same s4)
  | cf t k => exact hd6 (wd := "const") rfl (by decide +kernel) fun H2 s2 => have S2 := S.same s2; ac_cf S2 fun H3 r1 => tl7 (wd := "const") rfl (by decide +kernel) fun H4 s4 => q _ (r1.same s4)
  | cp t u => exact hd6 (wd := "copy") rfl (by decide +kernel) fun H2 s2 => have S2 := S.same s2; ac_cp S2 fun H3 r1 => tl7 (wd := "copy") rfl (by decide +kernel) fun H4 s4 => q _ (r1.same s4)
  | ld t c => exact hd6 (wd := "load") rfl (by decide +kernel) fun H2 s2 => have S2 := S.same s2; ac_ld S2 fun H3 r1 => tl8 (wd := "load") rfl (by decide +kernel) fun H4 s4 => q _ (r1.same s4)
  | rd t c a => exact hd8 (wd := "read") rfl (by decide +kernel) fun H2 s2 => have S2 := S.same s2; ac_ar S2 rfl fun H3 r1 => tl9 (wd := "read") rfl (by decide +kernel) fun H4 s4 => q _ (r1.same s4)
  | wr c a b => exact hd8 (wd := "write") rfl (by decide +kernel) fun H2 s2 => have S2 := S.same s2; ac_ar S2 rfl fun H3 r1 => tl9 (wd := "write") rfl (by decide +kernel) fun H4 s4 => q _ (r1.same s4)
  | op t x a b => exact hd9 (wd := "op") rfl (by decide +kernel) fun H2 s2 => have S2 := S.same s2; ac_op S2 fun H3 r1 => q _ r1
end
def spStepL (P : Program) (w : World) (K : PySem.W.Frag) : Sp := fun vs H Q _ => ∃ (im : Im) (cv : V) (pr : Addr) (A : Ad) (fa : List (Addr × Addr)) (s : Ms) (n : Nat) (ps : List Nat), vs = [.ref A.top] ∧ ImOk im ∧ MsOk im s ∧ n ≤ 100000 ∧ MsH (ShL P w K im cv pr) im H A fa s .non n ∧
  H pr = some (.lst (ps.map nV)) ∧ pr ∉ allA (ShL P w K im cv pr) A fa ∧ ps.length ≤ n ∧ ∀ H2, RsL (ShL P w K im cv pr) im A pr ps fa H n (P18.step im s) H2 → Q .non H2
section
variable {P : Program} {w : World} {K : PySem.W.Frag} {mg : Str → Option Value} {base : Heap}
set_option pp.maxSteps 600 in
theorem c_step (T : Txt w K mg) : Cal P w K mg base "_law_step" 4 ["_law_machine"] (spStepL P w K) := by
  obtain ⟨fd, F⟩ := T.d__law_step
  have C__law_entered := c_entered (P := P) (w := w) (base := base) T
  have C__law_left := c_left (P := P) (w := w) (base := base) T
  have C__law_worth := c_worth (P := P) (w := w) (base := base) T
  have C__law_array := c_array (P := P) (w := w) (base := base) T
  have C__law_computed := c_law_computed (P := P) (w := w) (base := base) T
  refine ⟨⟨fd, F.ok sc__law_step (fun vs H Q E h => by repeat (first | (obtain ⟨e, _⟩ := h; subst e; rfl) | (obtain ⟨_, h⟩ := h))) (fun cdv A outer s H vs Q E hr h => ?_), F.bindsN fun _ _ _ _ _ _ us hl => match us, hl with | [_], _ => rfl⟩, T.g _ (by decide), F.kp⟩
  obtain ⟨im, mv, pr, A, fa, s, n, ps, rfl, hI, hok, hn, hm, hpr, npr, hpl, q⟩ := h
  have hu := hu_of hr
  refine ⟨_, PSs.nox (pss_cons (ps_set (i := 1) sc__law_step.nd rfl (.inr rfl) (pe_ix (ix_listK (K := K) rfl) (pe_dget hu (pv 0) pe_str (fun _ _ => rfl)) (pe_un un_neg pe_int) (fun _ _ => rfl)))
      (pss_cons (ps_par (i := 2) (j := 3) rfl sc__law_step.nd rfl rfl (by decide) rfl rfl (pa_cons (pe_ix (ix_P (K := K) rfl) (pe_ix (ix_listK (K := K) rfl) (pv 1) pe_int (fun _ _ => rfl)) (pe_ix (ix_listK (K := K) rfl) (pv 1) pe_int (fun _ _ => rfl)) (fun _ _ => rfl)) (pa_cons (pe_ix (ix_listK (K := K) rfl) (pv 1) pe_int (fun _ _ => rfl)) pa_nil)) (by rfl))
      (pss_cons (ps_asg (pe_tup (pa_cons (pe_ix (ix_P (K := K) rfl) (pv 2) pe_int (fun _ _ => rfl)) (pa_cons (pe_op op_add (pe_ix (ix_listK (K := K) rfl) (pv 1) pe_int (fun _ _ => rfl)) pe_int) pa_nil))) (pg_tupK (K := K) (n := 2) rfl rfl (pgs_cons (pg_name (i := 4) sc__law_step.nd rfl (.inl rfl)) (pgs_cons (pg_sub (pv 1) pe_int set_list) pgs_nil))))
      (pss_cons (ps_if (pt_cmpR op_eq (pv 4) pe_str (nomark _)) (pss_one (ps_expr (pe_bm PySem.F.plainAttrs_list PySem.F.slot_list_append PySem.F.type_list_append mt_append (pe_dget hu (pv 0) pe_str (fun _ _ => rfl)) (pa_cons (pe_cal C__law_worth (hr.mono (by omega)) (by rfl) (pa_cons (pv 1) (pa_cons (pe_ix (ix_P (K := K) rfl) (pv 2) pe_int (fun _ _ => rfl)) pa_nil))) pa_nil)))) pss_nil)
      (pss_cons (ps_if (pt_cmpR (op_in_seqK (K := K) rfl) (pv 4) (pe_tup (pa_cons pe_str (pa_cons pe_str pa_nil))) (by rfl)) (pss_cons (ps_set (i := 5) sc__law_step.nd rfl (.inl rfl) (pe_ifExp (pt_cmpR op_eq (pv 4) pe_str (nomark _)) (pe_ix (ix_P (K := K) rfl) (pv 2) pe_int (fun _ _ => rfl)) (pe_ix (ix_P (K := K) rfl) (pe_nget rfl rfl (pv 3) (pe_ix (ix_P (K := K) rfl) (pv 2) pe_int (fun _ _ => rfl)) (fun _ _ => rfl)) pe_int (fun _ _ => rfl))))
      (pss_one (ps_expr (pe_cal C__law_entered (hr.mono (by omega)) (by rfl) (pa_cons (pv 0) (pa_cons (pv 5) (pa_cons (pe_lc (own := [("_law_part", 6)]) (by rfl) sc__law_step.nd (pi_tup (pe_ix (ix_P (K := K) rfl) (pv 2) pe_int (fun _ _ => rfl))) (blkOk_by (own := [("_law_part", 6)]) (N := N__law_step) (sc := defScope s__law_step) (by decide +kernel)) (fun _ _ _ _ _ => (pg_name (i := 6) sc__law_step.nd rfl (.inl rfl))) (fun _ _ _ _ _ => pts_nil) (fun _ _ _ _ _ => (pe_cal C__law_worth (hr.mono (by omega)) (by rfl) (pa_cons (pv 1) (pa_cons (pv 6) pa_nil))))) (pa_cons (pe_ix (ix_P (K := K) rfl) (pv 2) pe_int (fun _ _ => rfl)) pa_nil)))))))) pss_nil)
      (pss_cons (ps_if (pt_cmpR op_eq (pv 4) pe_str (nomark _)) (pss_one (ps_expr (pe_cal C__law_left (hr.mono (by omega)) (by rfl) (pa_cons (pv 0) (pa_cons (pv 1) (pa_cons (pe_ifExp (pt_cmpR op_isN (pe_ix (ix_P (K := K) rfl) (pv 2) pe_int (fun _ _ => rfl)) pe_non (nomark _)) pe_non (pe_cal C__law_worth (hr.mono (by omega)) (by rfl) (pa_cons (pv 1) (pa_cons (pe_ix (ix_P (K := K) rfl) (pv 2) pe_int (fun _ _ => rfl)) pa_nil)))) pa_nil)))))) pss_nil)
      (pss_cons (ps_if (pt_cmpR op_eq (pv 4) pe_str (nomark _)) (pss_one (ps_dput hu (pv 0) pe_str (pe_tup (pa_cons pe_str (pa_cons (pe_ix (ix_P (K := K) rfl) (pv 2) pe_int (fun _ _ => rfl)) pa_nil))) rfl)) pss_nil)
      (pss_cons (ps_if (PW.pt (pw_or (pt_cmpR op_eq (pv 4) pe_str (nomark _)) (pw_or1 (PW.pt (pw_and (pt_cmpR (op_in_seqK (K := K) rfl) (pv 4) (pe_tup (pa_cons pe_str (pa_cons pe_str pa_nil))) (by rfl)) (pw_and1 (pt_cmpR op_eq (pe_cmpR op_ne (pe_cal C__law_worth (hr.mono (by omega)) (by rfl) (pa_cons (pv 1) (pa_cons (pe_ix (ix_P (K := K) rfl) (pv 2) pe_int (fun _ _ => rfl)) pa_nil))) pe_int (nomark _)) (pe_cmpR op_eq (pv 4) pe_str (nomark _)) (nomark _)))))))) (pss_one (ps_asg (pe_ix (ix_tupK (K := K) rfl) (pv 2) (pe_un un_neg pe_int) (fun _ _ => rfl)) (pg_sub (pv 1) pe_int set_list))) pss_nil)
      (pss_cons (ps_if (pt_cmpR op_eq (pv 4) pe_str (nomark _)) (pss_one (ps_asg (pe_cal C__law_worth (hr.mono (by omega)) (by rfl) (pa_cons (pv 1) (pa_cons (pe_ix (ix_P (K := K) rfl) (pv 2) pe_int (fun _ _ => rfl)) pa_nil))) (pg_sub (pe_dget hu (pv 0) pe_str (fun _ _ => rfl)) (pe_ix (ix_P (K := K) rfl) (pv 2) pe_int (fun _ _ => rfl)) set_list))) pss_nil)
      (pss_cons (ps_if (pt_cmpR (op_in_seqK (K := K) rfl) (pv 4) (pe_tup (pa_cons pe_str (pa_cons pe_str (pa_cons pe_str pa_nil)))) (by rfl)) (pss_one (ps_nput rfl rfl (pv 3) (pe_ix (ix_P (K := K) rfl) (pv 2) pe_int (fun _ _ => rfl)) (pe_dget1 hu (pe_disp (pps_cons pe_str (pe_ix (ix_P (K := K) rfl) (pv 2) pe_int (fun _ _ => rfl)) (pps_cons pe_str (pe_ifExp (pt_cmpR op_eq (pv 4) pe_str (nomark _)) (pe_nget1 rfl rfl (pv 3) (pe_ix (ix_P (K := K) rfl) (pv 2) pe_int (fun _ _ => rfl)) ⟨rfl, rfl, rfl, rfl⟩) pe_int) pps_nil)) (by rfl) (by rfl) (fun z => by cases z) (by decide)) (pv 4) ⟨rfl, rfl, rfl, rfl⟩) rfl)) pss_nil)
      (pss_cons (ps_if (pt_cmpR op_eq (pv 4) pe_str (nomark _)) (pss_one (ps_nput rfl rfl (pv 3) (pe_ix (ix_P (K := K) rfl) (pv 2) pe_int (fun _ _ => rfl)) (pe_ix (ix_listK (K := K) rfl) (pe_dget hu (pv 0) pe_str (fun _ _ => rfl)) (pe_ix (ix_P (K := K) rfl) (pv 2) pe_int (fun _ _ => rfl)) (fun _ _ => rfl)) rfl)) pss_nil)
      (pss_cons (ps_if (pt_cmpR (op_in_seqK (K := K) rfl) (pv 4) (pe_tup (pa_cons pe_str (pa_cons pe_str pa_nil))) (by rfl)) (pss_one (ps_expr (pe_cal C__law_array (hr.mono (by omega)) (by rfl) (pa_cons (pv 0) (pa_cons (pv 1) (pa_cons (pv 2) pa_nil)))))) pss_nil)
      (pss_one (ps_if (pt_cmpR op_eq (pv 4) pe_str (nomark _)) (pss_cons (ps_nput rfl rfl (pv 3) (pe_ix (ix_P (K := K) rfl) (pv 2) pe_int (fun _ _ => rfl)) (pe_cal C__law_computed (hr.mono (by omega)) (by rfl) (pa_cons (pe_ix (ix_P (K := K) rfl) (pv 2) pe_int (fun _ _ => rfl)) (pa_cons (pe_cal C__law_worth (hr.mono (by omega)) (by rfl) (pa_cons (pv 1) (pa_cons (pe_ix (ix_P (K := K) rfl) (pv 2) pe_int (fun _ _ => rfl)) pa_nil))) (pa_cons (pe_cal C__law_worth (hr.mono (by omega)) (by rfl) (pa_cons (pv 1) (pa_cons (pe_ix (ix_P (K := K) rfl) (pv 2) pe_int (fun _ _ => rfl)) pa_nil))) pa_nil)))) rfl)
      (pss_one (ps_dput hu (pv 0) pe_str (pe_ifExp (pt_cmpR op_isN (pe_nget rfl rfl (pv 3) (pe_ix (ix_P (K := K) rfl) (pv 2) pe_int (fun _ _ => rfl)) (fun _ _ => rfl)) pe_non (nomark _)) (pe_tup (pa_cons pe_str (pa_cons pe_str pa_nil))) pe_non) rfl))) pss_nil)))))))))))))), ?_⟩
  obtain ⟨f0, r, efr⟩ : ∃ f0 r, s.fr = f0 :: r := by
    cases e : s.fr with
    | nil => exact absurd e hok.ne
    | cons f r => exact ⟨f, r, rfl⟩
  have hst := hok.fr
  rw [efr] at hst
  obtain ⟨cd, hfm, hto, _⟩ := top_fm hst
  obtain ⟨R, hR⟩ : ∃ R, cd.rows[f0.pc]? = some R := ⟨_, List.getElem?_eq_getElem hfm.pc⟩
  have hra : rowAt im f0.k f0.pc = some R := by
    unfold rowAt
    rw [hfm.code]
    exact hR
  have hrow : Row im s f0 r R := ⟨hI, hok, efr, hra⟩
  have estep : P18.step im s = stepR im s (adv f0) r R := by
    unfold P18.step
    rw [efr]
    show (match rowAt im f0.k f0.pc with | none => Out.stop (.halted 0) | some R => stepR im s (adv f0) r R) = _
    rw [hra]
  rw [estep] at q
  obtain ⟨p, fb, rfl⟩ : ∃ p fb, fa = p :: fb := by
    cases fa with
    | nil => have := (fms_nil hm.fm).mp rfl; rw [efr] at this; cases this
    | cons p fb => exact ⟨p, fb, rfl⟩
  have es : s = { s with fr := f0 :: r } := by rw [← efr]
  have hm0 : MsH (ShL P w K im mv pr) im H A (p :: fb) { s with fr := f0 :: r } .non n := es ▸ hm
  obtain ⟨cv, hp1, hcv, hhd⟩ := topL_at hm0
  have htop := hm0.bs.top
  have hfr : H A.fr = some (.lst ((fb.map fun q => V.ref q.1).reverse ++ [.ref p.1])) := by
    rw [hm0.bs.fr, List.map_cons, List.map_cons, List.reverse_cons, List.map_map]
    rfl
  have hrws : Dp K H cv (.tuple (cd.rows.map Rw.D)) := by
    unfold rowsD at hcv
    rw [hfm.code] at hcv
    exact hcv
  refine ⟨_, rfl, A.top, .ref A.fr, rfl, mc_frames htop, 1, rfl, A.fr, _, -1, .ref p.1, rfl, rfl, .inl (.inl hfr), L2.atI_last _ _, ?_⟩
  refine ⟨_, rfl, p.1, _, 0, cv, rfl, rfl, .inl (.inl hp1), rfl, _, rfl, p.1, _, 1, .int (f0.pc : Int), rfl, rfl, .inl (.inl hp1), rfl, _, f0.pc, R.D, hrws, rfl, by rw [List.getElem?_map, hR]; rfl, fun v hv => ?_⟩
  refine ⟨_, rfl, p.1, _, 2, .ref p.2, rfl, rfl, .inl (.inl hp1), rfl, _, _, rfl, ?_⟩
  refine ⟨_, rfl, _, 0, _, hv, rfl, rfl, fun z hz => ?_⟩
  cases hz
  refine ⟨_, rfl, p.1, _, 1, .int (f0.pc : Int), rfl, rfl, .inl (.inl hp1), rfl, _, _, rfl, rfl, (by show 2 ≤ sizeLine; decide), fun pT hpT => ?_⟩
  have s0 := same_new (o := .tup [.str R.word, .int ((f0.pc : Int) + 1)]) hpT
  refine ⟨pT, _, rfl, .inl (.inl upd_same), rfl, _, _, rfl, _, _, rfl, _, rfl, ?_⟩
  refine ⟨p.1, _, _, 1, rfl, rfl, s0 _ _ hp1, rfl, rfl, ?_⟩
  have hm1 := (hm0.same s0).setPc (pc' := f0.pc + 1) (o' := FlO cv (f0.pc + 1) p.2 (optV f0.t)) rfl (s0 _ _ hp1) True.intro (dp_mono s0 _ _ hcv) rfl
  have m1 : Mv (allA (ShL P w K im mv pr) A (p :: fb)) H (allA (ShL P w K im mv pr) A (p :: fb)) (upd (upd H pT (.tup [.str R.word, .int ((f0.pc : Int) + 1)])) p.1 (FlO cv (f0.pc + 1) p.2 (optV f0.t))) := (Mv.of s0).trans (Mv.put (in_fa1 List.mem_cons_self) (by rw [s0 _ _ hp1]; exact True.intro))
  have hv1 := dp_kt m1.kt _ _ (nlR R) hv
  have S : StepS P w K im mv pr A p fb s f0 r R n ps v H (upd (upd H pT (.tup [.str R.word, .int ((f0.pc : Int) + 1)])) p.1 (FlO cv (f0.pc + 1) p.2 (optV f0.t))) := ⟨hv1, hrow, hn, hm1, hpr, npr, m1, hpl⟩
  exact goSt0 (D := { nx := fun x H' => Q V.non H', rt := Q }) S (fun _ _ => rfl) q
end
end K18

set_option maxHeartbeats 1000000
namespace K18
open PySem PySem.Spec PyProof.Rows L2 HG P18
def spBegL (P : Program) (w : World) (K : PySem.W.Frag) : Sp := fun vs H Q _ => ∃ (im : Im) (vi : V) (k : Nat) (ws : List Nat) (wa : Addr), vs = [vi, nV k, .ref wa] ∧ ImOk im ∧ Dp K H vi im.D ∧ SqT K H wa (ws.map nV) ∧ (∃ cd, im.codes[k]? = some cd) ∧
  ∀ H' cv pr A p, Mv [] H ([pr] ++ allA (ShL P w K im cv pr) A [p]) H' → pr ∉ allA (ShL P w K im cv pr) A [p] → H' pr = some (.lst []) → MsH (ShL P w K im cv pr) im H' A [p] (begun im k ws) .non 1 → Q (.ref A.top) H'
theorem two_dp {K : PySem.W.Frag} {H : Hp} {xs : List V} {d e : PyData} (h : DpAll K H xs [d, e]) : ∃ x y, xs = [x, y] ∧ Dp K H x d ∧ Dp K H y e := by
  cases h with
  | cons h1 t1 =>
  cases t1 with
  | cons h2 t2 =>
  cases t2
  exact ⟨_, _, rfl, h1, h2⟩
/-- the arrays of the law's machine, as they are made -/
def PvB (K : PySem.W.Frag) (HL : Hp) (D : Addr) (l0 : List Nat) (y : PyData) : Nat → Hp → Prop
  | 0, H => H = upd HL D (.lst [])
  | 1, H => ∃ r0, Same HL H ∧ HL r0 = none ∧ r0 ≠ D ∧ H r0 = some (.lst (l0.map nV)) ∧ H D = some (.lst [.ref r0])
  | _, H => ∃ r0 r1 v, Same HL H ∧ HL r0 = none ∧ HL r1 = none ∧ r0 ≠ D ∧ r1 ≠ D ∧ r1 ≠ r0 ∧ H r0 = some (.lst (l0.map nV)) ∧ H r1 = some (.lst [v]) ∧ Dp K H v y ∧ H D = some (.lst [.ref r0, .ref r1])
theorem PvB.same {K : PySem.W.Frag} {HL : Hp} {D : Addr} {l0 : List Nat} {y : PyData} (hD : HL D = none) : ∀ {i : Nat} {H : Hp}, PvB K HL D l0 y i H → Same HL H
  | 0, _, h => by rw [show _ = _ from h]; exact same_new hD
  | 1, _, h => by obtain ⟨_, s, _⟩ := h; exact s
  | _ + 2, _, h => by obtain ⟨_, _, _, s, _⟩ := h; exact s
abbrev mk3 (cv : V) (ce ar : Addr) : List (Key × V) := [(Sum.inr "codes", cv), (Sum.inr "cells", .ref ce), (Sum.inr "arrays", .ref ar)]
theorem mk3_nd {cv : V} {ce ar : Addr} : ((mk3 cv ce ar).map (·.1)).Nodup := show ([Sum.inr "codes", Sum.inr "cells", Sum.inr "arrays"] : List Key).Nodup by decide +kernel
abbrev mk4 (cv : V) (ce ar : Addr) (a : V) : List (Key × V) := [(Sum.inr "codes", cv), (Sum.inr "cells", .ref ce), (Sum.inr "arrays", .ref ar), (Sum.inr "calls", a)]
abbrev mk5 (cv : V) (ce ar : Addr) (a b : V) : List (Key × V) := [(Sum.inr "codes", cv), (Sum.inr "cells", .ref ce), (Sum.inr "arrays", .ref ar), (Sum.inr "calls", a), (Sum.inr "frames", b)]
abbrev mk6 (cv : V) (ce ar : Addr) (a b c : V) : List (Key × V) := [(Sum.inr "codes", cv), (Sum.inr "cells", .ref ce), (Sum.inr "arrays", .ref ar), (Sum.inr "calls", a), (Sum.inr "frames", b), (Sum.inr "end", c)]
abbrev mk7 (cv : V) (ce ar : Addr) (a b c d : V) : List (Key × V) := [(Sum.inr "codes", cv), (Sum.inr "cells", .ref ce), (Sum.inr "arrays", .ref ar), (Sum.inr "calls", a), (Sum.inr "frames", b), (Sum.inr "end", c), (Sum.inr "prints", d)]
theorem mk3_put {cv a b c d : V} {ce ar : Addr} : putK (mk3 cv ce ar) (Sum.inr "calls") a = mk4 cv ce ar a := by rw [putK_neg (k_ne (by decide +kernel)), putK_neg (k_ne (by decide +kernel)), putK_neg (k_ne (by decide +kernel))]; rfl
theorem mk4_put {cv a b c d : V} {ce ar : Addr} : putK (mk4 cv ce ar a) (Sum.inr "frames") b = mk5 cv ce ar a b := by rw [putK_neg (k_ne (by decide +kernel)), putK_neg (k_ne (by decide +kernel)), putK_neg (k_ne (by decide +kernel)), putK_neg (k_ne (by decide +kernel))]; rfl
theorem mk5_put {cv a b c d : V} {ce ar : Addr} : putK (mk5 cv ce ar a b) (Sum.inr "end") c = mk6 cv ce ar a b c := by rw [putK_neg (k_ne (by decide +kernel)), putK_neg (k_ne (by decide +kernel)), putK_neg (k_ne (by decide +kernel)), putK_neg (k_ne (by decide +kernel)), putK_neg (k_ne (by decide +kernel))]; rfl
theorem mk6_put {cv a b c d : V} {ce ar : Addr} : putK (mk6 cv ce ar a b c) (Sum.inr "prints") d = mk7 cv ce ar a b c d := by rw [putK_neg (k_ne (by decide +kernel)), putK_neg (k_ne (by decide +kernel)), putK_neg (k_ne (by decide +kernel)), putK_neg (k_ne (by decide +kernel)), putK_neg (k_ne (by decide +kernel)), putK_neg (k_ne (by decide +kernel))]; rfl
section
variable {P : Program} {w : World} {K : PySem.W.Frag} {mg : Str → Option Value} {base : Heap}
set_option pp.maxSteps 600 in
theorem c_begun (T : Txt w K mg) : Cal P w K mg base "_law_begun" 3 ["_law_image_here", "_law_number", "_law_words"] (spBegL P w K) := by
  obtain ⟨fd, F⟩ := T.d__law_begun
  have C__law_entered := c_entered (P := P) (w := w) (base := base) T
  refine ⟨⟨fd, F.ok sc__law_begun (fun vs H Q E h => by repeat (first | (obtain ⟨e, _⟩ := h; subst e; rfl) | (obtain ⟨_, h⟩ := h))) (fun cdv A outer s H vs Q E hr h => ?_), F.bindsN fun _ _ _ _ _ _ us hl => match us, hl with | [_, _, _], _ => rfl⟩, T.g _ (by decide), F.kp⟩
  obtain ⟨im, vi, k, ws, wa, rfl, hI, hvi, hwa, hcd, q⟩ := h
  have hu := hu_of hr
  refine ⟨_, PSs.nox (pss_cons (ps_asg (pv 0) (pg_tupK (K := K) (n := 5) rfl rfl (pgs_cons (pg_name (i := 3) sc__law_begun.nd rfl (.inl rfl)) (pgs_cons (pg_name (i := 4) sc__law_begun.nd rfl (.inl rfl)) (pgs_cons (pg_name (i := 5) sc__law_begun.nd rfl (.inl rfl)) (pgs_cons (pg_name (i := 6) sc__law_begun.nd rfl (.inl rfl)) (pgs_cons (pg_name (i := 7) sc__law_begun.nd rfl (.inl rfl)) pgs_nil)))))))
      (pss_cons (ps_set (i := 8) sc__law_begun.nd rfl (.inl rfl) (pe_disp (pps_cons pe_str (pv 3) (pps_cons pe_str (pe_lc (own := [("_law_row_here", 9)]) (by rfl) sc__law_begun.nd (pi_tup (pv 4)) (blkOk_by (own := [("_law_row_here", 9)]) (N := N__law_begun) (sc := defScope s__law_begun) (by decide +kernel)) (fun _ _ _ _ _ => (pg_name (i := 9) sc__law_begun.nd rfl (.inl rfl))) (fun _ _ _ _ _ => pts_nil) (fun _ _ _ _ _ => (pe_ix (ix_P (K := K) rfl) (pv 9) pe_int (fun _ _ => rfl)))) (pps_cons pe_str (pe_lc (own := [("_law_row_here", 9)]) (by rfl) sc__law_begun.nd (pi_tup (pv 5)) (blkOk_by (own := [("_law_row_here", 9)]) (N := N__law_begun) (sc := defScope s__law_begun) (by decide +kernel)) (fun _ _ _ _ _ => (pg_name (i := 9) sc__law_begun.nd rfl (.inl rfl))) (fun _ _ _ _ _ => pts_nil) (fun _ _ _ _ _ => (pe_callTy (call_list_ofK (K := K) rfl) (by rfl) T.n_list (by decide +kernel) (pa_cons (pe_ix (ix_P (K := K) rfl) (pv 9) pe_int (fun _ _ => rfl)) pa_nil)))) pps_nil))) (by rfl) (by rfl) (fun z => by cases z) (by decide)))
      (pss_cons (ps_dput hu (pv 8) pe_str (pe_op op_cat (pe_lc (own := [("_law_one", 10)]) (by rfl) sc__law_begun.nd (pi_tup (pv 6)) (blkOk_by (own := [("_law_one", 10)]) (N := N__law_begun) (sc := defScope s__law_begun) (by decide +kernel)) (fun _ _ _ _ _ => (pg_name (i := 10) sc__law_begun.nd rfl (.inl rfl))) (fun _ _ _ _ _ => pts_nil) (fun _ _ _ _ _ => (pe_tup (pa_cons (pv 10) (pa_cons (pe_tup pa_nil) pa_nil))))) (pe_lst (pa_cons (pe_tup (pa_cons (pv 1) (pa_cons (pv 2) pa_nil))) pa_nil))) rfl)
      (pss_cons (ps_asg (pe_tup (pa_cons (pe_lst pa_nil) (pa_cons pe_non (pa_cons (pe_lst pa_nil) pa_nil)))) (pg_tupK (K := K) (n := 3) rfl rfl (pgs_cons (pg_sub (pv 8) pe_str (set_dict hu)) (pgs_cons (pg_sub (pv 8) pe_str (set_dict hu)) (pgs_cons (pg_sub (pv 8) pe_str (set_dict hu)) pgs_nil)))))
      (pss_cons (ps_expr (pe_cal C__law_entered (hr.mono (by omega)) (by rfl) (pa_cons (pv 8) (pa_cons (pe_ix (ix_P (K := K) rfl) (pe_ix (ix_listK (K := K) rfl) (pe_dget hu (pv 8) pe_str (fun _ _ => rfl)) pe_int (fun _ _ => rfl)) pe_int (fun _ _ => rfl)) (pa_cons (pe_ix (ix_P (K := K) rfl) (pe_bm PySem.F.plainAttrs_list PySem.F.slot_list_pop PySem.F.type_list_pop mt_popAt (pe_dget hu (pv 8) pe_str (fun _ _ => rfl)) (pa_cons pe_int pa_nil)) pe_int (fun _ _ => rfl)) (pa_cons pe_non pa_nil))))))
      (pss_one (ps_ret (pv 8)))))))), ?_⟩
  obtain ⟨za, ca, ga, aa, sa, na, cx, gx, ax, sx, nx, rfl, zq, csq, call, gsq, gall, asq, aall, ssq, sall, nsq, nall⟩ := im_parts hvi
  refine ⟨_, rfl, za, _, rfl, zq, rfl, _, _, rfl, _, _, rfl, _, _, rfl, _, _, rfl, _, _, rfl, rfl, ?_⟩
  refine st_eq (σ' := [some (.ref za), some (nV k), some (.ref wa), some (.ref ca), some (.ref ga), some (.ref aa), some (.ref sa), some (.ref na), none, none, none]) rfl ?_
  obtain ⟨x0, x1, rfl, gx0, gx1⟩ := two_dp gall
  obtain ⟨y0, y1, rfl, gy0, gy1⟩ := two_dp aall
  intro pm hpm
  have s0 := same_new (o := .dK []) hpm
  have h0 : (upd H pm (.dK [])) pm = some (.dK []) := upd_same
  generalize upd H pm (.dK []) = H0 at s0 h0 ⊢
  -- cells
  refine ⟨_, rfl, _, rfl, ga, rfl, ⟨_, sqT_same s0 gsq⟩, fun D1 hD1 => ?_⟩
  refine lc_tup (xs := [x0, x1]) (fun i H2 => ∃ us, H2 D1 = some (.lst us) ∧ DpAll K H2 us (([nD im.ga, (Wv.f im.gf).D] : List PyData).take i) ∧ us.length = i ∧ Same H0 H2) ⟨[], upd_same, .nil, rfl, same_new hD1⟩ ?_ ?_ ?_
  · rintro i H2 _ ⟨_, _, _, _, s2⟩
    exact sqT_same (s0.trans s2) gsq
  · rintro i x H2 hi ⟨us, h2, hus, hul, s2⟩
    have nl2 : ∀ i, noLAll (([nD im.ga, (Wv.f im.gf).D] : List PyData).take i) = true := fun i => by
      rcases i with _ | _ | i
      · rfl
      · rfl
      · rw [List.take_of_length_le (by show 2 ≤ _; omega)]
        rfl
    have app : ∀ (z : V) (d : PyData), noL d = true → Dp K H2 z d → DpAll K (upd H2 D1 (.lst (us ++ [z]))) (us ++ [z]) (([nD im.ga, (Wv.f im.gf).D] : List PyData).take i ++ [d]) := fun z d hd hz =>
      dpAll_app (dpAll_kt (KT.lst h2) _ _ (nl2 i) hus) (.cons (dp_kt (KT.lst h2) _ _ hd hz) .nil)
    have sE : ∀ o, Same H0 (upd H2 D1 o) := fun o b u e => by rw [upd_ne (ne_of_none e hD1)]; exact s2 b u e
    rcases i with _ | _ | i
    · cases hi
      exact ⟨rfl, tyes ⟨_, rfl, _, 1, _, dp_mono (s0.trans s2) _ _ gx0, rfl, rfl, fun z hz => ⟨us, h2, small_line (by omega), us ++ [z], upd_same, app z _ rfl hz, by rw [List.length_append, hul]; rfl, sE _⟩⟩⟩
    · cases hi
      exact ⟨rfl, tyes ⟨_, rfl, _, 1, _, dp_mono (s0.trans s2) _ _ gx1, rfl, rfl, fun z hz => ⟨us, h2, small_line (by omega), us ++ [z], upd_same, app z _ rfl hz, by rw [List.length_append, hul]; rfl, sE _⟩⟩⟩
    · cases hi
  rintro H1 ⟨us, h1D, hus, hul, s1⟩
  obtain ⟨u0, u1, rfl, gu0, gu1⟩ := two_dp hus
  -- arrays
  have gy0' := dp_mono (s0.trans s1) _ _ gy0
  have gy1' := dp_mono (s0.trans s1) _ _ gy1
  refine ⟨_, rfl, aa, rfl, ⟨_, sqT_same (s0.trans s1) asq⟩, fun D2 hD2 => ?_⟩
  refine lc_tup (xs := [y0, y1]) (PvB K H1 D2 im.ta (Wv.f im.tf).D) rfl (fun i H2 _ p => sqT_same (s0.trans (s1.trans (PvB.same hD2 p))) asq) ?_ ?_
  · rintro i x H2 hi p
    have s2 := PvB.same hD2 p
    rcases i with _ | _ | i
    · cases hi
      have hp : H2 = upd H1 D2 (.lst []) := p
      subst hp
      refine ⟨rfl, tyes ⟨_, rfl, _, 1, _, dp_mono s2 _ _ gy0', rfl, rfl, fun z hz => ?_⟩⟩
      obtain ⟨ta, xs, rfl, tsq, tall⟩ : ∃ ta xs, z = .ref ta ∧ SqT K (upd H1 D2 (.lst [])) ta xs ∧ DpAll K (upd H1 D2 (.lst [])) xs (im.ta.map nD) := by
        cases hz with
        | tup a b => exact ⟨_, _, rfl, a, b⟩
      have ex := dp_nats tall
      subst ex
      refine ⟨ta, _, rfl, .inr tsq, fun l hl => ?_⟩
      have nl : l ≠ D2 := fun z => by rw [z, upd_same] at hl; cases hl
      have hlL : H1 l = none := s2.free hl
      refine ⟨[], by rw [upd_ne nl.symm]; exact upd_same, (by show 0 < sizeLine; decide), l, fun b o e => ?_, hlL, nl, ?_, upd_same⟩
      · rw [upd_ne (ne_of_none e hD2), upd_ne (ne_of_none e hlL)]
        exact s2 b o e
      · rw [upd_ne nl, upd_same, List.map_map]
        rfl
    · cases hi
      obtain ⟨r0, _, f0, n0, a0, aD⟩ := p
      refine ⟨rfl, tyes ⟨_, rfl, _, 1, _, dp_mono s2 _ _ gy1', rfl, rfl, fun z hz => ?_⟩⟩
      obtain ⟨ta, vf, rfl, tsq, tvf⟩ : ∃ ta vf, z = .ref ta ∧ SqT K H2 ta [vf] ∧ Dp K H2 vf (Wv.f im.tf).D := by
        cases hz with
        | tup a b =>
          cases b with
          | cons h t =>
            cases t
            exact ⟨_, _, rfl, a, h⟩
      refine ⟨ta, _, rfl, .inr tsq, fun l hl => ?_⟩
      have nl : l ≠ D2 := fun z => by rw [z, aD] at hl; cases hl
      have nl0 : l ≠ r0 := fun z => by rw [z, a0] at hl; cases hl
      have hlL : H1 l = none := s2.free hl
      have kk : KT H2 (upd (upd H2 l (.lst [vf])) D2 (.lst ([.ref r0] ++ [.ref l]))) := (KT.of (same_new hl)).trans (KT.lst (by rw [upd_ne nl.symm]; exact aD))
      refine ⟨[.ref r0], by rw [upd_ne nl.symm]; exact aD, (by show 1 < sizeLine; decide), r0, l, vf, fun b o e => ?_, f0, hlL, n0, nl, nl0, ?_, ?_, dp_kt kk _ _ rfl tvf, upd_same⟩
      · rw [upd_ne (ne_of_none e hD2), upd_ne (ne_of_none e hlL)]
        exact s2 b o e
      · rw [upd_ne n0, upd_ne nl0.symm]; exact a0
      · rw [upd_ne nl]; exact upd_same
    · cases hi
  rintro H2 ⟨r0, r1, vf, s2, f0, f1, n0, n1, n10, a0, a1, av, aD⟩
  have h2m : H2 pm = some (.dK []) := s2 _ _ (s1 _ _ h0)
  refine ⟨h2m, mk3 (.ref ca) D1 D2, rfl, by show 3 ≤ 15; decide, ?_⟩
  rw [mergeK_nd mk3_nd]
  -- addresses made
  have hpm0 : H pm = none := hpm
  have nmD1 : D1 ≠ pm := fun z => by rw [z, h0] at hD1; cases hD1
  have h1m := s1 _ _ h0
  have nd1 : [D1, pm].Nodup := nd_new (H := H0) (List.nodup_cons.mpr ⟨(fun z => nomatch z), List.nodup_nil⟩) (fun a ha => by rw [List.mem_singleton.mp ha, h0]; exact Option.some_ne_none _) hD1
  have hs1 : ∀ a ∈ [D1, pm], H1 a ≠ none := by
    intro a ha
    simp only [List.mem_cons, List.not_mem_nil, or_false] at ha
    rcases ha with rfl | rfl
    · rw [h1D]; exact Option.some_ne_none _
    · rw [h1m]; exact Option.some_ne_none _
  have nd2 : [r1, r0, D2, D1, pm].Nodup := by
    have h1 := nd_new nd1 hs1 hD2
    refine List.nodup_cons.mpr ⟨?_, List.nodup_cons.mpr ⟨?_, h1⟩⟩
    · intro z
      rcases List.mem_cons.mp z with z | z
      · exact n10 z
      · rcases List.mem_cons.mp z with z | z
        · exact n1 z
        · exact hs1 _ z f1
    · intro z
      rcases List.mem_cons.mp z with z | z
      · exact n0 z
      · exact hs1 _ z f0
  have s02 := (s0.trans s1).trans s2
  have SE : ∀ {Hk : Hp} {o : HO}, Same H Hk → Same H (upd Hk pm o) := fun s b o e => by rw [upd_ne (ne_of_none e hpm0)]; exact s b o e
  have gD1 := s2 _ _ h1D
  have gu0 := dp_mono s2 _ _ gu0
  have gu1 := dp_mono s2 _ _ gu1
  have hmu2 : Mut (H2 pm) := by rw [h2m]; exact True.intro
  have F0 : H r0 = none := (s0.trans s1).free f0
  have F1 : H r1 = none := (s0.trans s1).free f1
  have FD2 : H D2 = none := (s0.trans s1).free hD2
  have FD1 : H D1 = none := s0.free hD1
  generalize e3 : upd H2 pm (.dK (mk3 (.ref ca) D1 D2)) = H3
  have s3 : Same H H3 := by rw [← e3]; exact SE s02
  have k23 : KT H2 H3 := by rw [← e3]; exact KT.put hmu2
  have ne2 : ∀ a ∈ [r1, r0, D2, D1], a ≠ pm := fun a ha z => by
    have := nd2
    rw [show [r1, r0, D2, D1, pm] = [r1, r0, D2, D1] ++ [pm] from rfl, List.nodup_append] at this
    exact this.2.2 a ha pm (List.mem_singleton.mpr rfl) z
  have b0 : H3 r0 = some (.lst (im.ta.map nV)) := by rw [← e3, upd_ne (ne2 _ (by simp))]; exact a0
  have b1 : H3 r1 = some (.lst [vf]) := by rw [← e3, upd_ne (ne2 _ (by simp))]; exact a1
  have bD2 : H3 D2 = some (.lst [.ref r0, .ref r1]) := by rw [← e3, upd_ne (ne2 _ (by simp))]; exact aD
  have bD1 : H3 D1 = some (.lst [u0, u1]) := by rw [← e3, upd_ne (ne2 _ (by simp))]; exact gD1
  have bm : H3 pm = some (.dK (mk3 (.ref ca) D1 D2)) := by rw [← e3]; exact upd_same
  have gu0 := dp_kt k23 _ _ rfl gu0
  have gu1 := dp_kt k23 _ _ rfl gu1
  have av := dp_kt k23 _ _ rfl av
  clear e3 k23 hmu2 a0 a1 aD gD1 h2m s02 h1D hus
  refine gn_eq (σ' := [some (.ref za), some (nV k), some (.ref wa), some (.ref ca), some (.ref ga), some (.ref aa), some (.ref sa), some (.ref na), some (.ref pm), none, none]) rfl ?_
  -- calls
  refine ⟨_, rfl, sa, rfl, ⟨sx, sqT_same s3 ssq⟩, fun D5 hD5 => ?_⟩
  have slen := dpAll_len sall
  rw [List.length_map] at slen
  have hs2 := hI.starts.1
  have nlC : ∀ l : List Nat, noLAll (l.map fun b => callD (b, [])) = true := fun l => noLAll_map fun p _ => rfl
  refine lc_tup (xs := sx) (fun i H2 => ∃ us, H2 D5 = some (.lst us) ∧ DpAll K H2 us ((im.starts.take i).map fun b => callD (b, [])) ∧ us.length = i ∧ Same H3 H2) ⟨[], upd_same, .nil, rfl, same_new hD5⟩ ?_ ?_ ?_
  · rintro i H2 _ ⟨us, _, _, _, s2⟩
    exact sqT_same (s3.trans s2) ssq
  · rintro i x H2 hi ⟨us, h2, hus, hul, s2⟩
    obtain ⟨b, hb, hxb⟩ := dpAll_map_get sall hi
    have ex : x = nV b := by cases hxb; rfl
    subst ex
    refine ⟨rfl, tyes ⟨_, rfl, Nat.zero_le _, fun p0 hp0 => ⟨(by show 2 ≤ sizeLine; decide), fun p1 hp1 => ⟨us, upd_get hp1 (upd_get hp0 h2), small_line (by have := (List.getElem?_eq_some_iff.mp hb).1; omega), us ++ [.ref p1], upd_same, ?_, by rw [List.length_append, hul]; rfl, fun c o e => by rw [upd_ne (ne_of_none e hD5)]; exact upd_get hp1 (upd_get hp0 (s2 c o e))⟩⟩⟩⟩
    have g0 := dp_tupN (K := K) (vs := []) (ds := []) hp0 .nil
    have g := dp_tupN (K := K) hp1 (.cons (.int (b : Int)) (.cons g0 .nil))
    have kk := KT.lst (o := .lst (us ++ [.ref p1])) (upd_get (o := .tup [nV b, .ref p0]) hp1 (upd_get (o := .tup []) hp0 h2))
    rw [List.take_add_one, hb, List.map_append]
    exact dpAll_app (dpAll_kt kk _ _ (nlC _) (dpAll_mono (same_new hp1) _ _ (dpAll_mono (same_new hp0) _ _ hus))) (.cons (dp_kt kk _ _ rfl g) .nil)
  rintro H4 ⟨us, h4, hus, hul, s4⟩
  rw [slen, List.take_of_length_le (Nat.le_refl _)] at hus
  refine ⟨_, rfl, _, rfl, (by show 2 ≤ sizeLine; decide), fun p6 hp6 => ⟨(by show 1 ≤ sizeLine; decide), fun p7 hp7 => ⟨D5, p7, us, [.ref p6], rfl, rfl, upd_get hp7 (upd_get hp6 h4), upd_same, ?_, fun p8 hp8 => ?_⟩⟩⟩
  · rw [hul, slen]
    exact Nat.le_trans (show im.starts.length + 1 ≤ 3 by omega) (by decide)
  have hs4 : ∀ a ∈ [r1, r0, D2, D1, pm], (upd (upd H4 p6 (.tup [nV k, .ref wa])) p7 (.lst [.ref p6])) a ≠ none := by
    have e : ∀ {a : Addr} {o : HO}, H3 a = some o → (upd (upd H4 p6 (.tup [nV k, .ref wa])) p7 (.lst [.ref p6])) a ≠ none := fun h => by
      rw [upd_get hp7 (upd_get hp6 (s4 _ _ h))]
      exact Option.some_ne_none _
    intro a ha
    simp only [List.mem_cons, List.not_mem_nil, or_false] at ha
    rcases ha with rfl | rfl | rfl | rfl | rfl
    · exact e b1
    · exact e b0
    · exact e bD2
    · exact e bD1
    · exact e bm
  have nd8 := nd_new nd2 hs4 hp8
  have s48 : Same H4 (upd (upd (upd H4 p6 (.tup [nV k, .ref wa])) p7 (.lst [.ref p6])) p8 (.lst (us ++ [.ref p6]))) := ((same_new hp6).trans (same_new hp7)).trans (same_new hp8)
  have F8 : H p8 = none := (s3.trans (s4.trans ((same_new hp6).trans (same_new hp7)))).free hp8
  have g6 := dp_tupN (K := K) hp6 (.cons (.int (k : Int)) (.cons (.tup (sqT_same (s3.trans s4) hwa) (dp_nvs ws)) .nil))
  have g6 : Dp K (upd (upd (upd H4 p6 (.tup [nV k, .ref wa])) p7 (.lst [.ref p6])) p8 (.lst (us ++ [.ref p6]))) (.ref p6) (callD (k, ws)) := dp_mono ((same_new hp7).trans (same_new hp8)) _ _ g6
  have h88 : (upd (upd (upd H4 p6 (.tup [nV k, .ref wa])) p7 (.lst [.ref p6])) p8 (.lst (us ++ [.ref p6]))) p8 = some (.lst (us ++ [.ref p6])) := upd_same
  generalize upd (upd (upd H4 p6 (.tup [nV k, .ref wa])) p7 (.lst [.ref p6])) p8 (.lst (us ++ [.ref p6])) = H5 at s48 g6 h88 ⊢
  have s35 := s4.trans s48
  have hxs : DpAll K H5 (us ++ [.ref p6]) ((calls0 im k ws).map callD) := by
    rw [List.map_append, List.map_map]
    exact dpAll_app (dpAll_mono s48 _ _ hus) (.cons g6 .nil)
  generalize us ++ [V.ref p6] = xs at hxs h88 ⊢
  have b5m := s35 _ _ bm
  have hmu5 : Mut (H5 pm) := by rw [b5m]; exact True.intro
  have n8m : p8 ≠ pm := fun z => by rw [z] at nd8; exact (List.nodup_cons.mp nd8).1 (by simp)
  refine ⟨_, rfl, pm, _, rfl, DPut.k (k := Sum.inr "calls") b5m (small_line (by show 3 ≤ 1000000; omega)), ?_⟩
  rw [mk3_put (b := .non) (c := .non) (d := .non)]
  have k56 := KT.put (o := .dK (mk4 (.ref ca) D1 D2 (.ref p8))) hmu5
  generalize e6 : upd H5 pm (.dK (mk4 (.ref ca) D1 D2 (.ref p8))) = H6
  rw [e6] at k56
  have s6 : Same H H6 := by rw [← e6]; exact SE (s3.trans s35)
  have st6 : ∀ {a : Addr} {o : HO}, a ≠ pm → H5 a = some o → H6 a = some o := fun ne e => by rw [← e6, upd_ne ne]; exact e
  have c0 := st6 (ne2 _ (by simp)) (s35 _ _ b0)
  have c1 := st6 (ne2 _ (by simp)) (s35 _ _ b1)
  have cD2 := st6 (ne2 _ (by simp)) (s35 _ _ bD2)
  have cD1 := st6 (ne2 _ (by simp)) (s35 _ _ bD1)
  have c8 := st6 n8m h88
  have cm : H6 pm = some (.dK (mk4 (.ref ca) D1 D2 (.ref p8))) := by rw [← e6]; exact upd_same
  have gu0 := dp_kt k56 _ _ rfl (dp_mono s35 _ _ gu0)
  have gu1 := dp_kt k56 _ _ rfl (dp_mono s35 _ _ gu1)
  have av := dp_kt k56 _ _ rfl (dp_mono s35 _ _ av)
  have hxs := dpAll_kt k56 _ _ (nlCalls _) hxs
  clear e6 k56 st6 hmu5 b5m h88 g6 b0 b1 bD2 bD1 bm s35 s48 hs4
  have hs6 : ∀ a ∈ [p8, r1, r0, D2, D1, pm], H6 a ≠ none := by
    have e : ∀ {a : Addr} {o : HO}, H6 a = some o → H6 a ≠ none := fun h => by
      rw [h]
      exact Option.some_ne_none _
    intro a ha
    simp only [List.mem_cons, List.not_mem_nil, or_false] at ha
    rcases ha with rfl | rfl | rfl | rfl | rfl | rfl
    · exact e c8
    · exact e c1
    · exact e c0
    · exact e cD2
    · exact e cD1
    · exact e cm
  -- frames, end, prints
  refine ⟨Nat.zero_le _, fun pf hpf => ⟨Nat.zero_le _, fun pp hpp => ⟨(by show 3 ≤ sizeLine; decide), fun pT hpT => ?_⟩⟩⟩
  have ndf := nd_new nd8 hs6 hpf
  have sf := same_new (o := .lst []) hpf
  have hsf : ∀ a ∈ [pf, p8, r1, r0, D2, D1, pm], (upd H6 pf (.lst [])) a ≠ none := by
    intro a ha
    rcases List.mem_cons.mp ha with rfl | ha
    · rw [upd_same]; exact Option.some_ne_none _
    · intro z
      exact hs6 a ha (sf.free z)
  have ndp := nd_new ndf hsf hpp
  have s7 : Same H6 (upd (upd (upd H6 pf (.lst [])) pp (.lst [])) pT (.tup [.ref pf, .non, .ref pp])) := (sf.trans (same_new hpp)).trans (same_new hpT)
  have Ff : H pf = none := s6.free hpf
  have Fp : H pp = none := (s6.trans sf).free hpp
  have hpf7 : (upd (upd (upd H6 pf (.lst [])) pp (.lst [])) pT (.tup [.ref pf, .non, .ref pp])) pf = some (.lst []) := upd_get hpT (upd_get hpp upd_same)
  have hpp7 : (upd (upd (upd H6 pf (.lst [])) pp (.lst [])) pT (.tup [.ref pf, .non, .ref pp])) pp = some (.lst []) := upd_get hpT upd_same
  have hpT7 : (upd (upd (upd H6 pf (.lst [])) pp (.lst [])) pT (.tup [.ref pf, .non, .ref pp])) pT = some (.tup [.ref pf, .non, .ref pp]) := upd_same
  generalize upd (upd (upd H6 pf (.lst [])) pp (.lst [])) pT (.tup [.ref pf, .non, .ref pp]) = H7 at s7 hpf7 hpp7 hpT7 ⊢
  have d7m := s7 _ _ cm
  refine ⟨pT, _, rfl, .inl (.inl hpT7), rfl, _, _, rfl, _, rfl, pm, _, rfl, DPut.k (k := Sum.inr "frames") d7m (small_line (by show 4 ≤ 1000000; omega)), ?_⟩
  rw [mk4_put (c := .non) (d := .non)]
  refine ⟨_, _, rfl, _, rfl, pm, _, rfl, DPut.k (k := Sum.inr "end") upd_same (small_line (by show 5 ≤ 1000000; omega)), ?_⟩
  rw [mk5_put (d := .non), upd_upd]
  refine ⟨_, _, rfl, _, rfl, pm, _, rfl, DPut.k (k := Sum.inr "prints") upd_same (small_line (by show 6 ≤ 1000000; omega)), rfl, ?_⟩
  rw [mk6_put, upd_upd]
  have hmu7 : Mut (H7 pm) := by rw [d7m]; exact True.intro
  have nem : ∀ {a : Addr}, a ∈ [pp, pf, p8, r1, r0, D2, D1] → a ≠ pm := fun {a} ha z => by
    have h := ndp
    rw [show [pp, pf, p8, r1, r0, D2, D1, pm] = [pp, pf, p8, r1, r0, D2, D1] ++ [pm] from rfl, List.nodup_append] at h
    exact h.2.2 a ha pm (List.mem_singleton.mpr rfl) z
  have k78 := KT.put (o := .dK (mk7 (.ref ca) D1 D2 (.ref p8) (.ref pf) .non (.ref pp))) hmu7
  generalize e8 : upd H7 pm (.dK (mk7 (.ref ca) D1 D2 (.ref p8) (.ref pf) .non (.ref pp))) = H8
  rw [e8] at k78
  have s8 : Same H H8 := by rw [← e8]; exact SE (s6.trans s7)
  have st8 : ∀ {a : Addr} {o : HO}, a ≠ pm → H7 a = some o → H8 a = some o := fun ne e => by rw [← e8, upd_ne ne]; exact e
  have htop : H8 pm = some (McO (.ref ca) pp ⟨pm, D1, D2, r0, r1, p8, pf⟩ .non) := by rw [← e8]; exact upd_same
  have hpr := st8 (nem (by simp)) hpp7
  have hw8 := st8 (nem (by simp)) (s7 _ _ c8)
  have hxs := dpAll_kt k78 _ _ (nlCalls _) (dpAll_mono s7 _ _ hxs)
  have hbs : BsH (ShL P w K im (.ref ca) pp) H8 ⟨pm, D1, D2, r0, r1, p8, pf⟩ [] (ms0 im k ws) .non :=
    ⟨htop, ⟨u0, u1, st8 (nem (by simp)) (s7 _ _ cD1), dp_kt k78 _ _ (nlW _) (dp_mono s7 _ _ gu0), dp_kt k78 _ _ (nlW _) (dp_mono s7 _ _ gu1)⟩, st8 (nem (by simp)) (s7 _ _ cD2), st8 (nem (by simp)) (s7 _ _ c0), ⟨vf, st8 (nem (by simp)) (s7 _ _ c1), dp_kt k78 _ _ rfl (dp_mono s7 _ _ av)⟩, ⟨xs, hw8, hxs⟩, st8 (nem (by simp)) hpf7, dp_mono s8 _ _ (.tup csq call)⟩
  have ndr : ([pp, pf, p8, r1, r0, D2, D1, pm] : List Addr).Perm (pp :: [pm, D1, D2, r0, r1, p8, pf]) := List.Perm.cons _ (List.reverse_perm [pm, D1, D2, r0, r1, p8, pf])
  have ndq := ndr.nodup_iff.mp ndp
  have npp : pp ∉ allA (ShL P w K im (.ref ca) pp) ⟨pm, D1, D2, r0, r1, p8, pf⟩ [] := by
    show pp ∉ [pm, D1, D2, r0, r1, p8, pf] ++ [] ++ ([] ++ [])
    rw [List.append_nil, List.append_nil, List.append_nil]
    exact (List.nodup_cons.mp ndq).1
  have hm : MsH (ShL P w K im (.ref ca) pp) im H8 ⟨pm, D1, D2, r0, r1, p8, pf⟩ [] (ms0 im k ws) .non 0 := by
    refine ⟨hbs, True.intro, ?_, Nat.le_refl _⟩
    show ([pm, D1, D2, r0, r1, p8, pf] ++ [] ++ ([] ++ [])).Nodup
    rw [List.append_nil, List.append_nil, List.append_nil]
    exact (List.nodup_cons.mp ndq).2
  have M8 : Mv [] H ([pp] ++ allA (ShL P w K im (.ref ca) pp) ⟨pm, D1, D2, r0, r1, p8, pf⟩ []) H8 := (Mv.of s8).sub fun a ha => by
    have ha : a ∈ [pp] ++ ([pm, D1, D2, r0, r1, p8, pf] ++ [] ++ ([] ++ [])) := ha
    rw [List.append_nil, List.append_nil, List.append_nil] at ha
    simp only [List.cons_append, List.nil_append, List.mem_cons, List.not_mem_nil, or_false] at ha
    rcases ha with rfl | rfl | rfl | rfl | rfl | rfl | rfl | rfl
    · exact .inr Fp
    · exact .inr hpm0
    · exact .inr FD1
    · exact .inr FD2
    · exact .inr F0
    · exact .inr F1
    · exact .inr F8
    · exact .inr Ff
  clear e8 k78 st8 hbs hpf7 hpp7 hpT7 s7 c0 c1 cD2 cD1 c8 cm hs6 hsf ndf nd8 nd2 hs1 nd1 gu0 gu1 av
  obtain ⟨k0, ws0, cs, ec, eb, hk0⟩ := begun_eq im k ws
  obtain ⟨cd, hcd⟩ : ∃ cd, im.codes[k0]? = some cd := by
    rcases hk0 with h | rfl
    · obtain ⟨cd, e, _⟩ := hI.starts.2 k0 h
      exact ⟨cd, e⟩
    · exact hcd
  rw [ec] at hxs
  cases hxs with
  | @cons v0 vr _ _ g0 gr =>
  refine ⟨_, rfl, _, rfl, pm, .ref p8, rfl, mc_calls htop, p8, _, ((0 : Nat) : Int), v0, rfl, rfl, .inl (.inl hw8), atI_nat rfl, _, 0, _, g0, rfl, rfl, fun z hz => ?_⟩
  cases hz
  refine ⟨_, rfl, pm, .ref p8, rfl, mc_calls htop, .inl ⟨rfl, _, .inl (.inl hw8)⟩, p8, _, 0, 0, v0, rfl, rfl, hw8, by decide, by decide, seqIx (Nat.succ_pos _), rfl, ?_⟩
  have hmuw : Mut (H8 p8) := by rw [hw8]; exact True.intro
  have hm9 := hm.putWa gr
  have M9 : Mv [] H ([pp] ++ allA (ShL P w K im (.ref ca) pp) ⟨pm, D1, D2, r0, r1, p8, pf⟩ []) (upd H8 p8 (.lst vr)) := M8.trans (Mv.put (List.mem_append_right _ (in_base (by simp))) hmuw)
  have hn0 : noL (callD (k0, ws0)) = true := by simp only [callD, noL, noLAll, nlAll nlN, Bool.and_true]
  have g0 := dp_kt (KT.put (o := .lst vr) hmuw) _ _ hn0 g0
  have hpr9 : (upd H8 p8 (.lst vr)) pp = some (.lst []) := by
    rw [upd_ne (fun z => npp (by rw [z]; exact in_base (by simp)))]
    exact hpr
  have hm9 : MsH (ShL P w K im (.ref ca) pp) im (upd H8 p8 (.lst vr)) ⟨pm, D1, D2, r0, r1, p8, pf⟩ [] { ms0 im k ws with calls := cs } .non 0 := hm9
  refine ⟨_, 1, _, g0, rfl, rfl, fun z hz => ?_⟩
  obtain ⟨wa0, wx, rfl, wq, wall⟩ : ∃ wa wx, z = .ref wa ∧ SqT K (upd H8 p8 (.lst vr)) wa wx ∧ DpAll K (upd H8 p8 (.lst vr)) wx (ws0.map nD) := by
    cases hz with
    | tup a b => exact ⟨_, _, rfl, a, b⟩
  refine ⟨im, .ref ca, pp, ⟨pm, D1, D2, r0, r1, p8, pf⟩, [], { ms0 im k ws with calls := cs }, k0, wa0, wx, ws0.map Wv.w, none, cd, 0, rfl, hm9, by omega, hcd, hI.codes cd (List.mem_of_getElem? hcd), .inl wq, dp_words wall, fun H' p mv h2 => ?_⟩
  refine ⟨_, rfl, ?_⟩
  rw [← eb] at h2
  exact q H' (.ref ca) pp _ p (M9.trans (mv.add [pp])) (mv.out hpr9 npp) (mv.st _ _ npp hpr9) h2
end
end K18

set_option maxHeartbeats 1000000
namespace K18
open PySem PySem.Spec PyProof.Rows L2 HG P18
def spRun (K : PySem.W.Frag) : Sp := fun vs H Q _ => ∃ (im : Im) (vi : V) (nm : Str) (k : Nat) (ws : List Nat) (wa : Addr) (m : Nat), vs = [vi, .str nm, .ref wa, nV m] ∧ Ask im nm k ws ∧ m ≤ 50000 ∧ Dp K H vi im.D ∧ SqT K H wa (ws.map nV) ∧
  ∀ H' z, Same H H' → Dp K H' z (resD (runs im (begun im k ws) m)) → Q z H'
section
variable {P : Program} {w : World} {K : PySem.W.Frag} {mg : Str → Option Value} {base : Heap}
set_option pp.maxSteps 600 in
theorem c_run (T : Txt w K mg) : Cal P w K mg base "_law_run" 10 ["_law_image_here", "_law_name", "_law_words", "_law_limit"] (spRun K) := by
  obtain ⟨fd, F⟩ := T.d__law_run
  refine ⟨⟨fd, F.ok sc__law_run (fun vs H Q E h => by repeat (first | (obtain ⟨e, _⟩ := h; subst e; rfl) | (obtain ⟨_, h⟩ := h))) (fun cdv A outer s H vs Q E hr h => ?_), F.bindsN fun _ _ _ _ _ _ us hl => match us, hl with | [_, _, _, _], _ => rfl⟩, T.g _ (by decide), F.kp⟩
  obtain ⟨im, vi, nm, k, ws, wa, m, rfl, ha, hm, hvi, hwa, q⟩ := h
  have hu := hu_of hr
  have X_execute := x_execute (P := P) (w := w) (base := base) T
  obtain ⟨_, Fx⟩ := T.d_execute
  have kp_execute := Fx.kp
  refine ⟨_, PSs.nox (pss_cons (ps_asg (pe_slice (sl_listK (K := K) rfl) (pe_op op_cat (pe_callTy call_list_of (by rfl) T.n_list (by decide +kernel) (pa_cons (pv 2) pa_nil)) (pe_op op_rep (pe_lst (pa_cons pe_int pa_nil)) pe_int)) po_none (po_some pe_int)) (pg_lst (n := 4) rfl (pgs_cons (pg_name (i := 4) sc__law_run.nd rfl (.inl rfl)) (pgs_cons (pg_name (i := 5) sc__law_run.nd rfl (.inl rfl)) (pgs_cons (pg_name (i := 6) sc__law_run.nd rfl (.inl rfl)) (pgs_cons (pg_name (i := 7) sc__law_run.nd rfl (.inl rfl)) pgs_nil))))))
      (pss_cons (ps_if (pt_cmpR op_lt (pe_callB (lenK (K := K) rfl) (by rfl) T.n_len (by decide +kernel) (pa_cons (pv 2) pa_nil)) pe_int (nomark _)) (pss_one (ps_ret (pe_ifExp (pt_cmpR op_eq (pe_callB (lenK (K := K) rfl) (by rfl) T.n_len (by decide +kernel) (pa_cons (pv 2) pa_nil)) pe_int (nomark _)) (pe_callRK X_execute (hr.mono (by omega)) (by rfl) (T.g _ (by decide)) kp_execute pass0 (pa_cons (pv 0) (pa_cons (pv 1) pa_nil)) (pk_cons (pv 3) pk_nil)) (pe_callRK X_execute (hr.mono (by omega)) (by rfl) (T.g _ (by decide)) kp_execute pass0 (pa_cons (pv 0) (pa_cons (pv 1) (pa_cons (pv 4) pa_nil))) (pk_cons (pv 3) pk_nil))))) pss_nil)
      (pss_cons (ps_if (pt_cmpR op_eq (pe_callB (lenK (K := K) rfl) (by rfl) T.n_len (by decide +kernel) (pa_cons (pv 2) pa_nil)) pe_int (nomark _)) (pss_one (ps_ret (pe_callRK X_execute (hr.mono (by omega)) (by rfl) (T.g _ (by decide)) kp_execute pass0 (pa_cons (pv 0) (pa_cons (pv 1) (pa_cons (pv 4) (pa_cons (pv 5) pa_nil)))) (pk_cons (pv 3) pk_nil)))) pss_nil)
      (pss_cons (ps_if (pt_cmpR op_eq (pe_callB (lenK (K := K) rfl) (by rfl) T.n_len (by decide +kernel) (pa_cons (pv 2) pa_nil)) pe_int (nomark _)) (pss_one (ps_ret (pe_callRK X_execute (hr.mono (by omega)) (by rfl) (T.g _ (by decide)) kp_execute pass0 (pa_cons (pv 0) (pa_cons (pv 1) (pa_cons (pv 4) (pa_cons (pv 5) (pa_cons (pv 6) pa_nil))))) (pk_cons (pv 3) pk_nil)))) pss_nil)
      (pss_one (ps_ret (pe_callRK X_execute (hr.mono (by omega)) (by rfl) (T.g _ (by decide)) kp_execute pass0 (pa_cons (pv 0) (pa_cons (pv 1) (pa_cons (pv 4) (pa_cons (pv 5) (pa_cons (pv 6) (pa_cons (pv 7) pa_nil)))))) (pk_cons (pv 3) pk_nil)))))))), ?_⟩
  refine ⟨_, rfl, wa, _, rfl, .inr hwa, fun l1 hl1 => ⟨(by show 1 ≤ sizeLine; decide), fun l2 hl2 => ⟨l2, 4, [.int 0], rfl, rfl, upd_same, by decide, by decide, (by show 1 * 4 ≤ sizeLine; decide), fun l3 hl3 => ⟨l1, l3, ws.map nV, [.int 0, .int 0, .int 0, .int 0], rfl, rfl, upd_get hl3 (upd_get hl2 upd_same), upd_same, ?_, fun l4 hl4 => ⟨4, rfl, l4, _, rfl, .inl (.inl upd_same), fun l5 hl5 => ?_⟩⟩⟩⟩⟩
  · rw [List.length_map]
    have := ha.len
    exact Nat.le_trans (show ws.length + 4 ≤ 8 by omega) (by decide)
  have s5 : Same H (upd (upd (upd (upd (upd H l1 (.lst (ws.map nV))) l2 (.lst [.int 0])) l3 (.lst [.int 0, .int 0, .int 0, .int 0])) l4 (.lst (ws.map nV ++ [.int 0, .int 0, .int 0, .int 0]))) l5 (.lst (cutV (ws.map nV ++ [.int 0, .int 0, .int 0, .int 0]) none (some 4)))) := (((same_new (o := .lst (ws.map nV)) hl1).trans (same_new hl2)).trans (same_new hl3)).trans ((same_new hl4).trans (same_new (o := .lst (cutV (ws.map nV ++ [.int 0, .int 0, .int 0, .int 0]) none (some 4))) hl5))
  have e5 : (upd (upd (upd (upd (upd H l1 (.lst (ws.map nV))) l2 (.lst [.int 0])) l3 (.lst [.int 0, .int 0, .int 0, .int 0])) l4 (.lst (ws.map nV ++ [.int 0, .int 0, .int 0, .int 0]))) l5 (.lst (cutV (ws.map nV ++ [.int 0, .int 0, .int 0, .int 0]) none (some 4)))) l5 = some (.lst (cutV (ws.map nV ++ [.int 0, .int 0, .int 0, .int 0]) none (some 4))) := upd_same
  show gLst _ 4 _ (.ref l5) _ (upd (upd (upd (upd (upd H l1 (.lst (ws.map nV))) l2 (.lst [.int 0])) l3 (.lst [.int 0, .int 0, .int 0, .int 0])) l4 (.lst (ws.map nV ++ [.int 0, .int 0, .int 0, .int 0]))) l5 (.lst (cutV (ws.map nV ++ [.int 0, .int 0, .int 0, .int 0]) none (some 4)))) _
  generalize upd (upd (upd (upd (upd H l1 (.lst (ws.map nV))) l2 (.lst [.int 0])) l3 (.lst [.int 0, .int 0, .int 0, .int 0])) l4 (.lst (ws.map nV ++ [.int 0, .int 0, .int 0, .int 0]))) l5 (.lst (cutV (ws.map nV ++ [.int 0, .int 0, .int 0, .int 0]) none (some 4))) = H5 at s5 e5 ⊢
  have hwa5 := sqT_same s5 hwa
  have fin : spExec K [nV m] (vi :: .str nm :: ws.map nV) H5 Q E0 := ⟨im, vi, nm, k, ws, m, rfl, rfl, ha, hm, dp_mono s5 _ _ hvi, fun H' z s1 hz => q H' z (s5.trans s1) hz⟩
  have hl := ha.len
  clear q hvi hwa s5 ha
  rcases ws with _ | ⟨a, _ | ⟨b, _ | ⟨c, _ | ⟨d, ws⟩⟩⟩⟩
  · refine ⟨l5, _, rfl, .inl (.inl e5), rfl, _, _, rfl, _, _, rfl, _, _, rfl, _, _, rfl, rfl, ?_⟩
    refine ⟨_, rfl, .ref wa, 0, rfl, .inr ⟨_, hwa5, rfl⟩, _, _, rfl, rfl, _, rfl, ifT (by decide) ?_⟩
    refine ⟨_, rfl, .ref wa, 0, rfl, .inr ⟨_, hwa5, rfl⟩, rfl, _, rfl, ifT (by decide) ?_⟩
    exact ⟨_, rfl, _, rfl, _, rfl, fin⟩
  · refine ⟨l5, _, rfl, .inl (.inl e5), rfl, _, _, rfl, _, _, rfl, _, _, rfl, _, _, rfl, rfl, ?_⟩
    refine ⟨_, rfl, .ref wa, 1, rfl, .inr ⟨_, hwa5, rfl⟩, _, _, rfl, rfl, _, rfl, ifT (by decide) ?_⟩
    refine ⟨_, rfl, .ref wa, 1, rfl, .inr ⟨_, hwa5, rfl⟩, rfl, _, rfl, ifF (by decide) ?_⟩
    exact ⟨_, rfl, _, rfl, _, rfl, _, rfl, fin⟩
  · refine ⟨l5, _, rfl, .inl (.inl e5), rfl, _, _, rfl, _, _, rfl, _, _, rfl, _, _, rfl, rfl, ?_⟩
    refine ⟨_, rfl, .ref wa, 2, rfl, .inr ⟨_, hwa5, rfl⟩, _, _, rfl, rfl, _, rfl, ifF (by decide) ?_⟩
    refine ⟨_, rfl, .ref wa, 2, rfl, .inr ⟨_, hwa5, rfl⟩, rfl, _, rfl, ifT (by decide) ?_⟩
    exact ⟨_, rfl, _, rfl, _, rfl, _, rfl, _, rfl, fin⟩
  · refine ⟨l5, _, rfl, .inl (.inl e5), rfl, _, _, rfl, _, _, rfl, _, _, rfl, _, _, rfl, rfl, ?_⟩
    refine ⟨_, rfl, .ref wa, 3, rfl, .inr ⟨_, hwa5, rfl⟩, _, _, rfl, rfl, _, rfl, ifF (by decide) ?_⟩
    refine ⟨_, rfl, .ref wa, 3, rfl, .inr ⟨_, hwa5, rfl⟩, rfl, _, rfl, ifF (by decide) ?_⟩
    refine ⟨_, rfl, .ref wa, 3, rfl, .inr ⟨_, hwa5, rfl⟩, rfl, _, rfl, ifT (by decide) ?_⟩
    exact ⟨_, rfl, _, rfl, _, rfl, _, rfl, _, rfl, _, rfl, fin⟩
  · obtain rfl : ws = [] := by
      cases ws with
      | nil => rfl
      | cons _ _ => simp only [List.length_cons] at hl; omega
    refine ⟨l5, _, rfl, .inl (.inl e5), rfl, _, _, rfl, _, _, rfl, _, _, rfl, _, _, rfl, rfl, ?_⟩
    refine ⟨_, rfl, .ref wa, 4, rfl, .inr ⟨_, hwa5, rfl⟩, _, _, rfl, rfl, _, rfl, ifF (by decide) ?_⟩
    refine ⟨_, rfl, .ref wa, 4, rfl, .inr ⟨_, hwa5, rfl⟩, rfl, _, rfl, ifF (by decide) ?_⟩
    refine ⟨_, rfl, .ref wa, 4, rfl, .inr ⟨_, hwa5, rfl⟩, rfl, _, rfl, ifF (by decide) ?_⟩
    exact ⟨_, rfl, _, rfl, _, rfl, _, rfl, _, rfl, _, rfl, _, rfl, fin⟩
end
end K18

set_option maxHeartbeats 4000000
/-! P54: objects as data: what is_object says. -/
namespace P54
open PySem HG
abbrev byName : List Str := ["definer", "body", "length", "live", "taken", "writes", "prints", "traps", "ends", "pure", "recursive", "constant", "unread", "result", "signature", "importable"]
abbrev byNum : List Str := ["targets", "writes_by", "pure_by"]
abbrev byPar : List Str := ["unused", "argument"]
def isN : PyData → Bool
  | .int _ => true
  | _ => false
def isNat : PyData → Bool
  | .int i => decide (0 ≤ i)
  | _ => false
def items : PyData → List PyData
  | .tuple ds => ds
  | _ => []
def at_ (d : PyData) (i : Nat) : PyData := (items d).getD i .none
/-- is_question -/
def isQ : PyData → Bool
  | .tuple [.str a, x] => if a ∈ byNum then isN x else decide (a ∈ byName) && isS x
  | .tuple [.str a, y, x] => decide (a ∈ byPar) && (isS y && isN x)
  | _ => false
/-- one key of a question's tuple -/
def key : PyData → L2.Key
  | .int i => Sum.inl i
  | .str z => Sum.inr z
  | _ => Sum.inl 0
def keys (d : PyData) : List L2.Key := (items d).map key
def ltK : L2.Key → L2.Key → Bool
  | .inl i, .inl j => decide (i < j)
  | .inr x, .inr y => decide (x.cps.toList < y.cps.toList)
  | _, _ => false
def lexB : List L2.Key → List L2.Key → Bool
  | [], [] => false
  | [], _ :: _ => true
  | _ :: _, [] => false
  | a :: r, b :: s => if a = b then lexB r s else ltK a b
/-- the three orders that are asked -/
def ltD : PyData → PyData → Bool
  | .int i, .int j => decide (i < j)
  | .str x, .str y => decide (x.cps.toList < y.cps.toList)
  | .tuple xs, .tuple ys => lexB (xs.map key) (ys.map key)
  | _, _ => false
def asc : List PyData → Bool
  | a :: b :: r => ltD a b && asc (b :: r)
  | _ => true
def isSig : PyData → Bool
  | .tuple [.tuple ds, b] => ds.all isNat && (asc ds && isB b)
  | _ => false
def isNamed (n : Nat) (d : PyData) : Bool := isT d && (decide ((items d).length = n) && (isS (at_ d 0) && isSig (at_ d 1)))
def isDer : PyData → Bool
  | .tuple [.tuple _, .tuple _] => true
  | _ => false
def areNamed (n : Nat) (d : PyData) : Bool := isT d && ((items d).all (isNamed n) && asc ((items d).map fun e => at_ e 0))
def areDefs (d : PyData) : Bool := areNamed 4 d && (items d).all fun e => isDer (at_ e 3)
def isFact (d : PyData) : Bool := isT d && (decide ((items d).length = 2) && isQ (at_ d 0))
def areFacts (d : PyData) : Bool := isT d && ((items d).all isFact && asc ((items d).map fun e => at_ e 0))
def isObj (d : PyData) : Bool := isT d && (decide ((items d).length = 5) && (isS (at_ d 0) && (isS (at_ d 1) && (areDefs (at_ d 2) && (areNamed 2 (at_ d 3) && areFacts (at_ d 4))))))
/-! ### questions and their order -/
inductive QS : PyData → Prop
  | num {a : Str} {i : Int} : a ∈ byNum → QS (.tuple [.str a, .int i])
  | name {a z : Str} : a ∈ byName → QS (.tuple [.str a, .str z])
  | par {a z : Str} {i : Int} : a ∈ byPar → QS (.tuple [.str a, .str z, .int i])
theorem qs_of {d : PyData} (h : isQ d = true) : QS d := by
  unfold isQ at h
  split at h
  · rename_i a x
    split at h
    · rename_i ha
      cases x with
      | int i => exact .num ha
      | none => simp [isN] at h
      | bool _ => simp [isN] at h
      | str _ => simp [isN] at h
      | list _ => simp [isN] at h
      | tuple _ => simp [isN] at h
      | dict _ => simp [isN] at h
    · simp only [Bool.and_eq_true, decide_eq_true_eq] at h
      cases x with
      | str z => exact .name h.1
      | none => simp [isS] at h
      | bool _ => simp [isS] at h
      | int _ => simp [isS] at h
      | list _ => simp [isS] at h
      | tuple _ => simp [isS] at h
      | dict _ => simp [isS] at h
  · rename_i a y x
    simp only [Bool.and_eq_true, decide_eq_true_eq] at h
    obtain ⟨ha, hy, hx⟩ := h
    cases y <;> simp [isS] at hy
    cases x <;> simp [isN] at hx
    exact .par ha
  · cases h
theorem isQ_of {d : PyData} (h : QS d) : isQ d = true := by
  cases h with
  | num ha => simp only [isQ, if_pos ha, isN]
  | @name a z ha =>
    have : a ∉ byNum := by
      intro h2
      revert a
      decide +kernel
    simp only [isQ, if_neg this, isS, decide_eq_true ha, Bool.and_self]
  | par ha => simp only [isQ, isS, isN, decide_eq_true ha, Bool.and_self]
theorem num_name {a : Str} (h : a ∈ byNum) : a ∉ byName := by
  revert a
  decide +kernel
theorem num_par {a : Str} (h : a ∈ byNum) : a ∉ byPar := by
  revert a
  decide +kernel
theorem name_par {a : Str} (h : a ∈ byName) : a ∉ byPar := by
  revert a
  decide +kernel
theorem lex_int (i j : Int) (r : List L2.Key) : LexR (Sum.inl i :: r) (Sum.inl j :: r) (lexB (Sum.inl i :: r) (Sum.inl j :: r)) ∨ r ≠ [] := by
  by_cases hr : r = []
  · subst hr
    left
    by_cases h : i = j
    · subst h
      have : lexB [Sum.inl i] [Sum.inl i] = false := by simp [lexB]
      rw [this]
      exact .eq .nn
    · have : lexB [Sum.inl i] [Sum.inl j] = decide (i < j) := by simp [lexB, h, ltK]
      rw [this]
      exact .ii h
  · exact .inr hr
theorem lex_head {a b : Str} (h : a ≠ b) (r s : List L2.Key) : LexR (Sum.inr a :: r) (Sum.inr b :: s) (lexB (Sum.inr a :: r) (Sum.inr b :: s)) := by
  have : lexB (Sum.inr a :: r) (Sum.inr b :: s) = decide (a.cps.toList < b.cps.toList) := by simp [lexB, h, ltK]
  rw [this]
  exact .ss h
theorem lex_eq {a : L2.Key} {r s : List L2.Key} (h : LexR r s (lexB r s)) : LexR (a :: r) (a :: s) (lexB (a :: r) (a :: s)) := by
  have : lexB (a :: r) (a :: s) = lexB r s := by simp [lexB]
  rw [this]
  exact .eq h
theorem lex_i {i j : Int} : LexR [Sum.inl i] [Sum.inl j] (lexB [Sum.inl i] [Sum.inl j]) := (lex_int i j []).resolve_right (fun h => h rfl)
theorem lex_s {x y : Str} {r s : List L2.Key} (h : x = y → LexR r s (lexB r s)) : LexR (Sum.inr x :: r) (Sum.inr y :: s) (lexB (Sum.inr x :: r) (Sum.inr y :: s)) := by
  by_cases e : x = y
  · subst e
    exact lex_eq (h rfl)
  · exact lex_head e r s
theorem lex_nil : LexR [] [] (lexB [] []) := .nn
/-- any two questions may be compared -/
theorem q_lex {d e : PyData} (hd : QS d) (he : QS e) : LexR (keys d) (keys e) (ltD d e) := by
  cases hd with
  | @num a i ha =>
    cases he with
    | @num b j hb => exact lex_s fun _ => lex_i
    | @name b z hb => exact lex_s fun e => absurd hb (num_name (e ▸ ha))
    | @par b z j hb => exact lex_s fun e => absurd hb (num_par (e ▸ ha))
  | @name a y ha =>
    cases he with
    | @num b j hb => exact lex_s fun e => absurd ha (num_name (e ▸ hb))
    | @name b z hb => exact lex_s fun _ => lex_s fun _ => lex_nil
    | @par b z j hb => exact lex_s fun e => absurd hb (name_par (e ▸ ha))
  | @par a y i ha =>
    cases he with
    | @num b j hb => exact lex_s fun e => absurd ha (num_par (e ▸ hb))
    | @name b z hb => exact lex_s fun e => absurd ha (name_par (e ▸ hb))
    | @par b z j hb => exact lex_s fun _ => lex_s fun _ => lex_i
end P54

set_option maxHeartbeats 4000000
/-! P54W: how much data show; places in data. -/
namespace P54
open PySem HG PyProof.Rows
mutual
def Sm (k : Nat) : PyData → Prop
  | .none => True
  | .bool _ => True
  | .int i => -(10 ^ 39 + (k : Int)) ≤ i ∧ i ≤ 10 ^ 39 + (k : Int)
  | .str z => OkS (2000 + k) z
  | .tuple ds => SmAll k ds
  | .list ds => SmAll k ds
  | .dict _ => False
def SmAll (k : Nat) : List PyData → Prop
  | [] => True
  | d :: ds => Sm k d ∧ SmAll k ds
end
mutual
def wt : PyData → Nat
  | .tuple ds => 5 + wtAll ds
  | .list ds => 5 + wtAll ds
  | .none => 5
  | .bool _ => 6
  | .int i => (PyData.shown (.int i)).length + 1
  | .str z => (PyData.shown (.str z)).length + 1
  | .dict _ => 0
def wtAll : List PyData → Nat
  | [] => 0
  | d :: ds => wt d + 2 + wtAll ds
end
structure Fine (k W d : Nat) (D : PyData) : Prop where
  sm : Sm k D
  wt : wt D ≤ W
  dp : D.depth ≤ d
theorem smAll_mem {k : Nat} : ∀ {ds : List PyData}, SmAll k ds ↔ ∀ d ∈ ds, Sm k d
  | [] => by simp [SmAll]
  | d :: ds => by
    simp only [SmAll, smAll_mem (ds := ds), List.mem_cons]
    constructor
    · rintro ⟨a, b⟩ x (rfl | hx)
      · exact a
      · exact b x hx
    · exact fun h => ⟨h d (.inl rfl), fun x hx => h x (.inr hx)⟩
theorem wtAll_mem : ∀ {ds : List PyData} {d : PyData}, d ∈ ds → wt d + 2 ≤ wtAll ds
  | e :: ds, d, h => by
    simp only [wtAll]
    rcases List.mem_cons.mp h with rfl | h
    · omega
    · have := wtAll_mem h
      omega
theorem wtAll_len : ∀ ds : List PyData, ds.length ≤ wtAll ds
  | [] => Nat.zero_le _
  | d :: ds => by
    have := wtAll_len ds
    simp only [wtAll, List.length_cons]
    omega
theorem wtAll_app : ∀ ds es : List PyData, wtAll (ds ++ es) = wtAll ds + wtAll es
  | [], es => by simp [wtAll]
  | d :: ds, es => by
    have := wtAll_app ds es
    simp only [List.cons_append, wtAll]
    omega
theorem depthAll_mem : ∀ {ds : List PyData} {d : PyData}, d ∈ ds → d.depth ≤ PyData.depthAll ds
  | e :: ds, d, h => by
    simp only [PyData.depthAll]
    rcases List.mem_cons.mp h with rfl | h
    · omega
    · have := depthAll_mem h
      omega
theorem depthAll_le {n : Nat} : ∀ {ds : List PyData}, (∀ d ∈ ds, d.depth ≤ n) → PyData.depthAll ds ≤ n
  | [], _ => by simp [PyData.depthAll]
  | d :: ds, h => by
    have h1 := h d List.mem_cons_self
    have h2 := depthAll_le (ds := ds) fun x hx => h x (List.mem_cons_of_mem _ hx)
    simp only [PyData.depthAll]
    omega
theorem dp_tup (ds : List PyData) : (PyData.tuple ds).depth = PyData.depthAll ds + 1 := by simp only [PyData.depth]
theorem dp_lst (ds : List PyData) : (PyData.list ds).depth = PyData.depthAll ds + 1 := by simp only [PyData.depth]
theorem wt_tup (ds : List PyData) : wt (.tuple ds) = 5 + wtAll ds := by simp only [wt]
theorem wt_lst (ds : List PyData) : wt (.list ds) = 5 + wtAll ds := by simp only [wt]
theorem sm_tup {k : Nat} {ds : List PyData} : Sm k (.tuple ds) ↔ ∀ d ∈ ds, Sm k d := by simp only [Sm]; exact smAll_mem
theorem sm_lst {k : Nat} {ds : List PyData} : Sm k (.list ds) ↔ ∀ d ∈ ds, Sm k d := by simp only [Sm]; exact smAll_mem
theorem Fine.mem {k W d : Nat} {ds : List PyData} (h : Fine k W d (.tuple ds)) : ∀ e ∈ ds, Fine k W d e := fun e he => by
  refine ⟨sm_tup.mp h.sm e he, ?_, ?_⟩
  · have := wtAll_mem he
    have := h.wt
    rw [wt_tup] at this
    omega
  · have := depthAll_mem he
    have := h.dp
    rw [dp_tup] at this
    omega
mutual
theorem Sm.up {k m : Nat} (hk : k ≤ m) : ∀ {D : PyData}, Sm k D → Sm m D
  | .none, _ => by simp only [Sm]
  | .bool _, _ => by simp only [Sm]
  | .int i, h => by
    simp only [Sm] at h ⊢
    omega
  | .str z, h => by
    simp only [Sm] at h ⊢
    exact h.up (by omega)
  | .tuple ds, h => by
    simp only [Sm] at h ⊢
    exact SmAll.up hk h
  | .list ds, h => by
    simp only [Sm] at h ⊢
    exact SmAll.up hk h
  | .dict _, h => by simp only [Sm] at h
theorem SmAll.up {k m : Nat} (hk : k ≤ m) : ∀ {ds : List PyData}, SmAll k ds → SmAll m ds
  | [], _ => by simp only [SmAll]
  | d :: ds, h => by
    simp only [SmAll] at h ⊢
    exact ⟨Sm.up hk h.1, SmAll.up hk h.2⟩
end
theorem Fine.up {k W d k' W' d' : Nat} {D : PyData} (h : Fine k W d D) (h1 : k ≤ k') (h2 : W ≤ W') (h3 : d ≤ d') : Fine k' W' d' D :=
  ⟨h.sm.up h1, Nat.le_trans h.wt h2, Nat.le_trans h.dp h3⟩
/-! ### what is shown -/
theorem log_small {i : Int} {k : Nat} (hk : k ≤ 1000) (h1 : -(10 ^ 39 + (k : Int)) ≤ i) (h2 : i ≤ 10 ^ 39 + (k : Int)) : i.natAbs.log2 < 1920 := by
  have h : i.natAbs < 2 ^ 200 := by
    have e : (10 : Int) ^ 39 + 1000 < 2 ^ 200 := by decide
    omega
  exact Nat.lt_of_lt_of_le (PySem.Flt.log2_lt_of (by decide) h) (by decide)
mutual
theorem shown_len {k : Nat} (hk : k ≤ 1000) : ∀ {D : PyData}, Sm k D → D.showable = true ∧ D.shown.length ≤ wt D
  | .none, _ => ⟨by simp only [PyData.showable], by decide⟩
  | .bool b, _ => ⟨by simp only [PyData.showable], by cases b <;> decide⟩
  | .int i, h => by
    simp only [Sm] at h
    exact ⟨by simp only [PyData.showable]; exact decide_eq_true (log_small hk h.1 h.2), by simp only [wt]; omega⟩
  | .str z, h => ⟨by simp only [PyData.showable], by simp only [wt]; omega⟩
  | .tuple ds, h => by
    simp only [Sm] at h
    obtain ⟨a, c, e⟩ := shownAll_len hk h
    have h3 := tupleText_len_le (PyData.shownAll ds)
    refine ⟨by simp only [PyData.showable, a], ?_⟩
    simp only [PyData.shown, wt]
    omega
  | .list ds, h => by
    simp only [Sm] at h
    obtain ⟨a, c, e⟩ := shownAll_len hk h
    have h3 := listText_len_le (PyData.shownAll ds)
    refine ⟨by simp only [PyData.showable, a], ?_⟩
    simp only [PyData.shown, wt]
    omega
  | .dict _, h => by simp only [Sm] at h
theorem shownAll_len {k : Nat} (hk : k ≤ 1000) : ∀ {ds : List PyData}, SmAll k ds → PyData.showableAll ds = true ∧ ((PyData.shownAll ds).map (·.length)).sum + 2 * (PyData.shownAll ds).length ≤ wtAll ds ∧ (PyData.shownAll ds).length = ds.length
  | [], _ => ⟨by simp only [PyData.showableAll], by simp only [PyData.shownAll, List.map_nil, List.sum_nil, wtAll, List.length_nil]; omega, by simp only [PyData.shownAll, List.length_nil]⟩
  | d :: ds, h => by
    simp only [SmAll] at h
    obtain ⟨a, c, e⟩ := shownAll_len hk h.2
    obtain ⟨q1, q2⟩ := shown_len hk h.1
    refine ⟨by simp only [PyData.showableAll, q1, a, Bool.and_self], ?_, by simp only [PyData.shownAll, List.length_cons, e]⟩
    simp only [PyData.shownAll, List.map_cons, List.sum_cons, List.length_cons, wtAll]
    omega
end
/-! ### atoms -/
theorem Fine.none (k d : Nat) : Fine k 100 d .none := ⟨by simp only [Sm], by decide, by simp only [PyData.depth]; omega⟩
theorem Fine.bool (k d : Nat) (b : Bool) : Fine k 100 d (.bool b) := ⟨by simp only [Sm], by simp only [P54.wt]; omega, by simp only [PyData.depth]; omega⟩
theorem Fine.int {k : Nat} (d : Nat) {i : Int} (hk : k ≤ 1000) (h1 : -(10 ^ 39 + (k : Int)) ≤ i) (h2 : i ≤ 10 ^ 39 + (k : Int)) : Fine k 2000 d (.int i) := by
  refine ⟨by simp only [Sm]; exact ⟨h1, h2⟩, ?_, by simp only [PyData.depth]; omega⟩
  have e := int_text_len_1921 (log_small hk h1 h2)
  simp only [P54.wt, PyData.shown]
  omega
theorem Fine.str {k m : Nat} (d : Nat) {z : Str} (h : OkS m z) (hm : m ≤ 2000 + k) : Fine k (10 * m + 3) d (.str z) := by
  refine ⟨by simp only [Sm]; exact h.up hm, ?_, by simp only [PyData.depth]; omega⟩
  have e := h.repr
  simp only [P54.wt, PyData.shown]
  omega
theorem wt_pos {D : PyData} {k : Nat} (h : Sm k D) : 1 ≤ wt D := by
  cases D with
  | dict _ => simp only [Sm] at h
  | _ => simp only [wt]; omega
/-! ### tuples -/
theorem wtAll_le {W n : Nat} : ∀ {ds : List PyData}, (∀ e ∈ ds, wt e ≤ W) → ds.length ≤ n → wtAll ds ≤ n * (W + 2)
  | [], _, _ => by simp only [wtAll]; omega
  | d :: ds, h, hn => by
    obtain ⟨m, rfl⟩ : ∃ m, n = m + 1 := ⟨n - 1, by rw [List.length_cons] at hn; omega⟩
    have h1 := h d List.mem_cons_self
    have h2 := wtAll_le (W := W) (n := m) (ds := ds) (fun x hx => h x (List.mem_cons_of_mem _ hx)) (by rw [List.length_cons] at hn; omega)
    simp only [wtAll]
    rw [Nat.add_mul, Nat.one_mul]
    omega
theorem Fine.tupN {k W d n : Nat} {ds : List PyData} (h : ∀ e ∈ ds, Fine k W d e) (hn : ds.length ≤ n) : Fine k (5 + n * (W + 2)) (d + 1) (.tuple ds) := by
  refine ⟨sm_tup.mpr fun e he => (h e he).sm, ?_, ?_⟩
  · rw [wt_tup]
    have := wtAll_le (W := W) (n := n) (fun e he => (h e he).wt) hn
    omega
  · rw [dp_tup]
    have := depthAll_le fun e he => (h e he).dp
    omega
theorem Fine.tup1 {k W d : Nat} {D : PyData} (h : Fine k W d D) : Fine k (W + 7) (d + 1) (.tuple [D]) := by
  refine ⟨sm_tup.mpr fun e he => by rw [List.mem_singleton.mp he]; exact h.sm, ?_, ?_⟩
  · rw [wt_tup]
    have := h.wt
    simp only [wtAll]
    omega
  · have := h.dp
    simp only [PyData.depth, PyData.depthAll]
    omega
theorem Fine.lst1 {k W d : Nat} {D : PyData} (h : Fine k W d D) : Fine k (W + 7) (d + 1) (.list [D]) := by
  refine ⟨sm_lst.mpr fun e he => by rw [List.mem_singleton.mp he]; exact h.sm, ?_, ?_⟩
  · rw [wt_lst]
    have := h.wt
    simp only [wtAll]
    omega
  · have := h.dp
    simp only [PyData.depth, PyData.depthAll]
    omega
theorem Fine.lst {k W d : Nat} {ds : List PyData} (h : Fine k W d (.tuple ds)) : Fine k W d (.list ds) :=
  ⟨sm_lst.mpr (sm_tup.mp h.sm), by have := h.wt; rw [wt_tup] at this; rw [wt_lst]; exact this, by have := h.dp; rw [dp_tup] at this; rw [dp_lst]; exact this⟩
/-- a tuple made of parts of a tuple -/
theorem Fine.sub {k W d : Nat} {ds es : List PyData} (h : Fine k W d (.tuple ds)) (hm : ∀ e ∈ es, e ∈ ds) (hw : wtAll es ≤ wtAll ds) : Fine k W d (.tuple es) := by
  refine ⟨sm_tup.mpr fun e he => sm_tup.mp h.sm e (hm e he), ?_, ?_⟩
  · have := h.wt
    rw [wt_tup] at this ⊢
    omega
  · have h1 := h.dp
    rw [dp_tup] at h1 ⊢
    have : PyData.depthAll es ≤ PyData.depthAll ds := depthAll_le fun e he => depthAll_mem (hm e he)
    omega
/-! ### places -/
mutual
def places : PyData → List (List Nat)
  | .tuple ds => [] :: placesAll 0 ds
  | _ => [[]]
def placesAll (i : Nat) : List PyData → List (List Nat)
  | [] => []
  | d :: ds => (places d).map (i :: ·) ++ placesAll (i + 1) ds
end
def getAt : PyData → List Nat → PyData
  | D, [] => D
  | D, i :: p => getAt (at_ D i) p
def putAt : PyData → List Nat → PyData → PyData
  | _, [], P => P
  | D, i :: p, P => .tuple ((items D).take i ++ [putAt (at_ D i) p P] ++ (items D).drop (i + 1))
def valid : PyData → List Nat → Prop
  | _, [] => True
  | D, i :: p => (∃ ds, D = .tuple ds ∧ i < ds.length) ∧ valid (at_ D i) p
theorem placesAll_len : ∀ (i : Nat) (ds : List PyData), (∀ d ∈ ds, (places d).length ≤ wt d) → (placesAll i ds).length ≤ wtAll ds
  | _, [], _ => by simp [placesAll]
  | i, d :: ds, h => by
    have h1 := h d List.mem_cons_self
    have h2 := placesAll_len (i + 1) ds fun x hx => h x (List.mem_cons_of_mem _ hx)
    simp only [placesAll, List.length_append, List.length_map, wtAll]
    omega
mutual
theorem places_len {k : Nat} : ∀ {D : PyData}, Sm k D → (places D).length ≤ wt D
  | .none, _ => by decide
  | .bool _, _ => by simp only [places, wt, List.length_singleton]; omega
  | .int _, _ => by simp only [places, wt, List.length_singleton]; omega
  | .str _, _ => by simp only [places, wt, List.length_singleton]; omega
  | .list ds, _ => by simp only [places, wt, List.length_singleton]; omega
  | .dict _, h => by simp only [Sm] at h
  | .tuple ds, h => by
    simp only [Sm] at h
    have := placesAll_lenS (i := 0) h
    simp only [places, wt, List.length_cons]
    omega
theorem placesAll_lenS {k i : Nat} : ∀ {ds : List PyData}, SmAll k ds → (placesAll i ds).length ≤ wtAll ds
  | [], _ => by simp [placesAll]
  | d :: ds, h => by
    simp only [SmAll] at h
    have h1 := places_len h.1
    have h2 := placesAll_lenS (i := i + 1) h.2
    simp only [placesAll, List.length_append, List.length_map, wtAll]
    omega
end
theorem placesAll_mem {i : Nat} {p : List Nat} : ∀ {ds : List PyData}, p ∈ placesAll i ds → ∃ j q d, p = (i + j) :: q ∧ ds[j]? = some d ∧ q ∈ places d
  | [], h => by simp [placesAll] at h
  | d :: ds, h => by
    simp only [placesAll, List.mem_append, List.mem_map] at h
    rcases h with ⟨q, hq, rfl⟩ | h
    · exact ⟨0, q, d, rfl, rfl, hq⟩
    · obtain ⟨j, q, e, rfl, he, hq⟩ := placesAll_mem (i := i + 1) h
      exact ⟨j + 1, q, e, by rw [Nat.add_assoc, Nat.add_comm 1], by simpa using he, hq⟩
theorem at_get {ds : List PyData} {j : Nat} {d : PyData} (h : ds[j]? = some d) : at_ (.tuple ds) j = d := by
  show ds.getD j .none = d
  rw [List.getD_eq_getElem?_getD, h]
  rfl
theorem places_valid : ∀ {p : List Nat} {D : PyData}, p ∈ places D → valid D p
  | [], _, _ => by simp only [valid]
  | i :: p, D, h => by
    cases D with
    | tuple ds =>
      simp only [places, List.mem_cons] at h
      rcases h with h | h
      · cases h
      · obtain ⟨j, q, d, e, hd, hq⟩ := placesAll_mem h
        injection e with e1 e2
        subst e2
        have : i = j := by omega
        subst this
        simp only [valid]
        refine ⟨⟨ds, rfl, (List.getElem?_eq_some_iff.mp hd).1⟩, ?_⟩
        rw [at_get hd]
        exact places_valid hq
    | none => simp [places] at h
    | bool _ => simp [places] at h
    | int _ => simp [places] at h
    | str _ => simp [places] at h
    | list _ => simp [places] at h
    | dict _ => simp [places] at h
theorem valid_len : ∀ {p : List Nat} {D : PyData}, valid D p → p.length ≤ D.depth
  | [], _, _ => Nat.zero_le _
  | i :: p, D, h => by
    simp only [valid] at h
    obtain ⟨⟨ds, rfl, hi⟩, hv⟩ := h
    have h1 := valid_len hv
    have hm : at_ (.tuple ds) i ∈ ds := by
      rw [at_get (List.getElem?_eq_getElem hi)]
      exact List.getElem_mem hi
    have := depthAll_mem hm
    rw [dp_tup, List.length_cons]
    omega
theorem getAt_fine {k W d : Nat} : ∀ {p : List Nat} {D : PyData}, valid D p → Fine k W d D → Fine k W d (getAt D p)
  | [], _, _, h => h
  | i :: p, D, hv, h => by
    simp only [valid] at hv
    obtain ⟨⟨ds, rfl, hi⟩, hv⟩ := hv
    simp only [getAt]
    refine getAt_fine hv ?_
    rw [at_get (List.getElem?_eq_getElem hi)]
    exact h.mem _ (List.getElem_mem hi)
theorem take_drop {ds : List PyData} {i : Nat} (hi : i < ds.length) : ds = ds.take i ++ [at_ (.tuple ds) i] ++ ds.drop (i + 1) := by
  rw [at_get (List.getElem?_eq_getElem hi)]
  simp
theorem putAt_fine {k W d U e : Nat} {P : PyData} (hP : Fine k U e P) : ∀ {p : List Nat} {D : PyData}, valid D p → Fine k W d D → Fine k (W + U) (d + e) (putAt D p P)
  | [], _, _, _ => hP.up (Nat.le_refl _) (by omega) (by omega)
  | i :: p, D, hv, h => by
    simp only [valid] at hv
    obtain ⟨⟨ds, rfl, hi⟩, hv⟩ := hv
    have hm : at_ (.tuple ds) i ∈ ds := by
      rw [at_get (List.getElem?_eq_getElem hi)]
      exact List.getElem_mem hi
    have hw := h.wt
    have hd := h.dp
    rw [wt_tup] at hw
    rw [dp_tup] at hd
    have ew : wtAll ds = wtAll (ds.take i) + (wt (at_ (.tuple ds) i) + 2) + wtAll (ds.drop (i + 1)) := by
      conv => lhs; rw [take_drop hi]
      rw [wtAll_app, wtAll_app]
      simp only [wtAll]
    have ih := putAt_fine (W := wt (at_ (.tuple ds) i)) (d := d - 1) hP hv ⟨sm_tup.mp h.sm _ hm, Nat.le_refl _, by have := depthAll_mem hm; omega⟩
    simp only [putAt, items]
    refine ⟨sm_tup.mpr fun x hx => ?_, ?_, ?_⟩
    · simp only [List.mem_append, List.mem_singleton] at hx
      rcases hx with (hx | rfl) | hx
      · exact sm_tup.mp h.sm x (List.mem_of_mem_take hx)
      · exact ih.sm
      · exact sm_tup.mp h.sm x (List.mem_of_mem_drop hx)
    · rw [wt_tup, wtAll_app, wtAll_app]
      have := ih.wt
      simp only [wtAll]
      omega
    · rw [dp_tup]
      have : PyData.depthAll (ds.take i ++ [putAt (at_ (.tuple ds) i) p P] ++ ds.drop (i + 1)) ≤ d - 1 + e := depthAll_le fun x hx => by
        simp only [List.mem_append, List.mem_singleton] at hx
        rcases hx with (hx | rfl) | hx
        · have := depthAll_mem (List.mem_of_mem_take hx)
          omega
        · exact ih.dp
        · have := depthAll_mem (List.mem_of_mem_drop hx)
          omega
      omega
end P54

set_option maxHeartbeats 1000000
namespace K18
open PySem PySem.Spec PyProof.Rows L2 HG P18
open P54 (Fine)
/-! how much images and outcomes show -/
theorem fn_nat {n : Nat} (h : n < 65536) : Fine 0 22 0 (nD n) := by
  refine ⟨by simp only [P54.Sm]; constructor <;> omega, ?_, by simp only [PyData.depth]; omega⟩
  have e : (PySem.Str.ofString (toString (n : Int))).length ≤ 21 := by
    rw [PySem.ofString_length]
    refine PySem.int_text_length_le (k := 20) (by decide) ?_
    show ((n : Int).natAbs).log2 < 20
    rw [Int.natAbs_natCast]
    by_cases h0 : n = 0
    · rw [h0]; decide
    · exact (Nat.log2_lt h0).mpr (by omega)
  simp only [P54.wt, PyData.shown]
  omega
theorem fn_str {z : Str} (h : OkS 6 z) : Fine 0 63 0 (.str z) := (Fine.str 0 h (by decide)).up (Nat.le_refl _) (by decide) (Nat.le_refl _)
theorem fn_two {d e : PyData} (h1 : Fine 0 63 0 d) (h2 : Fine 0 63 0 e) : Fine 0 135 1 (.tuple [d, e]) := (Fine.tupN (n := 2) (ds := [d, e]) (fun x hx => by
  simp only [List.mem_cons, List.not_mem_nil, or_false] at hx
  rcases hx with rfl | rfl
  · exact h1
  · exact h2) (Nat.le_refl _)).up (Nat.le_refl _) (by decide) (Nat.le_refl _)
theorem fn_n {n : Nat} (h : n < 65536) : Fine 0 63 0 (nD n) := (fn_nat h).up (Nat.le_refl _) (by decide) (Nat.le_refl _)
theorem w_var : OkS 6 ("var" : Str) := ⟨by decide +kernel, by decide +kernel⟩
theorem w_func : OkS 6 ("func" : Str) := ⟨by decide +kernel, by decide +kernel⟩
theorem fn_op {a : Op} (h : OpOk a) : Fine 0 135 1 a.D := by
  cases a with
  | k n => exact (fn_n h).up (Nat.le_refl _) (by decide) (by decide)
  | v s => exact fn_two (fn_str w_var) (fn_n (Nat.lt_trans (show s < 4 from h) (by decide)))
theorem fn_f {k : Nat} (h : k < 5) : Fine 0 135 1 (Wv.f k).D := fn_two (fn_str w_func) (fn_n (Nat.lt_trans h (by decide)))
theorem fn_w (R : Rw) : OkS 6 R.word := by
  cases R <;> exact ⟨by dsimp only [Rw.word]; decide +kernel, by dsimp only [Rw.word]; decide +kernel⟩
theorem fn_x {x : Str} (h : x ∈ ops8) : OkS 6 x := by
  simp only [List.mem_cons, List.not_mem_nil, or_false] at h
  rcases h with rfl | rfl | rfl | rfl | rfl | rfl | rfl | rfl <;> exact ⟨by decide +kernel, by decide +kernel⟩
theorem code_lt {im : Im} (I : ImOk im) {k : Nat} {cd : Cd} (h : im.codes[k]? = some cd) : k < 5 := Nat.lt_of_lt_of_le (List.getElem?_eq_some_iff.mp h).1 I.len
theorem up2 {W d : Nat} {D : PyData} (h : Fine 0 W d D) (h1 : W ≤ 553) (h2 : d ≤ 2) : Fine 0 553 2 D := h.up (Nat.le_refl _) h1 h2
theorem fn_t {im : Im} {pc size : Nat} {ret : Bool} {R : Rw} (I : ImOk im) (hs : size ≤ 12) (hp : pc < size) (h : RwOk im pc size ret R) : ∀ e ∈ R.ps, Fine 0 553 2 e := by
  have N : ∀ {n : Nat}, n < 65536 → Fine 0 553 2 (nD n) := fun h => up2 (fn_n h) (by decide) (by decide)
  have O : ∀ {a : Op}, OpOk a → Fine 0 553 2 a.D := fun h => up2 (fn_op h) (by decide) (by decide)
  have T : ∀ {t : Option Nat}, (∀ s, t = some s → s < 4) → Fine 0 553 2 (optD t) := fun {t} h => by
    cases t with
    | none => exact up2 (Fine.none 0 0) (by decide) (by decide)
    | some t => exact N (Nat.lt_trans (h t rfl) (by decide))
  have A : ∀ {as : List Op}, (∀ a ∈ as, OpOk a) → as.length ≤ 4 → Fine 0 553 2 (.tuple (as.map Op.D)) := fun {as} h hl =>
    (Fine.tupN (n := 4) (ds := as.map Op.D) (fun e he => by
      obtain ⟨a, ha, rfl⟩ := List.mem_map.mp he
      exact fn_op (h a ha)) (by rw [List.length_map]; exact hl)).up (Nat.le_refl _) (by decide) (Nat.le_refl _)
  intro e he
  cases R with
  | op t x a b =>
    obtain ⟨_, _, h3, h4, h5, h6⟩ := h
    simp only [Rw.ps, List.mem_cons, List.not_mem_nil, or_false] at he
    rcases he with rfl | rfl | rfl | rfl
    · exact N (by omega)
    · exact up2 (fn_str (fn_x h4)) (by decide) (by decide)
    · exact O h5
    · exact O h6
  | pr a =>
    obtain ⟨_, _, h3⟩ := h
    simp only [Rw.ps, List.mem_cons, List.not_mem_nil, or_false] at he
    subst he
    exact O h3
  | cw t n =>
    obtain ⟨_, _, h3, h4⟩ := h
    simp only [Rw.ps, List.mem_cons, List.not_mem_nil, or_false] at he
    rcases he with rfl | rfl
    · exact N (by omega)
    · exact N h4
  | cf t k =>
    obtain ⟨_, _, h3, cd, h4, _⟩ := h
    simp only [Rw.ps, List.mem_cons, List.not_mem_nil, or_false] at he
    rcases he with rfl | rfl
    · exact N (by omega)
    · exact up2 (fn_f (code_lt I h4)) (by decide) (by decide)
  | cp t u =>
    obtain ⟨_, _, h3⟩ := h
    simp only [Rw.ps, List.mem_cons, List.not_mem_nil, or_false] at he
    rcases he with rfl | rfl <;> exact N (by omega)
  | ld t c =>
    obtain ⟨_, _, h3⟩ := h
    simp only [Rw.ps, List.mem_cons, List.not_mem_nil, or_false] at he
    rcases he with rfl | rfl <;> exact N (by omega)
  | st c a =>
    obtain ⟨_, _, h3⟩ := h
    simp only [Rw.ps, List.mem_cons, List.not_mem_nil, or_false] at he
    rcases h3 with ⟨rfl, h3⟩ | ⟨rfl, rfl⟩
    · rcases he with rfl | rfl
      · exact N (by decide)
      · exact O h3
    · rcases he with rfl | rfl
      · exact N (by decide)
      · exact up2 (fn_two (fn_str w_var) (fn_n (n := 9) (by decide))) (by decide) (by decide)
  | rd t r a =>
    obtain ⟨_, _, h3⟩ := h
    simp only [Rw.ps, List.mem_cons, List.not_mem_nil, or_false] at he
    rcases h3 with ⟨h3, rfl, h5⟩ | ⟨rfl, rfl, rfl⟩
    · rcases he with rfl | rfl | rfl
      · exact N (by omega)
      · exact N (by decide)
      · exact O h5
    · rcases he with rfl | rfl | rfl <;> exact N (by decide)
  | wr r a b =>
    obtain ⟨_, _, rfl, h4, h5⟩ := h
    simp only [Rw.ps, List.mem_cons, List.not_mem_nil, or_false] at he
    rcases he with rfl | rfl | rfl
    · exact N (by decide)
    · exact O h4
    · exact O h5
  | ca t k as =>
    obtain ⟨_, _, cd, h3, h4, h5, h6⟩ := h
    have hc := (I.codes cd (List.mem_of_getElem? h3)).ps.1
    simp only [Rw.ps, List.mem_cons, List.not_mem_nil, or_false] at he
    rcases he with rfl | rfl | rfl
    · exact T fun s hs => (h4 s hs).1
    · exact N (Nat.lt_trans (code_lt I h3) (by decide))
    · exact A h6 (by omega)
  | ap t u a =>
    obtain ⟨_, _, h3, h4, h5⟩ := h
    simp only [Rw.ps, List.mem_cons, List.not_mem_nil, or_false] at he
    rcases he with rfl | rfl | rfl
    · exact T h3
    · exact N (by omega)
    · exact A (as := [a]) (fun b hb => by rw [List.mem_singleton.mp hb]; exact h5) (show 1 ≤ 4 by decide)
  | ha n =>
    obtain ⟨_, _, h3⟩ := h
    simp only [Rw.ps, List.mem_cons, List.not_mem_nil, or_false] at he
    subst he
    exact N h3
  | jp n =>
    obtain ⟨_, _, h3⟩ := h
    simp only [Rw.ps, List.mem_cons, List.not_mem_nil, or_false] at he
    subst he
    exact N (by omega)
  | br a n =>
    obtain ⟨_, _, h3, h4⟩ := h
    simp only [Rw.ps, List.mem_cons, List.not_mem_nil, or_false] at he
    rcases he with rfl | rfl
    · exact O h3
    · exact N (by omega)
  | un u n =>
    obtain ⟨_, _, h3, h4⟩ := h
    simp only [Rw.ps, List.mem_cons, List.not_mem_nil, or_false] at he
    rcases he with rfl | rfl
    · exact O (a := .v u) h3
    · exact N (by omega)
  | rt a =>
    obtain ⟨_, _, h3⟩ := h
    cases a with
    | none =>
      simp only [Rw.ps, List.mem_cons, List.not_mem_nil, or_false] at he
      subst he
      exact up2 (Fine.none 0 0) (by decide) (by decide)
    | some a =>
      simp only [Rw.ps, List.mem_cons, List.not_mem_nil, or_false] at he
      subst he
      exact O (h3 a rfl)
theorem ps_len (R : Rw) : R.ps.length ≤ 4 := by
  cases R with
  | rt a => cases a <;> exact (show 1 ≤ 4 by decide)
  | _ => first | exact (show 4 ≤ 4 by decide) | exact (show 3 ≤ 4 by decide) | exact (show 2 ≤ 4 by decide) | exact (show 1 ≤ 4 by decide)
theorem fn_row {im : Im} {pc size : Nat} {ret : Bool} {R : Rw} (I : ImOk im) (hs : size ≤ 12) (hp : pc < size) (h : RwOk im pc size ret R) : Fine 0 2780 3 R.D :=
  (Fine.tupN (n := 5) (ds := .str R.word :: R.ps) (fun e he => by
    rcases List.mem_cons.mp he with rfl | he
    · exact up2 (fn_str (fn_w R)) (by decide) (by decide)
    · exact fn_t I hs hp h e he) (by have := ps_len R; rw [List.length_cons]; omega)).up (Nat.le_refl _) (by decide) (Nat.le_refl _)
theorem fn_nats {ns : List Nat} (h : ∀ n ∈ ns, n < 65536) (hl : ns.length ≤ 400) : Fine 0 9605 1 (.tuple (ns.map nD)) :=
  (Fine.tupN (n := 400) (ds := ns.map nD) (fun e he => by
    obtain ⟨n, hn, rfl⟩ := List.mem_map.mp he
    exact fn_nat (h n hn)) (by rw [List.length_map]; exact hl)).up (Nat.le_refl _) (by decide) (Nat.le_refl _)
theorem fn_code {im : Im} {cd : Cd} (I : ImOk im) (h : CdOk im cd) : Fine 0 100178 5 cd.D := by
  have h1 : Fine 0 33389 4 (.tuple (cd.ps.map nD)) := (fn_nats (fun n hn => Nat.lt_trans (h.ps.2.2 n hn) (by decide)) (Nat.le_trans h.ps.1 (by decide))).up (Nat.le_refl _) (by decide) (by decide)
  have h2 : Fine 0 33389 4 (.bool cd.ret) := (Fine.bool 0 0 _).up (Nat.le_refl _) (by decide) (by decide)
  have h3 : Fine 0 33389 4 (.tuple (cd.rows.map Rw.D)) := (Fine.tupN (n := 12) (ds := cd.rows.map Rw.D) (fun e he => by
    obtain ⟨R, hR, rfl⟩ := List.mem_map.mp he
    obtain ⟨pc, hpc⟩ := List.getElem?_of_mem hR
    exact fn_row I h.size.2 (List.getElem?_eq_some_iff.mp hpc).1 (h.rows pc R hpc)) (by rw [List.length_map]; exact h.size.2)).up (Nat.le_refl _) (by decide) (Nat.le_refl _)
  refine (Fine.tupN (n := 3) (W := 33389) (d := 4) (fun e he => ?_) (Nat.le_refl _)).up (Nat.le_refl _) (by decide) (Nat.le_refl _)
  simp only [List.mem_cons, List.not_mem_nil, or_false] at he
  rcases he with rfl | rfl | rfl
  · exact h1
  · exact h2
  · exact h3
theorem nm_ok {z : Str} (h : z ∈ nm5) : OkS 6 z := by
  simp only [List.mem_cons, List.not_mem_nil, or_false] at h
  rcases h with rfl | rfl | rfl | rfl | rfl <;> exact ⟨by decide +kernel, by decide +kernel⟩
theorem fn_im {im : Im} (I : ImOk im) (hn : ∀ e ∈ im.entries, e.1 ∈ nm5) : Fine 0 3000000 7 im.D := by
  have B : ∀ {W d : Nat} {D : PyData}, Fine 0 W d D → W ≤ 500905 → d ≤ 6 → Fine 0 500905 6 D := fun h h1 h2 => h.up (Nat.le_refl _) h1 h2
  have T2 : ∀ {W d : Nat} {a b : PyData}, Fine 0 W d a → Fine 0 W d b → Fine 0 (5 + 2 * (W + 2)) (d + 1) (.tuple [a, b]) := fun h1 h2 => Fine.tupN (n := 2) (fun e he => by
    simp only [List.mem_cons, List.not_mem_nil, or_false] at he
    rcases he with rfl | rfl
    · exact h1
    · exact h2) (Nat.le_refl _)
  have S : ∀ {z : Str} {W d : Nat}, OkS 6 z → 63 ≤ W → Fine 0 W d (.str z) := fun h hW => (fn_str h).up (Nat.le_refl _) hW (Nat.zero_le _)
  obtain ⟨cg, eg, _⟩ := I.gf
  obtain ⟨ct, et, _⟩ := I.tf
  have h1 : Fine 0 500905 6 (.tuple (im.codes.map Cd.D)) := (Fine.tupN (n := 5) (ds := im.codes.map Cd.D) (fun e he => by
    obtain ⟨cd, hcd, rfl⟩ := List.mem_map.mp he
    exact fn_code I (I.codes cd hcd)) (by rw [List.length_map]; exact I.len)).up (Nat.le_refl _) (by decide) (Nat.le_refl _)
  have h2 : Fine 0 500905 6 (.tuple [.tuple [.str "ga", nD im.ga], .tuple [.str "gf", (Wv.f im.gf).D]]) :=
    B (T2 (W := 279) (d := 2) ((fn_two (fn_str ⟨by decide +kernel, by decide +kernel⟩) (fn_n I.ga)).up (Nat.le_refl _) (by decide) (by decide)) (T2 (W := 135) (d := 1) (S ⟨by decide +kernel, by decide +kernel⟩ (by decide)) (fn_f (code_lt I eg)))) (by decide) (by decide)
  have h3 : Fine 0 500905 6 (.tuple [.tuple [.str "ta", .tuple (im.ta.map nD)], .tuple [.str "tf", .tuple [(Wv.f im.tf).D]]]) := by
    have a1 : Fine 0 (5 + 2 * (9605 + 2)) 3 (.tuple [.str "ta", .tuple (im.ta.map nD)]) := (T2 (W := 9605) (d := 1) (S ⟨by decide +kernel, by decide +kernel⟩ (by decide)) (fn_nats I.ta.2.2 (Nat.le_trans I.ta.2.1 (by decide)))).up (Nat.le_refl _) (Nat.le_refl _) (by decide)
    have a2 : Fine 0 (5 + 2 * (9605 + 2)) 3 (.tuple [.str "tf", .tuple [(Wv.f im.tf).D]]) := (T2 (W := 142) (d := 2) (S ⟨by decide +kernel, by decide +kernel⟩ (by decide)) (Fine.tup1 (fn_f (code_lt I et)))).up (Nat.le_refl _) (by decide) (Nat.le_refl _)
    exact B (T2 a1 a2) (by decide) (by decide)
  have h4 : Fine 0 500905 6 (.tuple (im.starts.map nD)) := B (fn_nats (fun n hn => by
    obtain ⟨cd, e, _⟩ := I.starts.2 n hn
    exact Nat.lt_trans (code_lt I e) (by decide)) (Nat.le_trans I.starts.1 (by decide))) (by decide) (by decide)
  have h5 : Fine 0 500905 6 (.tuple (im.entries.map enD)) := B (Fine.tupN (n := 5) (W := 200) (d := 1) (ds := im.entries.map enD) (fun e he => by
    obtain ⟨x, hx, rfl⟩ := List.mem_map.mp he
    obtain ⟨cd, e1, _, e3⟩ := I.entries.2.2 x hx
    have hc := (I.codes cd (List.mem_of_getElem? e1)).ps.1
    have hk := code_lt I e1
    refine (Fine.tupN (n := 3) (W := 63) (d := 0) (fun y hy => ?_) (Nat.le_refl _)).up (Nat.le_refl _) (by decide) (Nat.le_refl _)
    simp only [List.mem_cons, List.not_mem_nil, or_false] at hy
    rcases hy with rfl | rfl | rfl
    · exact fn_str (nm_ok (hn x hx))
    · exact fn_n (by omega)
    · exact fn_n (by omega)) (by rw [List.length_map]; exact I.entries.1)) (by decide) (by decide)
  refine (Fine.tupN (n := 5) (W := 500905) (d := 6) (fun e he => ?_) (Nat.le_refl _)).up (Nat.le_refl _) (by decide) (Nat.le_refl _)
  simp only [List.mem_cons, List.not_mem_nil, or_false] at he
  rcases he with rfl | rfl | rfl | rfl | rfl
  · exact h1
  · exact h2
  · exact h3
  · exact h4
  · exact h5
/-- what repr needs -/
theorem fn_repr {W d : Nat} {D : PyData} (h : Fine 0 W d D) (hW : W ≤ 3000000) (hd : d ≤ 150) : D.showable = true ∧ D.depth ≤ 150 ∧ D.shown.length ≤ sizeLine := by
  obtain ⟨h1, h2⟩ := P54.shown_len (by decide) h.sm
  exact ⟨h1, Nat.le_trans h.dp hd, Nat.le_trans h2 (Nat.le_trans h.wt (Nat.le_trans hW (by decide)))⟩
def FinSm : P18.Fin → Prop
  | .trap x => OkS 6 x
  | .halted n => n < 65536
  | .returned n => n < 65536
theorem sm_zero : OkS 6 ("zero" : Str) := ⟨by decide +kernel, by decide +kernel⟩
theorem sm_bounds : OkS 6 ("bounds" : Str) := ⟨by decide +kernel, by decide +kernel⟩
theorem row_of {im : Im} (I : ImOk im) {s : Ms} (S : MsOk im s) : ∃ f0 r R, Row im s f0 r R ∧ P18.step im s = stepR im s (adv f0) r R := by
  obtain ⟨f0, r, efr⟩ : ∃ f0 r, s.fr = f0 :: r := by
    cases e : s.fr with
    | nil => exact absurd e S.ne
    | cons f r => exact ⟨f, r, rfl⟩
  have hst := S.fr
  rw [efr] at hst
  obtain ⟨cd, hfm, hto, _⟩ := top_fm hst
  obtain ⟨R, hR⟩ : ∃ R, cd.rows[f0.pc]? = some R := ⟨_, List.getElem?_eq_getElem hfm.pc⟩
  have hra : rowAt im f0.k f0.pc = some R := by
    unfold rowAt
    rw [hfm.code]
    exact hR
  refine ⟨f0, r, R, ⟨I, S, efr, hra⟩, ?_⟩
  unfold P18.step
  rw [efr]
  show (match rowAt im f0.k f0.pc with | none => Out.stop (.halted 0) | some R => stepR im s (adv f0) r R) = _
  rw [hra]
theorem step_sm {im : Im} (I : ImOk im) {s : Ms} (S : MsOk im s) : (∀ s' k, P18.step im s = .go s' (some k) → k < 65536) ∧ ∀ e, P18.step im s = .stop e → FinSm e := by
  obtain ⟨f0, r, R, hrow, est⟩ := row_of I S
  obtain ⟨cd, _, _, hh, hrw, _⟩ := hrow.cd
  rw [est]
  refine ⟨fun s' k h => ?_, fun e h => ?_⟩
  · by_cases hp : isPr R = true
    · cases R <;> first | cases hp | skip
      obtain ⟨_, hw⟩ := (worth_ok hh hrw.2.2).n
      cases h
      exact hw
    · have := nopr (by simpa using hp) s' _ h
      cases this
  · cases R with
    | op t x a b =>
      have h : (match comp x (worth f0.h a).n (worth f0.h b).n with | none => Out.stop (.trap "zero") | some n => .go { s with fr := { adv f0 with h := hput f0.h t (.w n) } :: r } none) = .stop e := h
      split at h
      · cases h; exact sm_zero
      · cases h
    | rd t c a =>
      rw [asg_step (show asgV s f0.h (.rd t c a) = some (t, rdV s f0.h c a) from rfl)] at h
      generalize rdV s f0.h c a = o at h
      cases o with
      | some y => cases h
      | none =>
        have h : Out.stop (.trap (if (("read" : Str) = "op") then ("zero" : Str) else "bounds")) = .stop e := h
        rw [if_neg (show ¬ (("read" : Str) = "op") by decide +kernel)] at h
        cases h
        exact sm_bounds
    | wr c a b =>
      have h : (if (worth f0.h a).n < s.r0.length then Out.go { s with fr := adv f0 :: r, r0 := s.r0.set (worth f0.h a).n (worth f0.h b).n } none else .stop (.trap "bounds")) = .stop e := h
      split at h
      · cases h
      · cases h; exact sm_bounds
    | ap t u a =>
      have h : (match f0.h u with | .f k => Out.go { s with fr := entered im k [worth f0.h a] t :: adv f0 :: r } none | .w _ => .stop (.halted 0)) = .stop e := h
      split at h
      · cases h
      · cases h; show 0 < 65536; decide
    | ha n => cases h; exact hrw.2.2
    | rt a =>
      have h : left im s r f0.t (a.map (worth f0.h)) = .stop e := h
      unfold left at h
      split at h
      · cases h
      · split at h
        · cases h
        · cases h
          show ((a.map (worth f0.h)).map Wv.n).getD 0 < 65536
          cases a with
          | none => show 0 < 65536; decide
          | some o => exact (worth_ok hh (hrw.2.2 o rfl)).n.2
    | _ => cases h
theorem runs_sm {im : Im} (I : ImOk im) {s : Ms} (S : MsOk im s) : ∀ n, (∀ x ∈ (runs im s n).1, x < 65536) ∧ ∀ e, (runs im s n).2 = .fin e → FinSm e
  | 0 => ⟨(fun x h => nomatch h), (fun e h => nomatch h)⟩
  | n + 1 => by
    obtain ⟨h1, h2⟩ := runs_sm I S n
    have hok := runs_ok I S n
    rcases er : runs im s n with ⟨ps, r⟩
    rw [er] at h1 h2 hok
    cases r with
    | fin e =>
      have ef : runs im s (n + 1) = runs im s n := runs_fin (im := im) (s := s) (m := n) (e := e) (by rw [er]) 1
      rw [ef, er]
      exact ⟨h1, h2⟩
    | «at» s' =>
      have S' := hok s' rfl
      obtain ⟨g1, g2⟩ := step_sm I S'
      rw [runs_succ er]
      cases es : P18.step im s' with
      | go s2 p =>
        refine ⟨fun x hx => ?_, fun e h => nomatch h⟩
        rcases List.mem_append.mp hx with h | h
        · exact h1 x h
        · cases p with
          | none => cases h
          | some k =>
            rw [List.mem_singleton.mp h]
            exact g1 s2 k es
      | stop e => exact ⟨h1, fun e' h => by cases h; exact g2 e es⟩
/-- outcomes can be shown -/
theorem fn_res {ps : List Nat} {D : PyData} (h : ∀ n ∈ ps, n < 65536) (hl : ps.length ≤ 400) (hD : Fine 0 175 1 D) : Fine 0 3000000 3 (.tuple [.tuple (ps.map nD), D]) :=
  (Fine.tupN (n := 2) (W := 9605) (d := 1) (fun e he => by
    simp only [List.mem_cons, List.not_mem_nil, or_false] at he
    rcases he with rfl | rfl
    · exact fn_nats h hl
    · exact hD.up (Nat.le_refl _) (by decide) (Nat.le_refl _)) (Nat.le_refl _)).up (Nat.le_refl _) (by decide) (by decide)
theorem fn_str8 {z : Str} (h : OkS 8 z) : Fine 0 83 0 (.str z) := (Fine.str 0 h (by decide)).up (Nat.le_refl _) (by decide) (Nat.le_refl _)
theorem fn_two8 {d e : PyData} (h1 : Fine 0 83 0 d) (h2 : Fine 0 83 0 e) : Fine 0 175 1 (.tuple [d, e]) := (Fine.tupN (n := 2) (ds := [d, e]) (fun x hx => by
  simp only [List.mem_cons, List.not_mem_nil, or_false] at hx
  rcases hx with rfl | rfl
  · exact h1
  · exact h2) (Nat.le_refl _)).up (Nat.le_refl _) (by decide) (Nat.le_refl _)
theorem fn_fin {e : P18.Fin} (h : FinSm e) : Fine 0 175 1 e.D := by
  have N : ∀ {n : Nat}, n < 65536 → Fine 0 83 0 (nD n) := fun h => (fn_nat h).up (Nat.le_refl _) (by decide) (Nat.le_refl _)
  cases e with
  | trap x => exact fn_two8 (fn_str8 ⟨by decide +kernel, by decide +kernel⟩) (fn_str8 (OkS.up h (by decide)))
  | halted n => exact fn_two8 (fn_str8 ⟨by decide +kernel, by decide +kernel⟩) (N h)
  | returned n => exact fn_two8 (fn_str8 ⟨by decide +kernel, by decide +kernel⟩) (N h)
theorem fn_run : Fine 0 175 1 runD := (Fine.tup1 (fn_str8 (z := "running") ⟨by decide +kernel, by decide +kernel⟩)).up (Nat.le_refl _) (by decide) (Nat.le_refl _)
end K18

set_option maxHeartbeats 1000000
namespace K18
open PySem PySem.Spec PyProof.Rows L2 HG P18
abbrev endD : Res → PyData
  | .at _ => runD
  | .fin e => e.D
theorem res_eq {r : List Nat × Res} : resD r = .tuple [.tuple (r.1.map nD), endD r.2] := by
  obtain ⟨ps, r⟩ := r
  cases r <;> rfl
theorem res_due {im : Im} {s0 : Ms} {i m : Nat} (hat : ∀ t, t < i → ∃ s, (runs im s0 t).2 = .at s) (hm : m ≤ i ∨ ∃ e, (runs im s0 i).2 = .fin e) :
    resD (runs im s0 m) = .tuple [.tuple (((runs im s0 i).1.take ((runs im s0 (min m i)).1.length)).map nD), if i ≤ m then endD (runs im s0 i).2 else runD] := by
  rw [res_eq]
  by_cases h1 : m < i
  · obtain ⟨s, e⟩ := hat m h1
    rw [Nat.min_eq_left (Nat.le_of_lt h1), runs_take (Nat.le_of_lt h1), if_neg (by omega), e]
  · by_cases h2 : m = i
    · subst h2
      rw [Nat.min_self, runs_take (Nat.le_refl m), if_pos (Nat.le_refl m)]
    · obtain ⟨e, he⟩ := hm.resolve_left (by omega)
      have ef := runs_fin (im := im) (s := s0) (m := i) he (m - i)
      rw [Nat.add_sub_cancel' (show i ≤ m by omega)] at ef
      rw [ef, Nat.min_eq_right (by omega), runs_take (Nat.le_refl i), if_pos (by omega)]
abbrev toldV (im : Im) (s0 : Ms) (i : Nat) : List V := (List.range (i + 1)).map fun t => nV (runs im s0 t).1.length
theorem told_succ (im : Im) (s0 : Ms) (i : Nat) : toldV im s0 (i + 1) = toldV im s0 i ++ [nV (runs im s0 (i + 1)).1.length] := by
  show List.map _ (List.range (i + 1 + 1)) = _
  rw [List.range_succ, List.map_append]
  rfl
theorem StR.put {K : PySem.W.Frag} {S : Sh K} {im : Im} {A : Ad} {H : Hp} {fa : List (Addr × Addr)} {n : Nat} {r : Res} {a : Addr} {o : HO} (h : StR S im A H fa n r) (hm : Mut (H a)) (ha : a ∉ allA S A fa) : StR S im A (upd H a o) fa n r := by
  cases r with
  | «at» s => exact ⟨h.1.mv (F := [a]) (F' := [a]) (Mv.put (List.mem_singleton.mpr rfl) hm) (fun b hb z => ha (List.mem_singleton.mp z ▸ hb)), h.2⟩
  | fin e =>
    obtain ⟨v, e1, e2⟩ := h
    have hn : noL e.D = true := by cases e <;> rfl
    exact ⟨v, by rw [upd_ne (fun z => ha (by rw [← z]; exact in_base (by simp)))]; exact e1, dp_kt (KT.put hm) _ _ hn e2⟩
/-- the law's machine in its loop -/
structure WL (P : Program) (w : World) (K : PySem.W.Frag) (im : Im) (cv : V) (pr tl : Addr) (A : Ad) (s0 : Ms) (H H' : Hp) (i : Nat) (fa : List (Addr × Addr)) : Prop where
  tlv : H' tl = some (.lst (toldV im s0 i))
  prv : H' pr = some (.lst ((runs im s0 i).1.map nV))
  npr : pr ∉ allA (ShL P w K im cv pr) A fa
  ntl : tl ∉ [pr] ++ allA (ShL P w K im cv pr) A fa
  mv : Mv [] H ([tl] ++ ([pr] ++ allA (ShL P w K im cv pr) A fa)) H'
  st : StR (ShL P w K im cv pr) im A H' fa (1 + i) (runs im s0 i).2
  at_ : ∀ t, t < i → ∃ s, (runs im s0 t).2 = .at s
theorem WL.top {P : Program} {w : World} {K : PySem.W.Frag} {im : Im} {cv : V} {pr tl : Addr} {A : Ad} {s0 : Ms} {H H' : Hp} {i : Nat} {fa : List (Addr × Addr)} (h : WL P w K im cv pr tl A s0 H H' i fa) : ∃ v, H' A.top = some (McO cv pr A v) ∧ ((∃ s, (runs im s0 i).2 = .at s) → v = .non) ∧ (∀ e, (runs im s0 i).2 = .fin e → v ≠ .non ∧ Dp K H' v e.D) := by
  have st := h.st
  generalize (runs im s0 i).2 = r at st ⊢
  cases r with
  | «at» s => exact ⟨.non, st.1.bs.top, fun _ => rfl, fun e he => nomatch he⟩
  | fin e =>
    obtain ⟨v, e1, e2⟩ := st
    refine ⟨v, e1, (fun h => by obtain ⟨s, he⟩ := h; cases he), fun e' he => ?_⟩
    cases he
    refine ⟨fun z => ?_, e2⟩
    rw [z] at e2
    cases e <;> cases e2
theorem wt_go {σ : L2.St} {H : Hp} {Q : Bool → Hp → Prop} {m : Addr} {v : V} {i : Nat} (h5 : σ[5]? = some (some (.ref m))) (h7 : σ[7]? = some (some (nV i))) (hd : DGet H m (.str "end") (some v)) (k : Q (decide (v = .non) && decide (i < 400)) H) :
    tAnd (tTest (tOp (fun x y H Q => y = V.non ∧ Q (V.bl (decide (x = V.non))) H) (tDGet (tVar 5) (tC (V.str "end"))) (tC V.non))) (tTest (tOp (rI0 fun i j => V.bl (decide (i < j))) (tVar 7) (tC (V.int 400)))) σ H Q := by
  refine ⟨_, h5, m, v, rfl, hd, rfl, _, rfl, ?_⟩
  by_cases e : v = .non
  · refine ifT (decide_eq_true e) ⟨_, h7, _, _, rfl, rfl, _, rfl, ?_⟩
    rw [decide_eq_true e, Bool.true_and] at k
    have e2 : decide ((i : Int) < 400) = decide (i < 400) := by
      by_cases h : i < 400
      · rw [decide_eq_true h, decide_eq_true (by omega)]
      · rw [decide_eq_false h, decide_eq_false (by omega)]
    show Q (decide ((i : Int) < 400)) H
    rw [e2]
    exact k
  · refine ifF (decide_eq_false e) ?_
    rw [decide_eq_false e, Bool.false_and] at k
    exact k
theorem cutV_to (ds : List V) (i : Nat) : cutV ds none (some (i : Int)) = ds.take i := by
  unfold cutV
  have e1 : HT.sIx ds.length 0 none = 0 := rfl
  rw [e1, HT.sIx_nat, List.drop_zero, Nat.sub_zero]
  by_cases h : i ≤ ds.length
  · rw [Nat.min_eq_left h]
  · rw [Nat.min_eq_right (by omega), List.take_length, List.take_of_length_le (by omega)]
/-- both runs, shown -/
def TU (K : PySem.W.Frag) : TS := tFor (iRng1 (tCons (tC (V.int 2)) tNil)) (gName 12) (tIfS (tTest (tOp rNe (tCB (rRepr K) (tCons (tCall (spRun K) [] E0 (tCons (tVar 1) (tCons (tVar 2) (tCons (tVar 4) (tCons (tVar 9) tNil))))) tNil)) (tCB (rRepr K) (tCons (tVar 11) tNil)))) (tRet (tC (V.bl false))) tNext)
/-- what is due -/
def DU (K : PySem.W.Frag) : TS := tSeq (tAsg (tTup (tCons (tCB (fun xs H_1 Q => ∃ p ys, xs = [V.ref p] ∧ ((SqL K H_1 p ys ∧ ∀ (l : Addr), H_1 l = none → Q (V.ref l) (upd H_1 l (HO.tup ys))) ∨ SqT K H_1 p ys ∧ Q (V.ref p) H_1)) (tCons (tSl (rSlL K) (tDGet (tVar 5) (tC (V.str "prints"))) tNoPart (tPart (tOp (rIxL K) (tVar 6) (tCB (fun xs H Q => ∃ i j, xs = [V.int i, V.int j] ∧ Q (V.int (if j < i then j else i)) H) (tCons (tVar 9) (tCons (tVar 7) tNil)))))) tNil)) (tCons (tVar 10) tNil))) (gName 11)) (TU K)
def EN (K : PySem.W.Frag) : TS := tSeq (tAsg (tIf (tAnd (tTest (tOp (rI0 fun i j => V.bl (decide (j ≤ i))) (tVar 9) (tVar 7))) (tTest (tOp (fun x y H Q => y = V.non ∧ Q (V.bl !decide (x = V.non)) H) (tDGet (tVar 5) (tC (V.str "end"))) (tC V.non)))) (tDGet (tVar 5) (tC (V.str "end"))) (tTup (tCons (tC (V.str "running")) tNil))) (gName 10)) (DU K)
def LP (K : PySem.W.Frag) : TS := tSeq (tFor (iList K (tVar 8)) (gName 9) (EN K)) (tRet (tC (V.bl true)))
/-- what the loops see -/
structure Lo (K : PySem.W.Frag) (im : Im) (cv : V) (pr tl al : Addr) (A : Ad) (nm : Str) (k : Nat) (ws : List Nat) (vi : V) (wa : Addr) (i : Nat) (v : V) (ms : List Nat) (H : Hp) : Prop where
  ask : Ask im nm k ws
  top : H A.top = some (McO cv pr A v)
  tlv : H tl = some (.lst (toldV im (begun im k ws) i))
  prv : H pr = some (.lst ((runs im (begun im k ws) i).1.map nV))
  alv : H al = some (.lst (ms.map nV))
  vi : Dp K H vi im.D
  wa : SqT K H wa (ws.map nV)
  at_ : ∀ t, t < i → ∃ s, (runs im (begun im k ws) t).2 = .at s
  non : (∃ s, (runs im (begun im k ws) i).2 = .at s) → v = .non
  fin : ∀ e, (runs im (begun im k ws) i).2 = .fin e → v ≠ .non ∧ Dp K H v e.D
  le : i ≤ 400
  ms : ∀ m ∈ ms, m ≤ 50000 ∧ (m ≤ i ∨ ∃ e, (runs im (begun im k ws) i).2 = .fin e)
section
variable {K : PySem.W.Frag} {im : Im} {cv : V} {pr tl al d : Addr} {A : Ad} {nm : Str} {k : Nat} {ws : List Nat} {vi : V} {wa : Addr} {i : Nat} {v : V} {ms : List Nat} {H H1 : Hp} {D : Ends}
theorem Lo.same (L : Lo K im cv pr tl al A nm k ws vi wa i v ms H) (s : Same H H1) : Lo K im cv pr tl al A nm k ws vi wa i v ms H1 :=
  ⟨L.ask, s _ _ L.top, s _ _ L.tlv, s _ _ L.prv, s _ _ L.alv, dp_mono s _ _ L.vi, sqT_same s L.wa, L.at_, L.non, fun e he => ⟨(L.fin e he).1, dp_mono s _ _ (L.fin e he).2⟩, L.le, L.ms⟩
abbrev stR (d : Addr) (vi : V) (nm : Str) (k : Nat) (wa : Addr) (A : Ad) (tl al : Addr) (i : Nat) (x9 x10 x11 x12 : Option V) : L2.St := [some (.ref d), some vi, some (.str nm), some (nV k), some (.ref wa), some (.ref A.top), some (.ref tl), some (nV i), some (.ref al), x9, x10, x11, x12, none]
theorem turnL {m : Nat} {x10 x12 : Option V} {z : V} (L : Lo K im cv pr tl al A nm k ws vi wa i v ms H) (hm : m ≤ 50000) (hz : Dp K H z (resD (runs im (begun im k ws) m))) (hF : P54.Fine 0 3000000 3 (resD (runs im (begun im k ws) m)))
    (q : ∀ x12 H', Same H H' → D.nx (stR d vi nm k wa A tl al i (some (nV m)) x10 (some z) x12) H') : TU K D (stR d vi nm k wa A tl al i (some (nV m)) x10 (some z) x12) H := by
  obtain ⟨f1, f2, f3⟩ := fn_repr hF (Nat.le_refl _) (by decide)
  refine ⟨2, rfl, by decide, by decide, for_range (lo := 0) (n := (2 : Int).toNat) (fun j st H2 => ∃ x12, st = stR d vi nm k wa A tl al i (some (nV m)) x10 (some z) x12 ∧ Same H H2) ⟨_, rfl, Same.refl H⟩ ?_ (fun st H2 ⟨x, e, s⟩ => by rw [e]; exact q x H2 s)⟩
  rintro j st H2 hj ⟨x, rfl, s2⟩
  have L2 := L.same s2
  refine ⟨_, rfl, _, rfl, _, rfl, _, rfl, im, vi, nm, k, ws, wa, m, rfl, L2.ask, hm, L2.vi, L2.wa, fun H3 z3 s3 hz3 => ?_⟩
  refine ⟨z3, _, rfl, hz3, f1, f2, f3, _, rfl, z, _, rfl, dp_mono (s2.trans s3) _ _ hz, f1, f2, f3, rfl, _, rfl, ?_⟩
  refine ifF (by rw [decide_eq_true rfl]; rfl) ⟨_, rfl, s2.trans s3⟩
theorem dueL {m : Nat} {x11 x12 : Option V} {z : V} (L : Lo K im cv pr tl al A nm k ws vi wa i v ms H) (hm : m ∈ ms) (hz : Dp K H z (if i ≤ m then endD (runs im (begun im k ws) i).2 else runD))
    (q : ∀ x11 x12 H', Same H H' → D.nx (stR d vi nm k wa A tl al i (some (nV m)) (some z) x11 x12) H') : DU K D (stR d vi nm k wa A tl al i (some (nV m)) (some z) x11 x12) H := by
  obtain ⟨hm5, hmi⟩ := L.ms m hm
  have hmin : (if (i : Int) < (m : Int) then (i : Int) else (m : Int)) = ((min m i : Nat) : Int) := by
    split <;> omega
  have hat : (toldV im (begun im k ws) i)[min m i]? = some (nV (runs im (begun im k ws) (min m i)).1.length) := by
    rw [List.getElem?_map, List.getElem?_range (by omega)]
    rfl
  refine ⟨_, rfl, A.top, .ref pr, rfl, mc_prints L.top, _, rfl, _, rfl, _, rfl, _, _, rfl, ?_⟩
  rw [hmin]
  refine ⟨tl, _, _, _, rfl, rfl, .inl (.inl L.tlv), atI_nat hat, _, rfl, pr, _, rfl, .inl (.inl L.prv), fun l1 hl1 => ⟨l1, _, rfl, .inl ⟨.inl (.inl upd_same), fun l2 hl2 => ⟨_, rfl, (by show 2 ≤ sizeLine; decide), fun l3 hl3 => ?_⟩⟩⟩⟩
  rw [cutV_to, ← List.map_take] at hl2 hl3 ⊢
  have g2 := dp_tupN (K := K) hl2 (dp_nvs ((runs im (begun im k ws) i).1.take (runs im (begun im k ws) (min m i)).1.length))
  have s12 := (same_new (o := .lst (((runs im (begun im k ws) i).1.take (runs im (begun im k ws) (min m i)).1.length).map nV)) hl1).trans (same_new (o := .tup (((runs im (begun im k ws) i).1.take (runs im (begun im k ws) (min m i)).1.length).map nV)) hl2)
  have g3 := dp_tupN (K := K) hl3 (.cons g2 (.cons (dp_mono s12 _ _ hz) .nil))
  have s13 := s12.trans (same_new (o := .tup [.ref l2, z]) hl3)
  have ed := res_due (m := m) L.at_ hmi
  rw [← ed] at g3
  have hF : P54.Fine 0 3000000 3 (resD (runs im (begun im k ws) m)) := by
    rw [ed]
    obtain ⟨q1, q2⟩ := runs_sm L.ask.I L.ask.ok i
    refine fn_res (fun n hn => q1 n (List.mem_of_mem_take hn)) ?_ ?_
    · rw [List.length_take]
      have := runs_len (im := im) (s := begun im k ws) i
      have := L.le
      omega
    · by_cases h : i ≤ m
      · rw [if_pos h]
        cases e : (runs im (begun im k ws) i).2 with
        | «at» s => exact fn_run
        | fin e2 => exact fn_fin (q2 e2 e)
      · rw [if_neg h]
        exact fn_run
  exact turnL (L.same s13) hm5 g3 hF fun x12 H' s => q _ _ H' (s13.trans s)
theorem endL {m : Nat} {x10 x11 x12 : Option V} (L : Lo K im cv pr tl al A nm k ws vi wa i v ms H) (hm : m ∈ ms)
    (q : ∀ x10 x11 x12 H', Same H H' → D.nx (stR d vi nm k wa A tl al i (some (nV m)) x10 x11 x12) H') : EN K D (stR d vi nm k wa A tl al i (some (nV m)) x10 x11 x12) H := by
  have run : endD (runs im (begun im k ws) i).2 = runD ∨ ¬ i ≤ m → tTup (tCons (tC (V.str "running")) tNil) (stR d vi nm k wa A tl al i (some (nV m)) x10 x11 x12) H (fun x H1 => gName 10 x (stR d vi nm k wa A tl al i (some (nV m)) x10 x11 x12) H1 (DU K D)) := fun h => by
    refine ⟨(by show 1 ≤ sizeLine; decide), fun pt hpt => ?_⟩
    have s1 := same_new (o := .tup [.str "running"]) hpt
    have g := dp_tupN (K := K) hpt (.cons (.str "running") .nil)
    refine dueL (L.same s1) hm ?_ fun x11 x12 H' s => q _ _ _ H' (s1.trans s)
    rcases h with h | h
    · rw [h, ite_self]
      exact g
    · rw [if_neg h]
      exact g
  refine ⟨_, rfl, _, rfl, _, _, rfl, rfl, _, rfl, ?_⟩
  by_cases h : i ≤ m
  · refine ifT (decide_eq_true (by omega)) ⟨_, rfl, A.top, v, rfl, mc_end L.top, rfl, _, rfl, ?_⟩
    cases e : (runs im (begun im k ws) i).2 with
    | «at» s' =>
      have hv := L.non ⟨s', e⟩
      exact ifF (by rw [hv]; rfl) (run (.inl (by rw [e])))
    | fin e2 =>
      obtain ⟨hv, hd⟩ := L.fin e2 e
      refine ifT (by rw [decide_eq_false hv]; rfl) ⟨_, rfl, A.top, v, rfl, mc_end L.top, ?_⟩
      refine dueL L hm ?_ fun x11 x12 H' s => q _ _ _ H' s
      rw [if_pos h, e]
      exact hd
  · exact ifF (decide_eq_false (by omega)) (iteF (run (.inr h)))
theorem loopL {x9 x10 x11 x12 : Option V} (L : Lo K im cv pr tl al A nm k ws vi wa i v ms H) (q : ∀ H', Same H H' → D.rt (.bl true) H') : LP K D (stR d vi nm k wa A tl al i x9 x10 x11 x12) H := by
  refine ⟨_, rfl, al, rfl, ⟨_, .inl (.inl L.alv)⟩, for_it (walk_list (xs := ms.map nV)) (fun j st H2 => ∃ x9 x10 x11 x12, st = stR d vi nm k wa A tl al i x9 x10 x11 x12 ∧ Same H H2) ⟨_, _, _, _, rfl, Same.refl H⟩ (fun j st H2 _ ⟨_, _, _, _, _, s⟩ => .inl (.inl (s _ _ L.alv))) ?_ ?_⟩
  · rintro j x st H2 H3 hj ⟨y9, y10, y11, y12, rfl, s2⟩ ⟨rfl, hx⟩
    rw [List.getElem?_map] at hx
    cases hm : ms[j]? with
    | none => rw [hm] at hx; cases hx
    | some m =>
      rw [hm] at hx
      cases hx
      exact endL (L.same s2) (List.mem_of_getElem? hm) fun x10 x11 x12 H' s => ⟨_, _, _, _, rfl, s2.trans s⟩
  · rintro st H2 ⟨_, _, _, _, rfl, s⟩
    exact q H2 s
end
def spRight (K : PySem.W.Frag) : Sp := fun vs H Q _ => ∃ (im : Im) (d c : Addr) (n : Nat) (vi : V) (nm : Str) (k : Nat) (ws : List Nat) (wa : Addr), vs = [.ref d, vi, .str nm, nV k, .ref wa] ∧ n < 2 ^ 50 ∧ Ask im nm k ws ∧ Deck d c n H ∧ Dp K (off d c H) vi im.D ∧ SqT K (off d c H) wa (ws.map nV) ∧
  ∀ H', Deck d c (n + 3) H' → Ext d c H H' → Q (.bl true) H'
section
variable {P : Program} {w : World} {K : PySem.W.Frag} {mg : Str → Option Value} {base : Heap}
set_option pp.maxSteps 600 in
theorem c_right (T : Txt w K mg) : CalG P w K mg base "_law_right" 12 ["_law_deck_here", "_law_image_here", "_law_name", "_law_number", "_law_words"] (spRight K) := by
  obtain ⟨fd, F⟩ := T.d__law_right
  have C__law_begun := c_begun (P := P) (w := w) (base := base) T
  have C__law_step := c_step (P := P) (w := w) (base := base) T
  have C__law_draw := c_draw (P := P) (w := w) (base := base) T
  have C__law_run := c_run (P := P) (w := w) (base := base) T
  refine ⟨⟨fd, fng_of (k := 11) F sc__law_right (fun vs H Q E h => by repeat (first | (obtain ⟨e, _⟩ := h; subst e; rfl) | (obtain ⟨_, h⟩ := h))) (fun cdv A outer s H vs Q E hr hgd h => ?_), F.bindsN fun _ _ _ _ _ _ us hl => match us, hl with | [_, _, _, _, _], _ => rfl⟩, T.g _ (by decide), F.kp⟩
  obtain ⟨im, d, c, n, vi, nm, k, ws, wa, rfl, hn, ha, dk, hvi, hwa, q⟩ := h
  have hu := hu_of hr
  refine ⟨_, PSs.nox (pss_cons (ps_asg (pe_tup (pa_cons (pe_cal C__law_begun (hr.mono (by omega)) (by rfl) (pa_cons (pv 1) (pa_cons (pv 3) (pa_cons (pv 4) pa_nil)))) (pa_cons (pe_lst (pa_cons pe_int pa_nil)) (pa_cons pe_int pa_nil)))) (pg_tupK (K := K) (n := 3) rfl rfl (pgs_cons (pg_name (i := 5) sc__law_right.nd rfl (.inl rfl)) (pgs_cons (pg_name (i := 6) sc__law_right.nd rfl (.inl rfl)) (pgs_cons (pg_name (i := 7) sc__law_right.nd rfl (.inr rfl)) pgs_nil)))))
      (pss_cons (ps_while PassesOwn.never (PW.pt (pw_and (pt_cmpR op_isN (pe_dget hu (pv 5) pe_str (fun _ _ => rfl)) pe_non (nomark _)) (pw_and1 (pt_cmpR op_lt (pv 7) pe_int (nomark _))))) (pss_cons (ps_expr (pe_cal C__law_step (hr.mono (by omega)) (by rfl) (pa_cons (pv 5) pa_nil)))
      (pss_cons (ps_expr (pe_bm PySem.F.plainAttrs_list PySem.F.slot_list_append PySem.F.type_list_append mt_append (pv 6) (pa_cons (pe_callB (lenK (K := K) rfl) (by rfl) T.n_len (by decide +kernel) (pa_cons (pe_dget hu (pv 5) pe_str (fun _ _ => rfl)) pa_nil)) pa_nil)))
      (pss_one (ps_set (i := 7) sc__law_right.nd rfl (.inr rfl) (pe_op op_add (pv 7) pe_int))))))
      (pss_cons (ps_set (i := 8) sc__law_right.nd rfl (.inl rfl) (pe_op op_cat (pe_lst (pa_cons pe_int (pa_cons pe_int (pa_cons (pe_op op_sub (pv 7) pe_int) (pa_cons (pv 7) pa_nil))))) (pe_lc (own := [("_law_k", 13)]) (by rfl) sc__law_right.nd (pi_range1 (by rfl) T.n_range (pa_cons pe_int pa_nil)) (blkOk_by (own := [("_law_k", 13)]) (N := N__law_right) (sc := defScope s__law_right) (by decide +kernel)) (fun _ _ _ _ _ => (pg_name (i := 13) sc__law_right.nd rfl (.inl rfl))) (fun _ _ _ _ _ => pts_nil) (fun _ _ _ _ _ => (pe_cal C__law_draw (hr.mono (by omega)) (by rfl) (pa_cons (pv 0) (pa_cons (pe_op op_add (pv 7) pe_int) pa_nil)))))))
      (pss_cons (ps_if (pt_cmpR op_notN (pe_dget hu (pv 5) pe_str (fun _ _ => rfl)) pe_non (nomark _)) (pss_one (ps_set (i := 8) sc__law_right.nd rfl (.inl rfl) (pe_op op_cat (pv 8) (pe_lst (pa_cons (pe_op op_add (pv 7) pe_int) (pa_cons pe_int pa_nil)))))) pss_nil)
      (pss_cons (ps_for PassesOwn.never rfl (pi_list (pv 8)) (pg_name (i := 9) sc__law_right.nd rfl (.inl rfl)) (pss_cons (ps_set (i := 10) sc__law_right.nd rfl (.inl rfl) (pe_ifExp (PW.pt (pw_and (pt_cmpR op_ge (pv 9) (pv 7) (nomark _)) (pw_and1 (pt_cmpR op_notN (pe_dget hu (pv 5) pe_str (fun _ _ => rfl)) pe_non (nomark _))))) (pe_dget hu (pv 5) pe_str (fun _ _ => rfl)) (pe_tup (pa_cons pe_str pa_nil))))
      (pss_cons (ps_set (i := 11) sc__law_right.nd rfl (.inl rfl) (pe_tup (pa_cons (pe_callTy call_tuple_of (by rfl) T.n_tuple (by decide +kernel) (pa_cons (pe_slice (sl_listK (K := K) rfl) (pe_dget hu (pv 5) pe_str (fun _ _ => rfl)) po_none (po_some (pe_ix (ix_listK (K := K) rfl) (pv 6) (pe_callB (call_min2 rfl) (by rfl) T.n_min (by decide +kernel) (pa_cons (pv 9) (pa_cons (pv 7) pa_nil))) (fun _ _ => rfl)))) pa_nil)) (pa_cons (pv 10) pa_nil))))
      (pss_one (ps_for PassesOwn.never rfl (pi_range1 (by rfl) T.n_range (pa_cons pe_int pa_nil)) (pg_name (i := 12) sc__law_right.nd rfl (.inl rfl)) (pss_one (ps_if (pt_cmpR op_ne (pe_callB (id := "repr") (call_reprK (K := K) rfl hgd (hr.mono (Nat.zero_le _))) (by rfl) T.n_repr (by decide +kernel) (pa_cons (pe_cal C__law_run (hr.mono (by omega)) (by rfl) (pa_cons (pv 1) (pa_cons (pv 2) (pa_cons (pv 4) (pa_cons (pv 9) pa_nil))))) pa_nil)) (pe_callB (id := "repr") (call_reprK (K := K) rfl hgd (hr.mono (Nat.zero_le _))) (by rfl) T.n_repr (by decide +kernel) (pa_cons (pv 11) pa_nil)) (nomark _)) (pss_one (ps_ret pe_bl)) pss_nil)))))))
      (pss_one (ps_ret pe_bl))))))), ?_⟩
  obtain ⟨cd, hcd, _⟩ := ha.I.entries.2.2 _ ha.en
  have hviH := offD hvi
  have hwaH := sqT_same off_same hwa
  refine ⟨_, rfl, _, rfl, _, rfl, im, vi, k, ws, wa, rfl, ha.I, hviH, hwaH, ⟨cd, hcd⟩, fun H1 cv pr A p mv npr hpr hm => ⟨(by show 1 ≤ sizeLine; decide), fun tl htl => ⟨(by show 3 ≤ sizeLine; decide), fun pT hpT => ⟨pT, _, rfl, .inl (.inl upd_same), rfl, _, _, rfl, _, _, rfl, _, _, rfl, rfl, ?_⟩⟩⟩⟩
  have M1 : Mv [] H ([tl] ++ ([pr] ++ allA (ShL P w K im cv pr) A [p])) (upd (upd H1 tl (.lst [.int 0])) pT (.tup [.ref A.top, .ref tl, .int 0])) := (mv.trans (Mv.of ((same_new (o := .lst [.int 0]) htl).trans (same_new hpT)))).sub fun a ha => by
    rcases List.mem_append.mp ha with h | h
    · exact .inr (by rw [List.mem_singleton.mp h]; exact mv.free htl)
    · exact .inl h
  have hall := hm.has fun a ha => nomatch ha
  have W1 : WL P w K im cv pr tl A (begun im k ws) H (upd (upd H1 tl (.lst [.int 0])) pT (.tup [.ref A.top, .ref tl, .int 0])) 0 [p] := by
    refine ⟨upd_get hpT upd_same, upd_get hpT (upd_get htl hpr), npr, fun z => ?_, M1, ⟨(hm.same (same_new (o := .lst [.int 0]) htl)).same (same_new hpT), ha.ok⟩, fun t ht => absurd ht (Nat.not_lt_zero t)⟩
    rcases List.mem_append.mp z with z | z
    · rw [List.mem_singleton.mp z, hpr] at htl
      cases htl
    · exact hall tl z htl
  refine st_eq (σ' := [some (.ref d), some vi, some (.str nm), some (nV k), some (.ref wa), some (.ref A.top), some (.ref tl), some (nV 0), none, none, none, none, none, none]) rfl ?_
  show Ends.nx _ _ (upd (upd H1 tl (.lst [.int 0])) pT (.tup [.ref A.top, .ref tl, .int 0]))
  generalize upd (upd H1 tl (.lst [.int 0])) pT (.tup [.ref A.top, .ref tl, .int 0]) = H2 at W1 ⊢
  clear M1 hall hpT htl hm hpr npr mv
  refine ⟨fun j σ H' => ∃ i fa, j = 400 - i ∧ i ≤ 400 ∧ σ = [some (.ref d), some vi, some (.str nm), some (nV k), some (.ref wa), some (.ref A.top), some (.ref tl), some (nV i), none, none, none, none, none, none] ∧ WL P w K im cv pr tl A (begun im k ws) H H' i fa, ⟨400, 0, [p], rfl, Nat.zero_le _, rfl, W1⟩, ?_⟩
  rintro j σ H3 ⟨i, fa, rfl, hi, rfl, W3⟩
  obtain ⟨v, htop, hat, hfin⟩ := W3.top
  refine wt_go (m := A.top) (v := v) (i := i) rfl rfl (mc_end htop) ?_
  by_cases hc : (decide (v = .non) && decide (i < 400)) = true
  · refine ifT hc ?_
    have hvn := of_decide_eq_true (Bool.and_eq_true _ _ ▸ hc : _ ∧ _).1
    have hlt : i < 400 := of_decide_eq_true (Bool.and_eq_true _ _ ▸ hc : _ ∧ _).2
    refine ⟨fun σ H' => ∃ fa, σ = [some (.ref d), some vi, some (.str nm), some (nV k), some (.ref wa), some (.ref A.top), some (.ref tl), some (nV (i + 1)), none, none, none, none, none, none] ∧ WL P w K im cv pr tl A (begun im k ws) H H' (i + 1) fa, fun σ' H' ⟨fa', e, x⟩ => ⟨400 - (i + 1), by omega, i + 1, fa', rfl, hlt, e, x⟩, ?_⟩
    obtain ⟨ps, s', er⟩ : ∃ ps s', runs im (begun im k ws) i = (ps, .at s') := by
      rcases e : runs im (begun im k ws) i with ⟨ps, r⟩
      cases r with
      | «at» s' => exact ⟨ps, s', rfl⟩
      | fin e2 => exact absurd hvn (hfin e2 (by rw [e])).1
    have hst := W3.st
    have hpr := W3.prv
    rw [er] at hst hpr
    have hpl := runs_len (im := im) (s := begun im k ws) i
    rw [er] at hpl
    refine ⟨_, rfl, im, cv, pr, A, fa, s', 1 + i, ps, rfl, ha.I, hst.2, by omega, hst.1, hpr, W3.npr, Nat.le_trans hpl (by omega), fun H4 r1 => ?_⟩
    -- what stands now
    obtain ⟨fb, v4, mv4, htop4, hpr4, npr4, st4⟩ : ∃ fb v4, Mv ([pr] ++ allA (ShL P w K im cv pr) A fa) H3 ([pr] ++ allA (ShL P w K im cv pr) A fb) H4 ∧ H4 A.top = some (McO cv pr A v4) ∧ H4 pr = some (.lst ((runs im (begun im k ws) (i + 1)).1.map nV)) ∧ pr ∉ allA (ShL P w K im cv pr) A fb ∧ StR (ShL P w K im cv pr) im A H4 fb (1 + (i + 1)) (runs im (begun im k ws) (i + 1)).2 := by
      have hso := step_ok ha.I hst.2
      rw [runs_succ er]
      cases es : P18.step im s' with
      | go s2 po =>
        rw [es] at r1 hso
        obtain ⟨fb, a1, a2, a3, a4⟩ := r1
        exact ⟨fb, .non, a1, a4.bs.top, a3, a2, a4, hso⟩
      | stop e =>
        rw [es] at r1
        obtain ⟨fb, v4, a1, a2, a3, a4⟩ := r1
        have sub : ∀ a ∈ allA (ShL P w K im cv pr) A [], a ∈ allA (ShL P w K im cv pr) A fa := fun a h => by
          rcases List.mem_append.mp h with h | h
          · exact List.mem_append_left _ h
          · cases h
        exact ⟨[], v4, a1.sub fun a h => by
          rcases List.mem_append.mp h with h | h
          · exact .inl (List.mem_append_left _ h)
          · have : a ∈ allA (ShL P w K im cv pr) A fb := by
              rcases List.mem_append.mp h with h | h
              · exact List.mem_append_left _ h
              · cases h
            exact .inl (List.mem_append_right _ this), a2, a4, fun z => W3.npr (sub _ z), v4, a2, a3⟩
    have htl4 := mv4.st _ _ W3.ntl W3.tlv
    have ntl4 := mv4.out W3.tlv W3.ntl
    have hmu : Mut (H4 tl) := by rw [htl4]; exact True.intro
    have ntp : tl ≠ pr := fun z => ntl4 (by rw [z]; exact List.mem_append_left _ (List.mem_singleton.mpr rfl))
    refine ⟨_, rfl, .inl ⟨rfl, _, .inl (.inl htl4)⟩, _, rfl, A.top, .ref pr, rfl, mc_prints htop4, .ref pr, _, rfl, .inl ⟨_, .inl (.inl hpr4), rfl⟩, tl, _, _, rfl, rfl, htl4, ?_, ?_⟩
    · rw [List.length_map, List.length_range]
      exact small_line (by omega)
    refine ⟨_, rfl, _, _, rfl, rfl, ?_⟩
    refine ⟨fb, by rfl, ?_⟩
    have ntl5 : tl ∉ allA (ShL P w K im cv pr) A fb := fun z => ntl4 (List.mem_append_right _ z)
    refine ⟨?_, by rw [upd_ne ntp.symm]; exact hpr4, npr4, ntl4, (W3.mv.trans (mv4.add [tl])).trans (Mv.put (List.mem_append_left _ (List.mem_singleton.mpr rfl)) hmu), st4.put hmu ntl5, fun t ht => ?_⟩
    · rw [upd_same, told_succ, List.length_map]
    · by_cases e : t = i
      · subst e
        exact ⟨s', by rw [er]⟩
      · exact W3.at_ t (by omega)
  refine ifF (by simpa using hc) ?_
  have hex : (∃ e, (runs im (begun im k ws) i).2 = .fin e) ∨ i = 400 := by
    by_cases h4 : i = 400
    · exact .inr h4
    · refine .inl ?_
      rcases e : (runs im (begun im k ws) i).2 with s' | e2
      · refine absurd ?_ hc
        rw [decide_eq_true (hat ⟨s', e⟩), decide_eq_true (show i < 400 by omega)]
        rfl
      · exact ⟨e2, rfl⟩
  have hi1 : 1 ≤ i := by
    rcases hex with ⟨e, he⟩ | h
    · cases i with
      | zero => cases he
      | succ i => omega
    · omega
  clear hc W1
  -- what is asked
  have sH : Same H H3 := fun b o e => W3.mv.st b o (fun z => nomatch z) e
  have new : ∀ a ∈ [tl] ++ ([pr] ++ allA (ShL P w K im cv pr) A fa), a ≠ d ∧ a ≠ c := fun a h => by
    rcases W3.mv.nw a h with z | z
    · cases z
    · exact dk.has z
  have dTop := new A.top (List.mem_append_right _ (List.mem_append_right _ (in_base (by simp))))
  have dTl := new tl (List.mem_append_left _ (List.mem_singleton.mpr rfl))
  have dPr := new pr (List.mem_append_right _ (List.mem_append_left _ (List.mem_singleton.mpr rfl)))
  have dk3 := dk.same sH
  refine ⟨_, rfl, _, _, rfl, rfl, _, rfl, (by show 4 ≤ sizeLine; decide), fun l1 hl1 => ⟨3, rfl, by decide, by decide, fun D hD => ?_⟩⟩
  have s4 := same_new (o := .lst [.int 0, .int 1, .int ((i : Int) - 1), .int (i : Int)]) hl1
  have e4 : (upd H3 l1 (.lst [.int 0, .int 1, .int ((i : Int) - 1), .int (i : Int)])) l1 = some (.lst [.int 0, .int 1, .int ((i : Int) - 1), .int (i : Int)]) := upd_same
  have dk4 := dk3.same s4
  have n1 := dk3.has hl1
  generalize upd H3 l1 (.lst [.int 0, .int 1, .int ((i : Int) - 1), .int (i : Int)]) = H4 at s4 e4 dk4 hD ⊢
  have nD := dk4.has hD
  refine lc_range (lo := 0) (n := (3 : Int).toNat) (fun t H5 => ∃ us : List Nat, H5 D = some (.lst (us.map nV)) ∧ us.length = t ∧ (∀ u ∈ us, u ≤ i) ∧ Deck d c (n + t) H5 ∧ Ext d c H4 H5) ⟨[], upd_same, rfl, (fun u h => nomatch h), dk4.new hD, Ext.new hD⟩ ?_ ?_
  · rintro t H5 ht ⟨us, h5, hul, hus, dk5, X5⟩
    have ht : t < 3 := ht
    refine ⟨rfl, tyes ⟨_, rfl, _, rfl, _, _, rfl, rfl, d, c, n + t, (i : Int) + 1, rfl, by omega, by have := hi; omega, by omega, dk5, fun u H6 h0 h1 dk6 X6 => ⟨_, X6.at nD.1 nD.2 h5, small_line (by rw [List.length_map]; omega), us ++ [u.toNat], ?_, by rw [List.length_append, hul]; rfl, fun x hx => ?_, dk6.upd nD.1 nD.2, (X5.trans X6).mut hD⟩⟩⟩
    · rw [upd_same, List.map_append]
      show _ = some (HO.lst (List.map nV us ++ [V.int ((u.toNat : Nat) : Int)]))
      rw [Int.toNat_of_nonneg h0]
    · rcases List.mem_append.mp hx with h | h
      · exact hus x h
      · rw [List.mem_singleton.mp h]
        omega
  rintro H5 ⟨us, h5, hul, hus, dk5, X5⟩
  have hul : us.length = 3 := hul
  have dk5 : Deck d c (n + 3) H5 := dk5
  refine ⟨l1, D, _, _, rfl, rfl, X5.at n1.1 n1.2 e4, h5, ?_, fun al hal => ?_⟩
  · rw [List.length_map, hul]
    exact Nat.le_trans (show 4 + 3 ≤ 7 by omega) (by decide)
  have e45 : ([.int 0, .int 1, .int ((i : Int) - 1), .int (i : Int)] : List V) ++ us.map nV = ([0, 1, i - 1, i] ++ us).map nV := by
    rw [List.map_append]
    show _ = [V.int ((0 : Nat) : Int), .int ((1 : Nat) : Int), .int ((i - 1 : Nat) : Int), .int (i : Int)] ++ _
    rw [show ((i - 1 : Nat) : Int) = (i : Int) - 1 by omega]
    rfl
  rw [e45]
  have k35 : KT H3 H5 := (KT.of s4).trans (ext_kt dk4 X5)
  have hms : ∀ m ∈ [0, 1, i - 1, i] ++ us, m ≤ i := fun m hm => by
    rcases List.mem_append.mp hm with h | h
    · simp only [List.mem_cons, List.not_mem_nil, or_false] at h
      omega
    · exact hus m h
  have hml : ([0, 1, i - 1, i] ++ us).length ≤ 7 := by rw [List.length_append, hul]; exact Nat.le_refl 7
  generalize [0, 1, i - 1, i] ++ us = ms at hms hml ⊢
  have s6 := same_new (o := .lst (ms.map nV)) hal
  have X6 : Ext d c H (upd H5 al (.lst (ms.map nV))) := (off_same_mono (sH.trans s4)).trans (X5.trans (off_same_mono s6))
  have L : Lo K im cv pr tl al A nm k ws vi wa i v ms (upd H5 al (.lst (ms.map nV))) :=
    ⟨ha, s6 _ _ (X5.at dTop.1 dTop.2 (s4 _ _ htop)), s6 _ _ (X5.at dTl.1 dTl.2 (s4 _ _ W3.tlv)), s6 _ _ (X5.at dPr.1 dPr.2 (s4 _ _ W3.prv)), upd_same, offD (X6.dp hvi), sqT_same off_same (sqT_same X6 hwa), W3.at_, hat, fun e he => ⟨(hfin e he).1, dp_mono s6 _ _ (dp_kt k35 _ _ (by cases e <;> rfl) (hfin e he).2)⟩, hi, fun m hm => ⟨by have := hms m hm; omega, .inl (hms m hm)⟩⟩
  have dk6 := dk5.same s6
  refine gn_eq (σ' := stR d vi nm k wa A tl al i none none none none) rfl ?_
  generalize upd H5 al (.lst (ms.map nV)) = H6 at L X6 dk6 ⊢
  refine ⟨_, rfl, A.top, v, rfl, mc_end L.top, rfl, _, rfl, ?_⟩
  by_cases hv : v = .non
  · refine ifF (by rw [decide_eq_true hv]; rfl) ?_
    exact loopL L fun H' s => q H' (dk6.same s) (X6.trans (off_same_mono s))
  · refine ifT (by rw [decide_eq_false hv]; rfl) ?_
    refine ⟨_, rfl, _, rfl, _, _, rfl, rfl, (by show 2 ≤ sizeLine; decide), fun l2 hl2 => ⟨al, l2, _, _, rfl, rfl, same_new hl2 _ _ L.alv, upd_same, ?_, fun a2 ha2 => ?_⟩⟩
    · rw [List.length_map]
      exact Nat.le_trans (show ms.length + 2 ≤ 9 by omega) (by decide)
    have hfe : ∃ e, (runs im (begun im k ws) i).2 = .fin e := by
      rcases e : (runs im (begun im k ws) i).2 with s' | e2
      · exact absurd (hat ⟨s', e⟩) hv
      · exact ⟨e2, rfl⟩
    have e67 : ms.map nV ++ ([V.int ((i : Int) + 1), V.int 20000] : List V) = (ms ++ [i + 1, 20000]).map nV := by
      rw [List.map_append]
      rfl
    show gName 8 _ _ (upd (upd H6 l2 (.lst [.int ((i : Int) + 1), .int 20000])) a2 (.lst (ms.map nV ++ [.int ((i : Int) + 1), .int 20000]))) _
    rw [e67]
    have s7 := (same_new (o := .lst [.int ((i : Int) + 1), .int 20000]) hl2).trans (same_new (o := .lst ((ms ++ [i + 1, 20000]).map nV)) ha2)
    have L6 := L.same s7
    have L7 : Lo K im cv pr tl a2 A nm k ws vi wa i v (ms ++ [i + 1, 20000]) (upd (upd H6 l2 (.lst [.int ((i : Int) + 1), .int 20000])) a2 (.lst ((ms ++ [i + 1, 20000]).map nV))) :=
      ⟨ha, L6.top, L6.tlv, L6.prv, upd_same, L6.vi, L6.wa, L6.at_, L6.non, L6.fin, hi, fun m hm => by
        refine ⟨?_, .inr hfe⟩
        rcases List.mem_append.mp hm with h | h
        · have := hms m h
          omega
        · simp only [List.mem_cons, List.not_mem_nil, or_false] at h
          omega⟩
    refine gn_eq (σ' := stR d vi nm k wa A tl a2 i none none none none) rfl ?_
    exact loopL L7 fun H' s => q H' ((dk6.same s7).same s) (X6.trans ((off_same_mono s7).trans (off_same_mono s)))
end
end K18

set_option maxHeartbeats 1000000
namespace K18
open PySem PySem.Spec PyProof.Rows L2 HG P18
def spLaw (K : PySem.W.Frag) : Sp := fun vs H Q _ => ∃ (a : Addr) (ns : List Int), vs = [.ref a] ∧ SqL K H a (ns.map V.int) ∧ ns.length ≤ 63 ∧ ∀ H', Q (.bl true) H'
section
variable {P : Program} {w : World} {K : PySem.W.Frag} {mg : Str → Option Value} {base : Heap}
set_option pp.maxSteps 600 in
theorem ok_law (T : Txt w K mg) {fd : FuncData} (F : FunD K "law" "law" (defArgs s_law) (defBody s_law) (defScope s_law) [] [] (He.ga K "law") fd) : FnG P w K mg base CX0 13 (He.ga K "law") fd ["_law_script"] (spLaw K) := by
  have C__law_deck : Cal P w K mg base "_law_deck" 1 ["_law_script"] (spDeck K) := ⟨ok_deck T, T.g _ (by decide), by obtain ⟨fd, F⟩ := T.d__law_deck; exact F.kp⟩
  have C__law_image := c_image (P := P) (w := w) (base := base) T
  have C__law_pick := c_pick (P := P) (w := w) (base := base) T
  have C__law_right := c_right (P := P) (w := w) (base := base) T
  refine fng_of (k := 12) F sc_law (fun vs H Q E h => ?_) (fun cdv A outer s H vs Q E hr hgd h => ?_)
  · obtain ⟨a, ns, rfl, _⟩ := h
    rfl
  obtain ⟨a, ns, rfl, hS, hn, q⟩ := h
  have hu := hu_of hr
  refine ⟨_, PSs.nox (pss_cons (ps_set (i := 1) sc_law.nd rfl (.inr rfl) (pe_cal C__law_deck (hr.mono (by omega)) (by rfl) (pa_cons (pv 0) pa_nil)))
      (pss_cons (ps_for PassesOwn.never rfl (pi_range1 (by rfl) T.n_range (pa_cons pe_int pa_nil)) (pg_name (i := 2) sc_law.nd rfl (.inl rfl)) (pss_cons (ps_set (i := 3) sc_law.nd rfl (.inl rfl) (pe_cal C__law_image (hr.mono (by omega)) (by rfl) (pa_cons (pv 1) pa_nil)))
      (pss_cons (ps_set (i := 4) sc_law.nd rfl (.inl rfl) (pe_callB (id := "repr") (call_reprK (K := K) rfl hgd (hr.mono (Nat.zero_le _))) (by rfl) T.n_repr (by decide +kernel) (pa_cons (pv 3) pa_nil)))
      (pss_one (ps_for PassesOwn.never rfl (pi_tup (pe_ix (ix_P (K := K) rfl) (pv 3) pe_int (fun _ _ => rfl))) (pg_tupK (K := K) (n := 3) rfl rfl (pgs_cons (pg_name (i := 5) sc_law.nd rfl (.inl rfl)) (pgs_cons (pg_name (i := 6) sc_law.nd rfl (.inl rfl)) (pgs_cons (pg_name (i := 7) sc_law.nd rfl (.inl rfl)) pgs_nil)))) (pss_cons (ps_set (i := 8) sc_law.nd rfl (.inl rfl) (pe_callTy call_tuple_of (by rfl) T.n_tuple (by decide +kernel) (pa_cons (pe_lc (own := [("_law_k", 9)]) (by rfl) sc_law.nd (pi_range1 (by rfl) T.n_range (pa_cons (pv 7) pa_nil)) (blkOk_by (own := [("_law_k", 9)]) (N := N_law) (sc := defScope s_law) (by decide +kernel)) (fun _ _ _ _ _ => (pg_name (i := 9) sc_law.nd rfl (.inl rfl))) (fun _ _ _ _ _ => pts_nil) (fun _ _ _ _ _ => (pe_cal C__law_pick (hr.mono (by omega)) (by rfl) (pa_cons (pv 1) (pa_cons (pe_lst (pa_cons pe_int (pa_cons pe_int (pa_cons pe_int (pa_cons pe_int (pa_cons pe_int pa_nil)))))) pa_nil))))) pa_nil)))
      (pss_one (ps_if (PW.pt (pw_or (pt_not (pt_val (pe_calG C__law_right (hr.mono (by omega)) hgd (by rfl) (pa_cons (pv 1) (pa_cons (pv 3) (pa_cons (pv 5) (pa_cons (pv 6) (pa_cons (pv 8) pa_nil)))))))) (pw_or1 (pt_cmpR op_ne (pe_callB (id := "repr") (call_reprK (K := K) rfl hgd (hr.mono (Nat.zero_le _))) (by rfl) T.n_repr (by decide +kernel) (pa_cons (pv 3) pa_nil)) (pv 4) (nomark _))))) (pss_one (ps_ret pe_bl)) pss_nil))))))))
      (pss_one (ps_ret pe_bl)))), ?_⟩
  refine ⟨.ref a, rfl, a, ns, rfl, hS, hn, fun d c H1 _ _ s1 dk1 => ?_⟩
  refine ⟨3, rfl, by decide, by decide, for_range (lo := 0) (n := (3 : Int).toNat) (fun j st H2 => ∃ x2 x3 x4 x5 x6 x7 x8, st = [some (.ref a), some (.ref d), x2, x3, x4, x5, x6, x7, x8, none] ∧ Deck d c (10000 * j) H2) ⟨_, _, _, _, _, _, _, rfl, dk1⟩ ?_ (fun st H2 _ => q H2)⟩
  rintro j st H2 hj ⟨x2, x3, x4, x5, x6, x7, x8, rfl, dk2⟩
  have hj : j < 3 := hj
  refine ⟨.ref d, rfl, d, c, _, rfl, by omega, dk2, fun im v H3 I hnm dk3 X3 hv => ?_⟩
  obtain ⟨f1, f2, f3⟩ := fn_repr (fn_im I hnm) (Nat.le_refl _) (by decide)
  refine ⟨_, rfl, v, im.D, rfl, offD hv, f1, f2, f3, ?_⟩
  refine ⟨_, rfl, _, 4, _, offD hv, rfl, rfl, fun z hz => ?_⟩
  obtain ⟨na, nx, rfl, nsq, nall⟩ : ∃ na nx, z = .ref na ∧ SqT K H3 na nx ∧ DpAll K H3 nx (im.entries.map enD) := by
    cases hz with
    | tup a b => exact ⟨_, _, rfl, a, b⟩
  have nlen := dpAll_len nall
  rw [List.length_map] at nlen
  have l5 := I.entries.1
  refine ⟨na, rfl, ⟨_, nsq⟩, for_it (walk_tup (xs := nx)) (fun e st H4 => ∃ x5 x6 x7 x8, st = [some (.ref a), some (.ref d), some (.int (0 + (j : Int))), some v, some (.str im.D.shown), x5, x6, x7, x8, none] ∧ Deck d c (10000 * j + 9000 + 10 * e) H4 ∧ Ext d c H3 H4) ⟨_, _, _, _, rfl, dk3, Ext.refl H3⟩ (fun e st H4 _ ⟨_, _, _, _, _, _, X4⟩ => sqT_kt (ext_kt dk3 X4) nsq) ?_ ?_⟩
  · rintro e x st H5 H4 he ⟨x5, x6, x7, x8, rfl, dk4, X4⟩ ⟨rfl, hx⟩
    obtain ⟨en, hen, hxe⟩ := dpAll_map_get nall hx
    have nlE : noL (enD en) = true := rfl
    obtain ⟨ea, rfl, esq⟩ := en_parts (dp_kt (ext_kt dk3 X4) _ _ nlE hxe)
    obtain ⟨cd, hcd, hret, hps⟩ := I.entries.2.2 _ (List.mem_of_getElem? hen)
    have hp4 := (I.codes cd (List.mem_of_getElem? hcd)).ps.1
    refine ⟨ea, _, rfl, esq, rfl, _, _, rfl, _, _, rfl, _, _, rfl, rfl, ?_⟩
    refine ⟨_, rfl, (en.2.2 : Int), rfl, by omega, by omega, fun D hD => ?_⟩
    have nD := dk4.has hD
    refine lc_range (lo := 0) (n := ((en.2.2 : Nat) : Int).toNat) (fun i H6 => ∃ us : List Nat, H6 D = some (.lst (us.map nV)) ∧ us.length = i ∧ (∀ u ∈ us, u < 65536) ∧ Deck d c (10000 * j + 9000 + 10 * e + i) H6 ∧ Ext d c H4 H6) ⟨[], upd_same, rfl, (fun u h => nomatch h), dk4.new hD, Ext.new hD⟩ ?_ ?_
    · rintro i H6 hi ⟨us, h6, hul, hus, dk6, X6⟩
      have hi : i < 4 := by omega
      refine ⟨rfl, tyes ⟨_, rfl, (by show 5 ≤ sizeLine; decide), fun l hl => ?_⟩⟩
      have nl := dk6.has hl
      have dk7 := dk6.new (o := .lst [.int 0, .int 1, .int 2, .int 7, .int 65535]) hl
      have h7 := upd_get (o := .lst [.int 0, .int 1, .int 2, .int 7, .int 65535]) hl h6
      have e7 : off d c (upd H6 l (.lst [.int 0, .int 1, .int 2, .int 7, .int 65535])) l = some (.lst [.int 0, .int 1, .int 2, .int 7, .int 65535]) := by rw [off_get nl.1 nl.2]; exact upd_same
      have X7 : Ext d c H4 (upd H6 l (.lst [.int 0, .int 1, .int 2, .int 7, .int 65535])) := X6.trans (Ext.new hl)
      refine ⟨d, c, _, l, _, rfl, by omega, dk7, .inl (.inl e7), by decide, by decide, fun y H8 hy dk8 X8 => ?_⟩
      obtain ⟨u, rfl, hu5⟩ : ∃ u : Nat, y = nV u ∧ u < 65536 := by
        simp only [List.mem_cons, List.not_mem_nil, or_false] at hy
        rcases hy with rfl | rfl | rfl | rfl | rfl
        · exact ⟨0, rfl, by decide⟩
        · exact ⟨1, rfl, by decide⟩
        · exact ⟨2, rfl, by decide⟩
        · exact ⟨7, rfl, by decide⟩
        · exact ⟨65535, rfl, by decide⟩
      refine ⟨_, X8.at nD.1 nD.2 h7, small_line (by rw [List.length_map]; omega), us ++ [u], ?_, by rw [List.length_append, hul]; rfl, fun x hx => ?_, dk8.upd nD.1 nD.2, (X7.trans X8).mut hD⟩
      · rw [upd_same, List.map_append]
        rfl
      · rcases List.mem_append.mp hx with h | h
        · exact hus x h
        · rw [List.mem_singleton.mp h]
          exact hu5
    rintro H6 ⟨us, h6, hul, hus, dk6, X6⟩
    have hul : us.length = en.2.2 := by omega
    refine ⟨D, _, rfl, .inl ⟨.inl (.inl h6), fun wt hwt => ?_⟩⟩
    have nwt := dk6.has hwt
    have dk7 := dk6.new (o := .tup (us.map nV)) hwt
    have X7 : Ext d c H3 (upd H6 wt (.tup (us.map nV))) := X4.trans (X6.trans (Ext.new hwt))
    have e7 : off d c (upd H6 wt (.tup (us.map nV))) wt = some (.tup (us.map nV)) := by rw [off_get nwt.1 nwt.2]; exact upd_same
    have hask : Ask im en.1 en.2.1 us := ⟨I, by rw [hul]; exact List.mem_of_getElem? hen, begun_ok I hcd hret (by rw [hul, hps]) hus, by omega⟩
    refine gn_eq (σ' := [some (.ref a), some (.ref d), some (.int (0 + (j : Int))), some v, some (.str im.D.shown), some (.str en.1), some (nV en.2.1), some (nV en.2.2), some (.ref wt), none]) rfl ?_
    generalize upd H6 wt (.tup (us.map nV)) = H7 at dk7 X7 e7 ⊢
    refine ⟨_, rfl, _, rfl, _, rfl, _, rfl, _, rfl, im, d, c, _, v, en.1, en.2.1, us, wt, rfl, by omega, hask, dk7, X7.dp hv, .inl (.inl e7), fun H8 dk8 X8 => ?_⟩
    have X8' := X7.trans X8
    refine ⟨true, rfl, ifF rfl ⟨_, rfl, v, im.D, rfl, offD (X8'.dp hv), f1, f2, f3, _, rfl, ?_⟩⟩
    have fin : ∀ z : Str, rNe (.str z) (.str z) H8 fun y H1 => ∃ b, y = V.bl b ∧ b = false ∧ H1 = H8 := fun z => ⟨rfl, _, rfl, by rw [decide_eq_true rfl]; rfl, rfl⟩
    obtain ⟨g1, b, g2, g3, _⟩ := fin im.D.shown
    refine ⟨g1, b, g2, ifF g3 ?_⟩
    exact ⟨_, _, _, _, rfl, dk8.up (by omega), X8'⟩
  · rintro st H4 ⟨_, _, _, _, rfl, dk4, _⟩
    exact ⟨_, _, _, _, _, _, _, rfl, dk4.up (by omega)⟩
end
end K18

set_option maxHeartbeats 0
open PySem PySem.W PySem.Calls PyProof.Rows
theorem PySem.Challenge.cw_wholeapart_k18_images_executed_holds : PySem.Challenge.rw_wholeapart_k18_images_executed.Holds := by
  w_on; o_law
  refine HandSHeadRun.head_any (r := OpenLaw.row PySem.Challenge.rw_wholeapart_k18_images_executed) (q := view (OpenLaw.row PySem.Challenge.rw_wholeapart_k18_images_executed).prog [33]) (H := K18.hk) (ob := K18.ob) (M := 6000) (loose := K18.loose) (d := HandSHeadRun.topDef (OpenLaw.row PySem.Challenge.rw_wholeapart_k18_images_executed).prog 33) (kwd := []) K18.ob_eq
    (by kernel_rfl) (fun s => by kernel_rfl) K18.run (by kernel_rfl) (by kernel_rfl) (by kernel_rfl) (by rfl) (by first | assumption | decide +kernel) (by decide +kernel) ⟨rfl, rfl, rfl, rfl, rfl, by decide +kernel⟩ ?hw ?hc
  case hw => w_witness2
  case hc =>
    refine HG.walkG (l := PySem.Challenge.rw_wholeapart_k18_images_executed) (n := 63) (k := 13) (x := "_law_script") (CX := L2.CX0) rfl (by decide) (by kernel_rfl) ⟨rfl, by decide, by decide⟩ ?F (fun _ _ _ _ z => z)
    intro w mg fa h Y G hmg0
    obtain ⟨K, KX, c⟩ := Y
    have hmg : mg ("law" : PySem.Str) = some (.ref fa) := by
      have e : (HandSHeadRun.topDef (OpenLaw.row PySem.Challenge.rw_wholeapart_k18_images_executed).prog 33).name = ("law" : PySem.Str) := by kernel_rfl
      rw [← e]
      exact hmg0
    have T := K18.txt KX G c
    have efa : fa = He.ga K "law" := by
      have e := hmg.symm.trans (T.g "law" (by decide))
      cases e
      rfl
    subst efa
    obtain ⟨fd, F⟩ := T.d_law
    refine ⟨K, fd, K18.spLaw K, KX, fun s u => (L2.FunD.bindsA (ps := ["_law_script"]) F fun _ _ _ _ _ _ us hl => match us, hl with | [_], _ => rfl) s [u] rfl, fun H a ns hl _ _ hS => ⟨a, ns, rfl, hS, hl, fun _ => rfl⟩, fun base _ _ => ?_⟩
    exact K18.ok_law T F
