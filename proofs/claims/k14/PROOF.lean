import PyProof.Rows.All
import Wide.All
import OpenK.AllK
import Wide.FinOn
import HandS.ForMost
import HandS.WordsExc
import HandS.Defaults
import HandS.HeadEnd
import HandS.EndBits
import HandS.IsInst
import HandS.Wide
import HandS.HeadHook1
import HandS.HeadHook2
import HandS.More
import HandS.HeadHook3
import HandS.Walk
import HandS.Style
import HandS.NoneIn
import HandS.Strs
import HandS.SetBool
import PyProof.StrBlock2
import HandS.ExcInit
import HandS.ExcIs
import HandS.ExcField
import KE.KExcSuper
import HandS.ExcOwn
import HandS.ExcValue
import HandS.Codes
import HandS.Text
import KE.KIntText
import KE.IntTextLaws
import HandS.ReplaceLit
import HandS.StrMore
import PyProof.NeData
import PyProof.StrLawsFrom
import HandS.ReplaceList
import KE.KStateDown
import Lean
import HandS.Head0
import HandS.Head1
import HandS.Head2
import HandS.FStr
import PyProof.Rows.StrJoinRep
import PySem.Challenge.RW_wholeapart_k14_strings_unpacked
set_option Elab.async false
set_option linter.all false
set_option maxRecDepth 100000
set_option maxHeartbeats 4000000
/-! HG: defs that are called where no repr is under way (the guards are known to be none), and repr of data. -/
namespace HG
open PySem PySem.Spec PyProof.Rows L2

structure FnG (P : Program) (w : World) (K : PySem.W.Frag) (mg : Str → Option Value) (base : Heap)
    (CX : CXT) (k : Nat) (f : Addr) (fd : FuncData) (ps : List Str) (sp : Sp) : Prop where
  sized : ∀ vs H Q E, sp vs H Q E → vs.length = ps.length
  goes : ∀ (A : Around) (outer : List Env) (s : Shared) (H : Hp) (args : Args) (us : List Value) (vs : List V) (Q : VK) (E : XK),
    Room k A → A.guards = some [] → Env0 P w K mg base A outer s H → BindsTo s fd args (ps.zip us) → Vals vs us →
    sp vs H Q E → codeAny (model P w) A (.call (.ref f) args) (CR CX outer P w H s Q E) s

section
variable {P : Program} {w : World} {K : PySem.W.Frag} {mg : Str → Option Value} {base : Heap} {CX : CXT} {k : Nat} {f : Addr} {fd : FuncData} {ps : List Str} {sp : Sp}

theorem FnG.of (F : FnOk P w K mg base CX k f fd ps sp) : FnG P w K mg base CX k f fd ps sp :=
  ⟨F.len, fun A outer s H args us vs Q E r _ => F.run A outer s H args us vs Q E r⟩

theorem FnG.up {j : Nat} (F : FnG P w K mg base CX j f fd ps sp) (h : j ≤ k) : FnG P w K mg base CX k f fd ps sp :=
  ⟨F.sized, fun A outer s H args us vs Q E r => F.goes A outer s H args us vs Q E (r.mono h)⟩

/-- a def of the text, by its body -/
theorem fng_of {x qual : Str} {params : Arguments} {body : List Stmt} {scope : Scope} {dvs : List V} {kws : List (Str × V)} {N : List Str}
    (F : FunD K x qual params body scope dvs kws f fd) (S : FnScope N ps scope) (len : ∀ vs H Q E, sp vs H Q E → vs.length = ps.length)
    (hbody : ∀ (cdv : Value) (A : Around) (outer : List Env) (s : Shared) (H : Hp) (vs : List V) (Q : VK) (E : XK),
      Room k (A.deeper (envOfC qual scope s.heap.objs.size f cdv)) → A.guards = some [] → sp vs H Q E →
      ∃ t, PSs (cxOf CX P w K mg base N qual scope f cdv A outer s H E) body t ∧
        t { nx := fun _ H' => Q .non H', rt := Q } (start N vs) H) : FnG P w K mg base CX (k + 1) f fd ps sp := by
  obtain ⟨oc, od, dV, kV, doc, pm, an, cdv, ct, osl, rfl, lk, hcd, _, _⟩ := F.ex
  constructor
  · exact len
  intro A outer s H args us vs Q E hr hg e0 hb r hsp
  have X1 : K.In s.heap := e0.mod.kin.keeps fun b o e => (e0.bs b o e).1
  have X2 : s.heap.NoLimit := e0.mod.nolimit.keeps fun b o e => (e0.bs b o e).1
  obtain ⟨t, ht, hq⟩ := hbody cdv A outer s H vs Q E (hr.deeper _) hg hsp
  refine codeAny_call_function hr.depth (X1 _ _ lk) rfl S.co S.gen rfl (PySem.W.codeRec_of X1 hcd) (hb _ _ _ _ ?_)
  have kinds : ∀ y ∈ ps.zip us, scope.names.lookup y.1 = some .local ∨
      (scope.names.lookup y.1 = some .cell ∧ ((cellsFrom (s.heap.objs.size + 1) scope.names []).lookup y.1).isSome = true) := by
    rintro ⟨n, v⟩ hy
    have hn := (List.of_mem_zip hy).1
    rcases S.par n hn with q | q
    · left; exact q
    · right; exact ⟨q, PySem.W.cellsFrom_some _ _ _ (.inl q)⟩
  refine wpAny_newFunctionEnv_cells S.kind kinds ?_
  intro env he s1 x
  subst he
  refine ⟨X2.keeps x.toInCall.keep, codeAny_func ?_⟩
  have I := inv_start (CX := CX) (E := E) S hr.hd e0 (len _ _ _ _ hsp) r x
  refine wpAny_mono (ht.run [] s1 (start N vs) H _ I hq) ?_ (fun e s' hs => hs)
  intro fl s' hs
  cases fl with
  | next =>
    obtain ⟨σ', H', J, q⟩ := hs
    exact ⟨V.non, H', J.os, J.bare, J.base, J.hok, rfl, q⟩
  | ret u =>
    obtain ⟨v, σ', H', J, rv, q⟩ := hs
    exact ⟨v, H', J.os, J.bare, J.base, J.hok, rv, q⟩
  | brk => exact hs.elim fun _ z => z.elim fun _ z => z.2.elim
  | cont => exact hs.elim fun _ z => z.elim fun _ z => z.2.elim
end

/-! ### calls of such defs -/
section
variable {X : Cx} {CX : CXT} {k : Nat} {f : Addr} {fd : FuncData} {ps ks : List Str} {sp : Sp} {dvs : List V} {ds : List Value}
  {E : XK} {x : Str} {p pos : Pos} {e : Expr} {es : List Expr} {t tk : TA} {kws : List Keyword}
  {g : List Value → List Value → List Value} {gV : List V → List V → List V}

theorem fin_call {pins : List (Addr × Obj)} {σ : L2.St} {H : Hp} {s s' : Shared} {Q : VK} {r : Result} (hx : Passes CX X E)
    (I : Inv X pins σ H s) (h : CR CX X.stack X.prog X.w H s Q E r s') : callEnd (EP X pins σ Q) X.xe r s' := by
  cases r with
  | error e => exact hx pins σ H s e s' I h
  | ok fl =>
    cases fl with
    | ret u => exact I.after h
    | next => exact h.elim
    | brk => exact h.elim
    | cont => exact h.elim

theorem pe_callG (F : FnG X.prog X.w X.K X.mg X.base CX k f fd ps sp) (hr : Room k X.A) (hgd : X.A.guards = some []) (hg : Gl X x) (hm : X.mg x = some (.ref f))
    (hk : PySem.W.keepIn X.K (.ref f) = true) (hb : Binds X.K fd ps ds) (hd : Vals dvs ds) (hx : Passes CX X E) (ha : PA X (e :: es) t)
    (hdb : (x == ("__debug__" : Str)) = false := by decide)
    (he : starEach (e :: es) X.env = (false, eval e X.env) :: starEach es X.env := by rfl)
    (hpl : (backTo pos (starEach es X.env)).any (·.1) = false := by rfl) : PE X (.Call (.Name x p) (e :: es) [] pos) (tCall sp dvs E t) := by
  constructor
  intro pins s σ H Q I h
  refine wpAny_Call_Name_kw (ld_glob I hg hm ?_ hdb)
  refine PySem.W.callWith_K (h₀ := X.base) I.ok.mod.kin hk (thn (ha.run pos pins s σ H _ I h) ?_) he hpl
  rintro us s1 ⟨vs, H1, I1, r, q⟩
  have rr : Vals (vs ++ dvs) (us ++ ds) := r.append hd
  have hl : (us ++ ds).length = ps.length := rr.length.symm.trans (F.sized _ _ _ _ q)
  refine ⟨I1.kIn, wpAny_call (codeAny_mono (F.goes X.A X.stack s1 H1 ⟨us, []⟩ _ _ Q E hr hgd I1.env0 (hb s1 us I1.kIn hl) rr q) fun r s' hq => ?_)⟩
  exact fin_call hx I1 hq

end

/-! ### repr of data -/
mutual
theorem dp_nodict {K : PySem.W.Frag} {H : Hp} : ∀ (d : PyData) (v : V), Dp K H v d → d.hasDict = false
  | .none, _, _ => by simp only [PyData.hasDict]
  | .bool _, _, _ => by simp only [PyData.hasDict]
  | .int _, _, _ => by simp only [PyData.hasDict]
  | .str _, _, _ => by simp only [PyData.hasDict]
  | .list ds, _, h => by
    cases h with
    | lst _ ha =>
      simp only [PyData.hasDict]
      exact dpAll_nodict ds _ ha
  | .tuple ds, _, h => by
    cases h with
    | tup _ ha =>
      simp only [PyData.hasDict]
      exact dpAll_nodict ds _ ha
  | .dict _, _, h => by cases h
theorem dpAll_nodict {K : PySem.W.Frag} {H : Hp} : ∀ (ds : List PyData) (vs : List V), DpAll K H vs ds → PyData.hasDictAll ds = false
  | [], _, _ => by simp only [PyData.hasDictAll]
  | d :: ds, _, h => by
    cases h with
    | cons h1 h2 => simp only [PyData.hasDictAll, dp_nodict d _ h1, dpAll_nodict ds _ h2, Bool.or_self]
end

def rRepr (K : PySem.W.Frag) : List V → Hp → VK → Prop := fun xs H Q =>
  ∃ x d, xs = [x] ∧ Dp K H x d ∧ d.showable = true ∧ d.depth ≤ 150 ∧ d.shown.length ≤ sizeLine ∧ Q (.str d.shown) H

theorem call_repr {X : Cx} {k : Nat} (hgd : X.A.guards = some []) (hr : Room k X.A) : CallR X (.builtin "repr") (rRepr X.K) := by
  intro pins s σ H xs us Q I r h
  obtain ⟨x, d, rfl, hd, hs, hdep, hsz, q⟩ := h
  obtain ⟨u, rfl, ru⟩ := vals1 r
  obtain ⟨as, rd⟩ := Dp.reads I d x u hd ru
  have hu := hr.un
  cases rd with
  | none => 
    simp only [PyData.shown] at q
    exact PySem.P.repr_of_none ⟨.str _, H, I.tok _, ⟨_, rfl⟩, q⟩
  | bool b =>
    simp only [PyData.shown] at q
    exact PySem.P.repr_of_bool ⟨.str _, H, I.tok _, ⟨_, rfl⟩, q⟩
  | int i t =>
    simp only [PyData.shown] at q
    exact PySem.P.repr_of_int (by simpa [PyData.showable] using hs) ⟨.str _, H, I.tok _, ⟨_, rfl⟩, q⟩
  | str y t =>
    simp only [PyData.shown] at q hsz
    exact PySem.P.repr_of_str ⟨.str _, H, I.tok _, ⟨_, rfl⟩, q⟩ hsz
  | list h1 h2 h3 h4 =>
    have nd := dp_nodict _ _ hd
    refine repr_of_reads' (.list h1 h2 h3 h4) hs (fun z => ?_) hgd (by omega) (fun _ _ e => e) (fun h' u tk hk => ⟨.str _, H, I.kept hk, ⟨_, rfl⟩, q⟩) hsz
    rw [nd] at z; cases z
  | tuple h1 h2 h3 h4 =>
    have nd := dp_nodict _ _ hd
    refine repr_of_reads' (.tuple h1 h2 h3 h4) hs (fun z => ?_) hgd (by omega) (fun _ _ e => e) (fun h' u tk hk => ⟨.str _, H, I.kept hk, ⟨_, rfl⟩, q⟩) hsz
    rw [nd] at z; cases z
  | dict h1 h2 h3 h4 h5 => cases hd

/-! ### the law's own call -/
section
variable {P : Program} {w : World} {K : PySem.W.Frag} {mg mb : Str → Option Value} {CX : CXT} {k : Nat} {fa a : Addr} {fd : FuncData} {x : Str} {sp : Sp} {s1 : Shared} {vs : List Value} {ns : List Int}

/-- from an abstract heap H that tracks the script at most -/
theorem law_core (KX : K.In s1.heap) (hns : s1.heap.Ns mainGlobals mg) (hb : s1.heap.Ns builtinsNs mb)
    (hbb : ∀ x : Str, x ≠ "__name__" → mb x = bootBuiltins x) (hlim : s1.heap.NoLimit) (hg : s1.gens = #[])
    (ha : s1.heap.get? a = some { cls := .type "list", data := .seq vs.toArray }) (hr : Room k callerA)
    (F : ∀ base : Heap, K.In base → base.Ns mainGlobals mg → FnG P w K mg base CX k fa fd [x] sp)
    (hbind : ∀ (s : Shared) (u : Value), BindsTo s fd ⟨[u], []⟩ [(x, u)])
    {H : Hp} (only : Only H) (hok : HOk P w H s1.heap) (hA : ∀ b, H b ≠ none → b = a) (hK : H a ≠ none → K.lookup a = none)
    (hsp : sp [.ref a] H (fun v _ => v = .bl true) fun _ _ _ => False)
    (hCX : ∀ e s', CX [] H s1 (fun _ _ _ => False) e s' → False) :
    codeAny (model P w) callerA (.call (.ref fa) ⟨[.ref a], []⟩)
      (fun r s' => r = .ok (.ret (.bool true)) ∧ OldK s1.heap s'.heap ∧ s'.os = s1.os ∧ AllBare s'.gens) s1 := by
  have tracked : ∀ {b : Addr} {u : HO}, H b = some u → b = a := fun {b u} q => hA b (by simp [q])
  have dictFree : ∀ {b : Addr} {o : Obj} {es : Array DictEntry} {ep : Nat}, s1.heap.get? b = some o → o.data = .dict es ep → H b = none := by
    intro b o es ep e d
    cases q : H b with
    | none => rfl
    | some u =>
      rw [tracked q, ha] at e
      cases e
      cases d
  have nsK : ∀ {b : Addr} {m : Str → Option Value}, s1.heap.Ns b m → (hidT s1.heap H).Ns b m := by
    rintro b m ⟨o, es, ep, e, d, r⟩
    exact ⟨o, es, ep, hidT_get e (dictFree e d), d, r⟩
  have kin : K.In (hidT s1.heap H) := by
    intro b o e
    refine hidT_get (KX b o e) ?_
    cases q : H b with
    | none => rfl
    | some u =>
      have eb := tracked q
      subst eb
      rw [hK (by simp [q])] at e
      cases e
  have md : Mod K mg (hidT s1.heap H) := by
    obtain ⟨mc, l1, l2⟩ := hlim
    exact ⟨kin, nsK hns, ⟨mb, nsK hb, hbb⟩, ⟨mc, nsK l1, l2⟩⟩
  have e0 : Env0 P w K mg (hidT s1.heap H) callerA [] s1 H :=
    { frames := rfl, mod := md, bs := fun b o e => of_hidT e, bsz := Nat.le_of_eq (hidT_size _ _), funs := trivial,
      frf := fun b z => absurd (show b ∈ ([] : List Addr) from z) List.not_mem_nil, hok := hok, bare := .of_eq hg }
  have go := (F _ kin (nsK hns)).goes callerA [] s1 H ⟨[.ref a], []⟩ [.ref a] [.ref a] _ _ hr rfl e0 (hbind s1 (.ref a)) (.cons rfl .nil) hsp
  refine codeAny_mono go fun r s' h => ?_
  cases r with
  | error e => exact (hCX e s' h).elim
  | ok fl =>
    cases fl with
    | next => exact h.elim
    | brk => exact h.elim
    | cont => exact h.elim
    | ret u =>
      obtain ⟨v, H', os, bare, un, hok', r', q⟩ := h
      have ev : v = .bl true := q
      subst ev
      have eu : u = Value.bool true := r'
      subst eu
      refine ⟨rfl, OldK.of_keep fun b o e => ?_, os, bare⟩
      rcases only b with z | ⟨ob, xs, z⟩
      · exact un.keep b o e z (fun y => absurd (show b ∈ ([] : List Addr) from y) List.not_mem_nil) List.not_mem_nil
      · obtain ⟨e1, _⟩ := hok b _ z
        obtain ⟨e2, _⟩ := hok' b _ (un.frzs b ob _ z)
        rw [e1] at e
        cases e
        exact e2

theorem law_callG (KX : K.In s1.heap) (hns : s1.heap.Ns mainGlobals mg) (hb : s1.heap.Ns builtinsNs mb)
    (hbb : ∀ x : Str, x ≠ "__name__" → mb x = bootBuiltins x) (hlim : s1.heap.NoLimit) (hg : s1.gens = #[])
    (ha : s1.heap.get? a = some { cls := .type "list", data := .seq vs.toArray }) (hi : IntsAre vs ns) (hl : ns.length ≤ sizeLine) (hr : Room k callerA)
    (F : ∀ base : Heap, K.In base → base.Ns mainGlobals mg → FnG P w K mg base CX k fa fd [x] sp)
    (hbind : ∀ (s : Shared) (u : Value), BindsTo s fd ⟨[u], []⟩ [(x, u)])
    (hsp : ∀ H : Hp, Only H → SqL K H a (ns.map V.int) → sp [.ref a] H (fun v _ => v = .bl true) fun _ _ _ => False)
    (hCX : ∀ H e s', CX [] H s1 (fun _ _ _ => False) e s' → False) :
    codeAny (model P w) callerA (.call (.ref fa) ⟨[.ref a], []⟩)
      (fun r s' => r = .ok (.ret (.bool true)) ∧ OldK s1.heap s'.heap ∧ s'.os = s1.os ∧ AllBare s'.gens) s1 := by
  have rv := vals_ints hi
  cases hk : K.lookup a with
  | some o =>
    have e := KX a o hk
    rw [ha] at e
    cases e
    have on : Only (fun _ => none) := fun _ => .inl rfl
    refine law_core KX hns hb hbb hlim hg ha hr F hbind on (fun b u z => by cases z) (fun b z => absurd rfl z) (fun z => absurd rfl z) (hsp _ on (.inr ?_)) (hCX _)
    exact ⟨_, vs.toArray, _, hk, rfl, rfl, rfl, by rw [List.size_toArray, hi.length]; exact hl, by simpa using rv⟩
  | none =>
    let o : Obj := { cls := .type "list", data := .seq vs.toArray }
    let H : Hp := upd (fun _ => none) a (.frz o (.lst (ns.map V.int)))
    have hH : H a = some (.frz o (.lst (ns.map V.int))) := upd_same
    have hN : ∀ b, b ≠ a → H b = none := fun b z => upd_ne z
    have on : Only H := by
      intro b
      by_cases e : b = a
      · subst e; exact .inr ⟨_, _, hH⟩
      · exact .inl (hN b e)
    refine law_core KX hns hb hbb hlim hg ha hr F hbind on (fun b u z => ?_) (fun b z => ?_) (fun _ => hk) (hsp H on (.inl (.inr ⟨o, hH⟩))) (hCX _)
    · by_cases e : b = a
      · subst e
        rw [hH] at z
        cases z
        exact ⟨ha, by rw [List.length_map]; exact hl, vs, _, rv, ha⟩
      · rw [hN b e] at z; cases z
    · by_cases e : b = a
      · exact e
      · exact absurd (hN b e) z
end

/-- the walk that a head by facts asks for, with the script's bits -/
theorem walkG {l : PySem.W.OpenLaw} {n k : Nat} {q : Program} {loose : List Str} {XP : (Str → Option Value) → Heap → Prop} {YP : World → Heap → Prop} {d : DefRec} {CX : CXT} {x : Str}
    (hn : l.most = some n) (hn2 : n ≤ sizeLine) (hdf : d.params.defaults = []) (hr : Room k callerA)
    (F : ∀ (w : World) (mg : Str → Option Value) (fa : Addr) (h : Heap), YP w h → h.Ns mainGlobals mg → mg d.name = some (.ref fa) →
      ∃ (K : PySem.W.Frag) (fd : FuncData) (sp : Sp), K.In h ∧ (∀ (s : Shared) (u : Value), BindsTo s fd ⟨[u], []⟩ [(x, u)]) ∧
        (∀ (H : Hp) (a : Addr) (ns : List Int), ns.length ≤ n → (∀ z ∈ ns, Builtin.Int.intBits z ≤ 1048576) → Only H → SqL K H a (ns.map V.int) →
          sp [.ref a] H (fun v _ => v = .bl true) fun _ _ _ => False) ∧
        ∀ base : Heap, K.In base → base.Ns mainGlobals mg → FnG l.prog w K mg base CX k fa fd [x] sp)
    (hCX : ∀ (H : Hp) (s : Shared) (e : Value) (s' : Shared), CX [] H s (fun _ _ _ => False) e s' → False) :
    PySem.W.WalkO q loose XP YP l.row.toRowW d [] (fun f vs => PySem.call f vs) := by
  refine Att.attach_callB hn hdf ?_
  intro w s₀ s₁ mg mb fa o pm cd doc a vs ns G Y ho hd hcd hmg hobj hints hlen hbits hg
  obtain ⟨K, fd, sp, KX, hb, hsp, hF⟩ := F w mg fa _ Y G.T.g hmg
  exact law_callG KX G.T.g G.T.b G.T.builtins G.T.nolimit hg hobj hints (Nat.le_trans hlen hn2) hr hF hb (fun H hO hS => hsp H a ns hlen hbits hO hS) (fun H e s' => hCX H s₁ e s')
end HG

set_option maxHeartbeats 4000000
/-! HW: short words over HG: defs called by name (Cal), data, frames. -/
namespace HG
open PySem PySem.Spec PyProof.Rows L2

/-! ### a def of the top, ready to be called -/
structure Cal (P : Program) (w : World) (K : PySem.W.Frag) (mg : Str → Option Value) (base : Heap) (x : Str) (k : Nat) (ps : List Str) (sp : Sp) : Prop where
  ex : ∃ fd, FnOk P w K mg base CX0 k (He.ga K x) fd ps sp ∧ Binds K fd ps []
  gl : mg x = some (.ref (He.ga K x))
  kp : PySem.W.keepIn K (.ref (He.ga K x)) = true
structure CalG (P : Program) (w : World) (K : PySem.W.Frag) (mg : Str → Option Value) (base : Heap) (x : Str) (k : Nat) (ps : List Str) (sp : Sp) : Prop where
  ex : ∃ fd, FnG P w K mg base CX0 k (He.ga K x) fd ps sp ∧ Binds K fd ps []
  gl : mg x = some (.ref (He.ga K x))
  kp : PySem.W.keepIn K (.ref (He.ga K x)) = true
/-- called by keywords alone -/
structure CalK (P : Program) (w : World) (K : PySem.W.Frag) (mg : Str → Option Value) (base : Heap) (x : Str) (k : Nat) (ks ps : List Str) (gV : List V → List V) (sp : Sp) : Prop where
  ex : ∃ fd g, FnOk P w K mg base CX0 k (He.ga K x) fd ps sp ∧ KBn K fd ps 0 ks g (fun _ zs => gV zs)
  gl : mg x = some (.ref (He.ga K x))
  kp : PySem.W.keepIn K (.ref (He.ga K x)) = true
section
variable {X : Cx} {k : Nat} {ps ks : List Str} {sp : Sp} {x : Str} {p pos : Pos} {e : Expr} {es : List Expr} {t tk : TA} {kws : List Keyword} {gV : List V → List V}
theorem pe_cal (C : Cal X.prog X.w X.K X.mg X.base x k ps sp) (hr : Room k X.A) (hg : Gl X x) (ha : PA X (e :: es) t)
    (hdb : (x == ("__debug__" : Str)) = false := by decide)
    (he : starEach (e :: es) X.env = (false, eval e X.env) :: starEach es X.env := by rfl)
    (hpl : (backTo pos (starEach es X.env)).any (·.1) = false := by rfl) : PE X (.Call (.Name x p) (e :: es) [] pos) (tCall sp [] E0 t) := by
  obtain ⟨fd, F, b⟩ := C.ex
  exact pe_call F hr hg C.gl C.kp b .nil pass0 ha hdb he hpl
theorem pe_calG (C : CalG X.prog X.w X.K X.mg X.base x k ps sp) (hr : Room k X.A) (hgd : X.A.guards = some []) (hg : Gl X x) (ha : PA X (e :: es) t)
    (hdb : (x == ("__debug__" : Str)) = false := by decide)
    (he : starEach (e :: es) X.env = (false, eval e X.env) :: starEach es X.env := by rfl)
    (hpl : (backTo pos (starEach es X.env)).any (·.1) = false := by rfl) : PE X (.Call (.Name x p) (e :: es) [] pos) (tCall sp [] E0 t) := by
  obtain ⟨fd, F, b⟩ := C.ex
  exact pe_callG F hr hgd hg C.gl C.kp b .nil pass0 ha hdb he hpl
def tCalK (m : Nat) (sp : Sp) (gV : List V → List V) (tk : TA) : TE := fun σ H Q => tk σ H fun zs H1 => zs.length = m ∧ sp (gV zs) H1 Q E0
theorem pe_calK (C : CalK X.prog X.w X.K X.mg X.base x k ks ps gV sp) (hr : Room k X.A) (hg : Gl X x) (hkw : PK X kws tk)
    (hall : (backToKw pos (keywordEach kws X.env)).all (·.1.isSome) = true := by rfl)
    (hks : (backToKw pos (keywordEach kws X.env)).filterMap (·.1) = ks := by rfl)
    (hdb : (x == ("__debug__" : Str)) = false := by decide)
    (hpl : ((backTo pos (starEach [] X.env)).any (·.1) || (backToKw pos (keywordEach kws X.env)).any (·.1.isNone)) = false := by rfl) :
    PE X (.Call (.Name x p) [] kws pos) (tCalK ks.length sp gV tk) := by
  obtain ⟨fd, g, F, b⟩ := C.ex
  constructor
  intro pins s σ H Q I h
  refine wpAny_Call_Name_kw (ld_glob I hg C.gl ?_ hdb)
  refine PySem.W.callWith_KW0 (h₀ := X.base) I.ok.mod.kin C.kp hall (thn (hkw.run pos pins s σ H _ I h) ?_) hpl
  rintro ws s2 ⟨zs, H2, I2, rz, l2, q2⟩
  rw [hks]
  exact ⟨I2.kIn, run_fnN (us := []) (vs := []) F hr b pass0 I2 .nil rz rfl l2 q2⟩
theorem pe_globI {i : Int} (h : ∃ t, X.mg x = some (.int i t)) (hg : Gl X x) (hd : (x == ("__debug__" : Str)) = false := by decide) : PE X (.Name x pos) (tC (.int i)) := by
  obtain ⟨t, h⟩ := h
  exact pe_glob hg h ⟨t, rfl⟩ hd
theorem pe_globS {z : Str} (h : ∃ t, X.mg x = some (.str z t)) (hg : Gl X x) (hd : (x == ("__debug__" : Str)) = false := by decide) : PE X (.Name x pos) (tC (.str z)) := by
  obtain ⟨t, h⟩ := h
  exact pe_glob hg h ⟨t, rfl⟩ hd
end

/-! ### data -/
def tyN : PyData → String
  | .none => "NoneType"
  | .bool _ => "bool"
  | .int _ => "int"
  | .str _ => "str"
  | .list _ => "list"
  | .tuple _ => "tuple"
  | .dict _ => "dict"
theorem dp_ty {K : PySem.W.Frag} {H : Hp} {v : V} {d : PyData} (h : Dp K H v d) : TyX K H v (.type (tyN d)) := by
  cases h with
  | non => exact .base .non
  | bl b => exact .base (.bl b)
  | int i => exact .base (.int i)
  | str x => exact .base (.str x)
  | lst s _ =>
    rcases s with (e | ⟨o, e⟩) | ⟨o, _, _, e, c, _⟩
    · exact .base (.lst e)
    · exact .base (.frz e)
    · exact .kList e c
  | tup s _ =>
    rcases s with (e | ⟨o, e⟩) | ⟨o, _, _, e, c, _⟩
    · exact .base (.tup e)
    · exact .fTuple e
    · exact .kTuple e c
theorem isi_of {K : PySem.W.Frag} {H : Hp} {v : V} {d : PyData} {n : String} {b : Bool} {Q : VK} (h : Dp K H v d) (hk : kitB (tyN d) n = some b) (q : Q (.bl b) H) : rIsi K [v, .ty n] H Q :=
  ⟨v, .ty n, _, _, b, rfl, .ty n, dp_ty h, kit_ty hk, q⟩
def isI : PyData → Bool
  | .int _ => true
  | .bool _ => true
  | _ => false
def isB : PyData → Bool
  | .bool _ => true
  | _ => false
def isS : PyData → Bool
  | .str _ => true
  | _ => false
def isL : PyData → Bool
  | .list _ => true
  | _ => false
def isT : PyData → Bool
  | .tuple _ => true
  | _ => false
theorem kit_int : ∀ d : PyData, kitB (tyN d) "int" = some (isI d)
  | .none => (by decide +kernel : kitB "NoneType" "int" = some false)
  | .bool _ => (by decide +kernel : kitB "bool" "int" = some true)
  | .int _ => (by decide +kernel : kitB "int" "int" = some true)
  | .str _ => (by decide +kernel : kitB "str" "int" = some false)
  | .list _ => (by decide +kernel : kitB "list" "int" = some false)
  | .tuple _ => (by decide +kernel : kitB "tuple" "int" = some false)
  | .dict _ => (by decide +kernel : kitB "dict" "int" = some false)
theorem kit_bool : ∀ d : PyData, kitB (tyN d) "bool" = some (isB d)
  | .none => (by decide +kernel : kitB "NoneType" "bool" = some false)
  | .bool _ => (by decide +kernel : kitB "bool" "bool" = some true)
  | .int _ => (by decide +kernel : kitB "int" "bool" = some false)
  | .str _ => (by decide +kernel : kitB "str" "bool" = some false)
  | .list _ => (by decide +kernel : kitB "list" "bool" = some false)
  | .tuple _ => (by decide +kernel : kitB "tuple" "bool" = some false)
  | .dict _ => (by decide +kernel : kitB "dict" "bool" = some false)
theorem kit_str : ∀ d : PyData, kitB (tyN d) "str" = some (isS d)
  | .none => (by decide +kernel : kitB "NoneType" "str" = some false)
  | .bool _ => (by decide +kernel : kitB "bool" "str" = some false)
  | .int _ => (by decide +kernel : kitB "int" "str" = some false)
  | .str _ => (by decide +kernel : kitB "str" "str" = some true)
  | .list _ => (by decide +kernel : kitB "list" "str" = some false)
  | .tuple _ => (by decide +kernel : kitB "tuple" "str" = some false)
  | .dict _ => (by decide +kernel : kitB "dict" "str" = some false)
theorem kit_list : ∀ d : PyData, kitB (tyN d) "list" = some (isL d)
  | .none => (by decide +kernel : kitB "NoneType" "list" = some false)
  | .bool _ => (by decide +kernel : kitB "bool" "list" = some false)
  | .int _ => (by decide +kernel : kitB "int" "list" = some false)
  | .str _ => (by decide +kernel : kitB "str" "list" = some false)
  | .list _ => (by decide +kernel : kitB "list" "list" = some true)
  | .tuple _ => (by decide +kernel : kitB "tuple" "list" = some false)
  | .dict _ => (by decide +kernel : kitB "dict" "list" = some false)
theorem kit_tuple : ∀ d : PyData, kitB (tyN d) "tuple" = some (isT d)
  | .none => (by decide +kernel : kitB "NoneType" "tuple" = some false)
  | .bool _ => (by decide +kernel : kitB "bool" "tuple" = some false)
  | .int _ => (by decide +kernel : kitB "int" "tuple" = some false)
  | .str _ => (by decide +kernel : kitB "str" "tuple" = some false)
  | .list _ => (by decide +kernel : kitB "list" "tuple" = some false)
  | .tuple _ => (by decide +kernel : kitB "tuple" "tuple" = some true)
  | .dict _ => (by decide +kernel : kitB "dict" "tuple" = some false)

mutual
theorem dp_mono {K : PySem.W.Frag} {H H' : Hp} (e : Same H H') : ∀ (d : PyData) (v : V), Dp K H v d → Dp K H' v d
  | .none, _, h => by cases h; exact .non
  | .bool b, _, h => by cases h; exact .bl b
  | .int i, _, h => by cases h; exact .int i
  | .str x, _, h => by cases h; exact .str x
  | .list ds, _, h => by
    cases h with
    | lst s a =>
      refine .lst ?_ (dpAll_mono e ds _ a)
      rcases s with (s | ⟨o, s⟩) | s
      · exact .inl (.inl (e _ _ s))
      · exact .inl (.inr ⟨o, e _ _ s⟩)
      · exact .inr s
  | .tuple ds, _, h => by
    cases h with
    | tup s a =>
      refine .tup ?_ (dpAll_mono e ds _ a)
      rcases s with (s | ⟨o, s⟩) | s
      · exact .inl (.inl (e _ _ s))
      · exact .inl (.inr ⟨o, e _ _ s⟩)
      · exact .inr s
  | .dict _, _, h => by cases h
theorem dpAll_mono {K : PySem.W.Frag} {H H' : Hp} (e : Same H H') : ∀ (ds : List PyData) (vs : List V), DpAll K H vs ds → DpAll K H' vs ds
  | [], _, h => by cases h; exact .nil
  | d :: ds, _, h => by
    cases h with
    | cons a b => exact .cons (dp_mono e d _ a) (dpAll_mono e ds _ b)
end
theorem dpAll_len {K : PySem.W.Frag} {H : Hp} : ∀ {vs : List V} {ds : List PyData}, DpAll K H vs ds → vs.length = ds.length
  | _, _, .nil => rfl
  | _, _, .cons _ h => congrArg (· + 1) (dpAll_len h)
theorem dpAll_app {K : PySem.W.Frag} {H : Hp} : ∀ {vs us : List V} {ds es : List PyData}, DpAll K H vs ds → DpAll K H us es → DpAll K H (vs ++ us) (ds ++ es)
  | _, _, _, _, .nil, h => h
  | _, _, _, _, .cons a b, h => .cons a (dpAll_app b h)
theorem dpAll_get {K : PySem.W.Frag} {H : Hp} : ∀ {vs : List V} {ds : List PyData} {i : Nat} {v : V}, DpAll K H vs ds → vs[i]? = some v → ∃ d, ds[i]? = some d ∧ Dp K H v d
  | _, _, _, _, .nil, h => by simp at h
  | _, _, 0, _, .cons a _, h => by
    simp at h
    subst h
    exact ⟨_, rfl, a⟩
  | _, _, i + 1, _, .cons _ b, h => by
    obtain ⟨d, e, q⟩ := dpAll_get (i := i) b (by simpa using h)
    exact ⟨d, by simpa using e, q⟩

theorem dpInts {K : PySem.W.Frag} {H : Hp} : ∀ ns : List Int, DpAll K H (ns.map V.int) (ns.map PyData.int)
  | [] => .nil
  | n :: ns => .cons (.int n) (dpInts ns)
theorem canLay_ints : ∀ ns : List Int, PyData.canLayAll0 (ns.map PyData.int) = true
  | [] => by simp only [List.map_nil, PyData.canLayAll0]
  | n :: ns => by simp only [List.map_cons, PyData.canLayAll0, PyData.canLay0, canLay_ints ns, Bool.and_self]
theorem depth_ints : ∀ ns : List Int, PyData.depthAll (ns.map PyData.int) ≤ 1
  | [] => by simp only [List.map_nil, PyData.depthAll]; omega
  | n :: ns => by
    have := depth_ints ns
    simp only [List.map_cons, PyData.depthAll, PyData.depth]
    omega
theorem shaped_ints (ns : List Int) : SeqAt.shaped (.list (ns.map PyData.int)) = true := by
  have h := depth_ints ns
  have h2 : (PyData.list (ns.map PyData.int)).depth ≤ 64 := by
    simp only [PyData.depth]
    omega
  unfold SeqAt.shaped
  simp only [PyData.canLay0, canLay_ints ns, Bool.true_and]
  exact decide_eq_true h2
theorem upd_get {H : Hp} {p b : Addr} {o u : HO} (hp : H p = none) (h : H b = some u) : upd H p o b = some u := by
  rw [upd_ne (ne_of_none h hp)]
  exact h

/-! ### heaps but for two places -/
def off (d c : Addr) (H : Hp) : Hp := fun b => if b = d ∨ b = c then none else H b
theorem off_same {d c : Addr} {H : Hp} : Same (off d c H) H := fun b o h => by
  unfold off at h
  split at h
  · cases h
  · exact h
theorem off_get {d c b : Addr} {H : Hp} (h1 : b ≠ d) (h2 : b ≠ c) : off d c H b = H b := if_neg (fun z => z.elim h1 h2)
def Ext (d c : Addr) (H H' : Hp) : Prop := Same (off d c H) (off d c H')
theorem Ext.refl {d c : Addr} (H : Hp) : Ext d c H H := fun _ _ h => h
theorem Ext.trans {d c : Addr} {H H1 H2 : Hp} (a : Ext d c H H1) (b : Ext d c H1 H2) : Ext d c H H2 := fun x o h => b x o (a x o h)
theorem Ext.d {d c : Addr} {H : Hp} {o : HO} : Ext d c H (upd H d o) := fun b u h => by
  unfold off at h ⊢
  split at h
  · cases h
  · rename_i n
    rw [if_neg n, upd_ne (fun z => n (.inl z))]
    exact h
theorem Ext.c {d c : Addr} {H : Hp} {o : HO} : Ext d c H (upd H c o) := fun b u h => by
  unfold off at h ⊢
  split at h
  · cases h
  · rename_i n
    rw [if_neg n, upd_ne (fun z => n (.inr z))]
    exact h
theorem Ext.new {d c p : Addr} {H : Hp} {o : HO} (hp : H p = none) : Ext d c H (upd H p o) := fun b u h => by
  unfold off at h ⊢
  split at h
  · cases h
  · rename_i n
    rw [if_neg n, upd_ne (ne_of_none h hp)]
    exact h
/-- an object that was not there may change -/
theorem Ext.mut {d c p : Addr} {H H' : Hp} {o : HO} (e : Ext d c H H') (hp : H p = none) : Ext d c H (upd H' p o) := fun b u h => by
  have h1 := e b u h
  unfold off at h h1 ⊢
  split at h
  · cases h
  · rename_i n
    rw [if_neg n] at h1
    rw [if_neg n, upd_ne (ne_of_none h hp)]
    exact h1
theorem Ext.at {d c b : Addr} {H H' : Hp} {o : HO} (e : Ext d c H H') (h1 : b ≠ d) (h2 : b ≠ c) (h : H b = some o) : H' b = some o := by
  have := e b o ((off_get h1 h2).trans h)
  rw [off_get h1 h2] at this
  exact this
/-- of H' what H had not -/
def news (H H' : Hp) : Hp := fun b => if (H b).isSome = true then none else H' b
theorem news_get {H H' : Hp} {b : Addr} {o : HO} : news H H' b = some o ↔ H b = none ∧ H' b = some o := by
  unfold news
  cases h : H b with
  | none => simp
  | some u => simp
theorem news_same {H H' : Hp} : Same (news H H') H' := fun b o h => (news_get.mp h).2
theorem Ext.sqL {K : PySem.W.Frag} {d c : Addr} {H H' : Hp} {a : Addr} {xs : List V} (e : Ext d c H H') (h : SqL K (off d c H) a xs) : SqL K (off d c H') a xs := Same.seq e h
theorem offL {K : PySem.W.Frag} {d c : Addr} {H : Hp} {a : Addr} {xs : List V} (h : SqL K (off d c H) a xs) : SqL K H a xs := Same.seq off_same h
theorem offD {K : PySem.W.Frag} {d c : Addr} {H : Hp} {v : V} {D : PyData} (h : Dp K (off d c H) v D) : Dp K H v D := dp_mono off_same D v h
theorem Ext.dp {K : PySem.W.Frag} {d c : Addr} {H H' : Hp} {v : V} {D : PyData} (e : Ext d c H H') (h : Dp K (off d c H) v D) : Dp K (off d c H') v D := dp_mono e D v h
theorem tyes {σ : L2.St} {H : Hp} {A B : Hp → Prop} (h : A H) : tYes σ H fun b H3 => if b = true then A H3 else B H3 := by
  show if true = true then A H else B H
  exact iteT h
/-! ### texts -/
abbrev cp (z : Str) : List Nat := z.cps.toList
theorem cp_len (z : Str) : (cp z).length = z.length := by unfold cp; simp [Str.length]
theorem cp_app (a b : Str) : cp (a ++ b) = cp a ++ cp b := by
  unfold cp
  rw [Str.cps_append, Array.toList_append]
theorem cp_ext {a b : Str} (h : cp a = cp b) : a = b := Str.ext' (Array.toList_inj.mp h)
structure OkS (m : Nat) (z : Str) : Prop where
  len : z.length ≤ m
  cps : ∀ c ∈ cp z, c < 128
theorem OkS.up {m n : Nat} {z : Str} (h : OkS m z) (hn : m ≤ n) : OkS n z := ⟨Nat.le_trans h.len hn, h.cps⟩
theorem OkS.app {m n : Nat} {a b : Str} (h : OkS m a) (g : OkS n b) : OkS (m + n) (a ++ b) := by
  refine ⟨?_, fun c hc => ?_⟩
  · rw [Str.length_append]
    have := h.len
    have := g.len
    omega
  · rw [cp_app] at hc
    rcases List.mem_append.mp hc with q | q
    · exact h.cps c q
    · exact g.cps c q
theorem OkS.cut {m : Nat} {z : Str} (h : OkS m z) (lo hi : Option Int) : OkS m (cutS z lo hi) := by
  have e : cp (cutS z lo hi) = ((cp z).drop (HT.sIx z.length 0 lo)).take (HT.sIx z.length z.length hi - HT.sIx z.length 0 lo) := by
    unfold cutS cp
    simp
  refine ⟨?_, fun c hc => ?_⟩
  · rw [← cp_len, e, List.length_take, List.length_drop, cp_len]
    have := h.len
    omega
  · rw [e] at hc
    exact h.cps c (List.mem_of_mem_drop (List.mem_of_mem_take hc))
theorem OkS.one {c : Nat} (h : c < 128) : OkS 1 ⟨#[c]⟩ := ⟨by simp [Str.length], fun x hx => by simp [cp] at hx; omega⟩
theorem OkS.repr {m : Nat} {z : Str} (h : OkS m z) : (reprText z).length ≤ 10 * m + 2 := by
  have h1 := StrLaws.reprText_len z (fun c hc => Nat.lt_of_lt_of_le (h.cps c hc) (by decide))
  have := h.len
  omega
theorem cp_join0 : ∀ l : List Str, cp (Str.join "" l) = (l.map cp).flatten
  | [] => rfl
  | [x] => by
    show cp x = _
    simp
  | x :: y :: r => by
    show cp (x ++ "" ++ Str.join "" (y :: r)) = _
    rw [cp_app, cp_app, cp_join0 (y :: r)]
    have e : cp ("" : Str) = [] := rfl
    rw [e]
    simp
theorem cp_joinT (l : List Str) : cp (Txt.join "" l) = (l.map cp).flatten := by
  rw [eq_of_beq (join_plain_closes "" l)]
  exact cp_join0 l
end HG

set_option maxHeartbeats 4000000
/-! HH: a head's facts by a Hook with one more Bool; written dicts with text keys; written tuples. -/
namespace HG
open PySem PySem.Spec PyProof.Rows L2

/-! ### the Hook -/
abbrev AlB : Type := He.AlT × Bool
def obsB (fa : List He.Fa) (fn : List He.DefD) (ts : List He.Tab) (bx : PySem.W.Frag → Bool) (K : PySem.W.Frag) : AlB := (He.obsT fa fn ts K, bx K)
def obsBG (n : Nat) (fa : List He.Fa) (fn : List He.DefD) (ts : List He.Tab) (bx : PySem.W.Frag → Bool) (g : Addr → Option Obj) : AlB := obsB fa fn ts bx (He.frG g (He.asD g n))
def SaysB (fa : List He.Fa) (fn : List He.DefD) (ts : List He.Tab) (bx : PySem.W.Frag → Bool) (w : World) (K : PySem.W.Frag) : Prop := obsB fa fn ts bx K = (He.valT fn ts w, true)
def hookB (n : Nat) (fa : List He.Fa) (fn : List He.DefD) (ts : List He.Tab) (bx : PySem.W.Frag → Bool) : PySem.W.Hook where
  α := AlB
  obs := fun s => obsBG n fa fn ts bx s.heap.get?
  val := fun w => (He.valT fn ts w, true)
  says := fun w h => ∃ K : PySem.W.Frag, K.In h ∧ SaysB fa fn ts bx w K
  of := fun _ _ e => ⟨_, He.frG_in, e⟩
  keeps := fun _ _ _ ⟨K, hK, c⟩ k => ⟨K, PySem.W.Frag.In.keeps hK k, c⟩
theorem obsBG_eq {n : Nat} {fa : List He.Fa} {fn : List He.DefD} {ts : List He.Tab} {bx : PySem.W.Frag → Bool} {g : Addr → Option Obj} {s : Shared} (h : ∀ a, g a = s.heap.get? a) :
    obsBG n fa fn ts bx g = (hookB n fa fn ts bx).obs s := by
  have e : g = s.heap.get? := funext h
  rw [e]
  rfl
section
variable {fa : List He.Fa} {fn : List He.DefD} {ts : List He.Tab} {bx : PySem.W.Frag → Bool} {w : World} {K : PySem.W.Frag}
theorem SaysB.t (c : SaysB fa fn ts bx w K) : He.SaysT fa fn ts w K := congrArg (fun z : AlB => z.1) c
theorem SaysB.d (c : SaysB fa fn ts bx w K) : He.SaysD fa fn K := c.t.d
theorem SaysB.b (c : SaysB fa fn ts bx w K) : bx K = true := congrArg (fun z : AlB => z.2) c
end

/-! ### a written dict with text keys -/
structure KTab (K : PySem.W.Frag) (w : World) (a : Addr) (kvs : List (Str × V)) : Prop where
  dict : ∃ es n, KDict K w a es n
  hit : ∀ q ∈ kvs, ∃ u, PySem.W.nsIn K a q.1 = some (some u) ∧ RelV q.2 u
  miss : ∀ z : Str, z ∉ kvs.map (·.1) → PySem.W.nsIn K a z = some none
theorem keys_mem {P : Params} : ∀ {l : List DictEntry} {ks : List Str}, l.map He.keyOf = He.keysIn P ks → ∀ e ∈ l, ∃ x t, e.key = .str x t ∧ x ∈ ks
  | [], _, _, e, he => nomatch he
  | e :: r, [], h, _, _ => by cases h
  | e :: r, k :: ks, h, d, hd => by
    have h1 : He.keyOf e :: r.map He.keyOf = some (k, PyData.keyHash P k) :: He.keysIn P ks := h
    injection h1 with h2 h3
    rcases List.mem_cons.mp hd with rfl | hd
    · unfold He.keyOf at h2
      split at h2
      · rename_i x t q
        have h4 := Option.some.inj h2
        obtain ⟨h5, h6⟩ := Prod.mk.inj h4
        exact ⟨x, t, q, by rw [h5]; exact List.mem_cons_self⟩
      · cases h2
    · obtain ⟨x, t, q, hx⟩ := keys_mem h3 d hd
      exact ⟨x, t, q, List.mem_cons_of_mem _ hx⟩
theorem ns_miss {K : PySem.W.Frag} {P : Params} {a : Addr} {ks : List Str} (h : He.dicW K a = some (He.keysIn P ks)) {z : Str} (hz : z ∉ ks) : PySem.W.nsIn K a z = some none := by
  unfold He.dicW at h
  cases q : K.lookup a with
  | none =>
    rw [q] at h
    cases h
  | some o =>
    obtain ⟨oc, od, dt, osl⟩ := o
    rw [q] at h
    cases oc with
    | type c =>
      cases od with
      | none =>
        cases dt with
        | dict es n =>
          have h1 : (match decide (c = "dict") && (osl.isEmpty && !(a == sysModules)) with
            | true => some (es.toList.map He.keyOf)
            | false => none) = some (He.keysIn P ks) := h
          have h2 : es.toList.map He.keyOf = He.keysIn P ks := by
            cases y : decide (c = "dict") && (osl.isEmpty && !(a == sysModules)) with
            | false =>
              rw [y] at h1
              cases h1
            | true =>
              rw [y] at h1
              exact Option.some.inj h1
          have hk := keys_mem h2
          unfold PySem.W.nsIn
          rw [q]
          have e1 : es.toList.find? (·.key.isStr z) = none := by
            rw [List.find?_eq_none]
            intro e he
            obtain ⟨x, t, ex, hx⟩ := hk e he
            rw [ex]
            show ¬ (Value.str x t).isStr z = true
            intro hs
            have : x = z := by
              first
                | exact (beq_iff_eq.mp hs)
                | exact of_decide_eq_true hs
                | (simp [Value.isStr] at hs; exact hs)
            exact hz (this ▸ hx)
          have e2 : es.toList.any (·.refKey) = false := by
            rw [List.any_eq_false]
            intro e he
            obtain ⟨x, t, ex, hx⟩ := hk e he
            unfold DictEntry.refKey
            rw [ex]
            simp
          show (match es.toList.find? (·.key.isStr z) with
            | some e => some (some e.val)
            | none => if es.toList.any (·.refKey) then none else some none) = some none
          rw [e1, e2]
          rfl
        | _ => cases h
      | some b => cases dt <;> cases h
    | _ => cases od <;> cases dt <;> cases h
theorem ktab_mk {fa : List He.Fa} {fn : List He.DefD} {ts : List He.Tab} {bx : PySem.W.Frag → Bool} {w : World} {K : PySem.W.Frag} (c : SaysB fa fn ts bx w K) (i : Nat) {t : He.Tab} {kvs : List (Str × He.Dv)}
    (h : ts[i]? = some t) (hk : t.2 = kvs.map (·.1)) (hv : He.valsB K (t.1 K) kvs = true) : KTab K w (t.1 K) (kvs.map fun q => (q.1, q.2.v K)) := by
  have e : ts.map (fun t => He.dicW K (t.1 K)) = ts.map fun t => some (He.keysIn w.params t.2) := congrArg (fun z : He.AlT => z.2) c.t
  have e2 : (ts.map fun t => He.dicW K (t.1 K))[i]? = (ts.map fun t => some (He.keysIn w.params t.2))[i]? := by rw [e]
  rw [List.getElem?_map, List.getElem?_map, h] at e2
  have e3 := Option.some.inj e2
  refine ⟨He.dicW_ok e3, fun q hq => ?_, fun z hz => ns_miss e3 ?_⟩
  · obtain ⟨p, hp, rfl⟩ := List.mem_map.mp hq
    exact He.valsB_ok hv hp
  · rw [hk]
    rw [List.map_map] at hz
    exact hz
def tabGet (kvs : List (Str × V)) (z : Str) : Option V := (kvs.find? fun q => decide (q.1 = z)).map (·.2)
section
variable {X : Cx} {a : Addr} {kvs : List (Str × V)}
theorem ktab_get {K : PySem.W.Frag} {w : World} (T : KTab K w a kvs) (z : Str) : (∃ v u, tabGet kvs z = some v ∧ PySem.W.nsIn K a z = some (some u) ∧ RelV v u) ∨ (tabGet kvs z = none ∧ PySem.W.nsIn K a z = some none) := by
  unfold tabGet
  cases e : kvs.find? fun q => decide (q.1 = z) with
  | none =>
    refine .inr ⟨rfl, T.miss z fun hz => ?_⟩
    obtain ⟨q, hq, rfl⟩ := List.mem_map.mp hz
    have := List.find?_eq_none.mp e q hq
    simp at this
  | some q =>
    have h1 : q.1 = z := by simpa using List.find?_some e
    obtain ⟨u, h2, h3⟩ := T.hit q (List.mem_of_find?_eq_some e)
    rw [h1] at h2
    exact .inl ⟨q.2, u, rfl, h2, h3⟩
/-- z in TABLE -/
theorem op_in_tab (T : KTab X.K X.w a kvs) : OpR X (compareOp .In) (fun x y H Q => ∃ z : Str, x = .str z ∧ y = .ref a ∧ Q (.bl (tabGet kvs z).isSome) H) := by
  obtain ⟨es, n, D⟩ := T.dict
  intro pins s σ H x y v u Q I rx ry h
  obtain ⟨z, rfl, rfl, q⟩ := h
  rcases ktab_get T z with ⟨v0, u0, e1, e2, _⟩ | ⟨e1, e2⟩
  · rw [e1] at q
    exact op_in_kd D pins s σ H _ _ v u Q I rx ry ⟨z, _, rfl, rfl, e2, q⟩
  · rw [e1] at q
    exact op_in_kd D pins s σ H _ _ v u Q I rx ry ⟨z, _, rfl, rfl, e2, q⟩
theorem op_notIn_tab (T : KTab X.K X.w a kvs) : OpR X (compareOp .NotIn) (fun x y H Q => ∃ z : Str, x = .str z ∧ y = .ref a ∧ Q (.bl (!(tabGet kvs z).isSome)) H) := by
  obtain ⟨es, n, D⟩ := T.dict
  intro pins s σ H x y v u Q I rx ry h
  obtain ⟨z, rfl, rfl, q⟩ := h
  rcases ktab_get T z with ⟨v0, u0, e1, e2, _⟩ | ⟨e1, e2⟩
  · rw [e1] at q
    exact op_notIn_kd D pins s σ H _ _ v u Q I rx ry ⟨z, _, rfl, rfl, e2, q⟩
  · rw [e1] at q
    exact op_notIn_kd D pins s σ H _ _ v u Q I rx ry ⟨z, _, rfl, rfl, e2, q⟩
/-- TABLE[z] -/
theorem ix_tab (T : KTab X.K X.w a kvs) : IxR X (fun x y H Q => ∃ (z : Str) (v : V), x = .ref a ∧ y = .str z ∧ tabGet kvs z = some v ∧ Q v H) := by
  intro value slice pins s σ H x y v u Q I rx ry h hs
  obtain ⟨z, v1, rfl, rfl, e, q⟩ := h
  obtain ⟨es, n, D⟩ := T.dict
  rcases ktab_get T z with ⟨v0, u0, e1, e2, e3⟩ | ⟨e1, e2⟩
  · rw [e] at e1
    cases e1
    exact ix_kdict value slice pins s σ H _ _ v u Q I rx ry ⟨a, z, v1, rfl, rfl, ⟨es, n, u0, D.at_, D.lit, e2, e3⟩, q⟩ hs
  · rw [e] at e1
    cases e1
end

/-! ### a written tuple of plain things -/
def tupB (K : PySem.W.Frag) (x : Str) (ds : List He.Dv) : Bool := match K.lookup (He.ga K x) with
  | some ⟨.type "tuple", _, .seq its _, _⟩ => He.relAll (ds.map (He.Dv.v K)) its.toList && decide (its.size ≤ 1000)
  | _ => false
theorem tupB_ok {K : PySem.W.Frag} {x : Str} {ds : List He.Dv} (h : tupB K x ds = true) (H : Hp) : SqT K H (He.ga K x) (ds.map (He.Dv.v K)) := by
  unfold tupB at h
  split at h
  · rename_i od its n sl q
    obtain ⟨h1, h2⟩ := He.ba h
    exact .inr ⟨_, its, n, q, rfl, rfl, Nat.le_trans (of_decide_eq_true h2) (by decide), He.relAll_ok h1⟩
  · cases h
end HG

set_option maxHeartbeats 4000000
/-! HX: more rules: x is True of any value, text * int, {None: .., True: .., False: ..}[x], len(set(texts)). -/
namespace HG
open PySem PySem.Spec PyProof.Rows L2
section
variable {X : Cx}
/-- x is True, x is False -/
theorem op_isTF : OpR X (compareOp .Is) (fun x y H Q => ∃ b : Bool, y = .bl b ∧ Q (.bl (decide (x = .bl b))) H) := by
  intro pins s σ H x y v u Q I rx ry h
  obtain ⟨b, rfl, q⟩ := h
  cases (show u = Value.bool b from ry)
  by_cases e : x = .bl b
  · subst e
    cases (show v = Value.bool b from rx)
    exact wpAny_is_self rfl ⟨.bl true, H, I, rfl, by simpa using q⟩
  · have q' : Q (.bl false) H := by simpa [e] using q
    cases x with
    | non => cases rx; exact wpAny_is_other rfl (fun z => nomatch z) ⟨.bl false, H, I, rfl, q'⟩
    | bl a => cases rx; exact wpAny_is_other rfl (fun z => e (congrArg V.bl (Value.bool.inj z))) ⟨.bl false, H, I, rfl, q'⟩
    | int i => obtain ⟨t, rfl⟩ := rx; exact wpAny_is_other rfl (fun z => nomatch z) ⟨.bl false, H, I, rfl, q'⟩
    | str i => obtain ⟨t, rfl⟩ := rx; exact wpAny_is_other rfl (fun z => nomatch z) ⟨.bl false, H, I, rfl, q'⟩
    | byt i => obtain ⟨t, rfl⟩ := rx; exact wpAny_is_other rfl (fun z => nomatch z) ⟨.bl false, H, I, rfl, q'⟩
    | flt i => obtain ⟨t, rfl⟩ := rx; exact wpAny_is_other rfl (fun z => nomatch z) ⟨.bl false, H, I, rfl, q'⟩
    | ref i => cases rx; exact wpAny_is_other rfl (fun z => nomatch z) ⟨.bl false, H, I, rfl, q'⟩
    | ty i => cases rx; exact wpAny_is_other rfl (fun z => nomatch z) ⟨.bl false, H, I, rfl, q'⟩
/-- text * int -/
theorem op_mul_str : OpR X (binaryOp .Mult) (fun x y H Q => ∃ (z : Str) (n : Int), x = .str z ∧ y = .int n ∧ MulOk z n ∧ Q (.str (Txt.mul z n)) H) := by
  intro pins s σ H x y v u Q I rx ry h
  obtain ⟨z, n, rfl, rfl, ok, q⟩ := h
  obtain ⟨t, rfl⟩ := rx
  obtain ⟨t', rfl⟩ := ry
  exact SB.mul ok fun t' k => ⟨.str _, H, I.tok _, ⟨_, rfl⟩, q⟩
end
theorem mulOk_of {z : Str} {n : Int} (h0 : 0 ≤ n) (h : z.length * n.toNat ≤ 1000000) (hn : n < 2 ^ 40) (hz : z.length ≤ 1000000) : MulOk z n := by
  refine ⟨?_, fun h1 _ h2 => ?_, fun h1 _ => ?_⟩
  · rw [decide_eq_false (by omega), decide_eq_false (by omega)]
    rfl
  · have h3 : (1000000 : Int) ≤ (2 ^ 63 - 1) / n := by
      refine (Int.le_ediv_iff_mul_le (by omega)).mpr ?_
      omega
    omega
  · show decide (_ > _) = false
    refine decide_eq_false ?_
    rw [show (sizeLine : Nat) = 16777216 from sizeLine_eq]
    omega

theorem call_reprK {X : Cx} {K : PySem.W.Frag} (hK : X.K = K) (hgd : X.A.guards = some []) (hr : Room 0 X.A) : CallR X (.builtin "repr") (rRepr K) := by
  subst hK
  exact call_repr hgd hr
/-! ### keywords alone -/
theorem kbn0 {K : PySem.W.Frag} {x qual : Str} {params : Arguments} {body : List Stmt} {scope : Scope} {kws : List (Str × V)} {f : Addr} {fd : FuncData} {ks ps : List Str} {g : List Value → List Value} {gV : List V → List V}
    (F : FunD K x qual params body scope [] kws f fd)
    (h : ∀ (kV doc pm : Value) (an : Option Addr) (cdv ct : Value) (ws : List Value), ws.length = ks.length → bindArgs (PySem.W.fnOf x qual params body scope .none kV doc pm an cdv ct) ⟨[], ks.zip ws⟩ = pure (ps.zip (g ws)))
    (rel : ∀ {zs : List V} {ws : List Value}, Vals zs ws → Vals (gV zs) (g ws)) : KBn K fd ps 0 ks (fun _ ws => g ws) (fun _ zs => gV zs) := by
  obtain ⟨oc, od, dV, kV, doc, pm, an, cdv, ct, osl, rfl, lk, hcd, hD, hK⟩ := F.ex
  rcases hD with ⟨_, rfl⟩ | ⟨e, _⟩
  · refine ⟨fun s us ws _ hu hw => ?_, fun _ r => rel r⟩
    obtain rfl : us = [] := List.length_eq_zero_iff.mp hu
    exact .of_eq (h kV doc pm an cdv ct ws hw)
  · exact absurd rfl e

/-! ### objects made by a class of the top -/
structure MkC (P : Program) (w : World) (K : PySem.W.Frag) (mg : Str → Option Value) (base : Heap) (x : Str) (k : Nat) (sp : Sp) : Prop where
  ex : ∃ (f : Addr) (fd : FuncData) (ps : List Str), Mk K (He.ga K x) f ∧ FnOk P w K mg base CX0 k f fd ps sp ∧ Binds K fd ps []
  gl : mg x = some (.ref (He.ga K x))
theorem pe_mk {X : Cx} {k : Nat} {x : Str} {sp : Sp} {p pos : Pos} {e : Expr} {es : List Expr} {t : TA} (C : MkC X.prog X.w X.K X.mg X.base x k sp) (hr : Room (k + 1) X.A) (hg : Gl X x) (ha : PA X (e :: es) t)
    (hdb : (x == ("__debug__" : Str)) = false := by decide)
    (he : starEach (e :: es) X.env = (false, eval e X.env) :: starEach es X.env := by rfl)
    (hpl : (backTo pos (starEach es X.env)).any (·.1) = false := by rfl) : PE X (.Call (.Name x p) (e :: es) [] pos) (tMake (He.ga X.K x) sp [] E0 t) := by
  obtain ⟨f, fd, ps, M, F, b⟩ := C.ex
  exact pe_make M F hr hg C.gl b .nil pass0 ha hdb he hpl

/-! ### None and bools as keys -/
def nbV : Option Bool → V
  | none => .non
  | some b => .bl b
def nbIs : Option Bool → Value → Bool
  | none, .none => true
  | none, _ => false
  | some k, v => PpSet.isB k v
theorem nb_none {v : Value} (h : nbIs none v = true) : v = .none := by
  cases v with
  | none => rfl
  | _ => exact nomatch (show false = true from h)
def nbU : Option Bool → Value
  | none => .none
  | some b => .bool b
theorem nb_shape {k : Option Bool} {v : Value} (h : nbIs k v = true) : v = nbU k := by
  cases k with
  | none => exact nb_none h
  | some b => exact PpSet.isB_shape h
theorem nb_of {k : Option Bool} {v : Value} (h : RelV (nbV k) v) : nbIs k v = true := by
  cases k with
  | none => cases (show v = Value.none from h); rfl
  | some b => cases (show v = Value.bool b from h); exact beq_self_eq_true b
def nbKind (prog : Program) (w : World) : PySem.KeyKind prog w (Option Bool) where
  is := nbIs
  hash := fun k => match k with
    | none => reduceHash 0xFCA86420
    | some k => PpSet.hB k
  inj := fun v a b ha hb => by
    have e1 := nb_shape ha
    have e2 := nb_shape hb
    rw [e1] at e2
    cases a with
    | none => cases b with
      | none => rfl
      | some _ => cases e2
    | some x => cases b with
      | none => cases e2
      | some y => exact congrArg some (Value.bool.inj e2)
  byValue := fun k v h => by
    rw [nb_shape h]
    cases k <;> rfl
  pyHash := @fun A E s k v Q hv h => by
    cases k with
    | none =>
      have e := nb_none hv
      subst e
      exact PySem.W.pyHash_slot (T := "NoneType") rfl PySem.F.slot_NoneType_hash PySem.F.entry_NoneType_hash (PySem.F.args_NoneType_hash_1 _) (beq_builtin_none _) (.inl rfl) (wpAny_bind (wpAny_pure (wpAny_bind (wpAny_mkInt (wpAny_pure ⟨_, _, rfl, h⟩)))))
    | some k => exact (PpSet.boolK prog w).pyHash (k := k) hv h
  eqBool := @fun A E s a b u v Q hu hv h => by
    have e1 := nb_shape hu
    have e2 := nb_shape hv
    subst e1 e2
    cases a with
    | none =>
      cases b with
      | none =>
        rw [decide_eq_true rfl] at h
        exact SeqAt.EqAt.same _ _ _ _ _ h
      | some k =>
        rw [decide_eq_false (fun z => nomatch z)] at h
        exact SeqAt.EqAt.none_bool k _ _ _ _ h
    | some k =>
      cases b with
      | none =>
        rw [decide_eq_false (fun z => nomatch z)] at h
        exact SeqAt.EqAt.bool_none k _ _ _ _ h
      | some j =>
        have e : decide ((some k : Option Bool) = some j) = (k == j) := by cases k <;> cases j <;> rfl
        rw [e] at h
        exact SeqAt.EqAt.bool_bool k j _ _ _ _ h
  «strs» := fun k x t v h => by
    cases k with
    | none => exact nomatch (show false = true from h)
    | some k => exact absurd h Bool.false_ne_true
abbrev NB (P : Program) (w : World) (a : Addr) (vs : List (Option Bool × Value)) : HO := .ext fun h => h.DictOf (nbKind P w) a vs
theorem nb_new {P : Program} {w : World} {H : Hp} {h : Heap} {a : Addr} {vs : List (Option Bool × Value)} (R : h.DictOf (nbKind P w) a vs) : ObjOk P w H h a (NB P w a vs) := by
  refine ⟨R, ?_, fun h1 h2 p k => ?_⟩
  · obtain ⟨o, _, _, ho, _⟩ := R
    exact ⟨o, ho⟩
  · obtain ⟨o, es, ep, ho, r⟩ := p
    exact ⟨o, es, ep, k o ho, r⟩
/-- {None: 'x', True: 'y', False: 'z'}[e] -/
def tNb3 (x y z : Str) (te : TE) : TE := fun σ H Q => ∀ (p : Addr) (o : HO), H p = none → te σ (upd H p o) fun v H2 => H2 p = some o ∧ ∃ k : Option Bool, v = nbV k ∧ Q (.str (match k with | none => x | some true => y | some false => z)) H2
section
variable {X : Cx}
theorem pe_nb3 {x y z : Str} {e : Expr} {te : TE} {p1 p2 p3 p4 p5 p6 p7 pos : Pos} {k4 k5 k6 k7 k8 k9 : Nat} (he : PE X e te) (hs : NoSl e) :
    PE X (.Subscript (.Dict [some (.Constant .none k4 p1), some (.Constant (.bool true) k5 p2), some (.Constant (.bool false) k6 p3)] [.Constant (.str x) k7 p4, .Constant (.str y) k8 p5, .Constant (.str z) k9 p6] p7) e pos) (tNb3 x y z te) := by
  refine ⟨fun pins s σ H Q I h => ?_⟩
  refine subD_of PySem.F.slot_dict_getitem.lookup hs ?_
  have hn := I.hok.fresh (Nat.le_refl s.heap.objs.size)
  have I1 := I.laid (a := s.heap.objs.size) (o := NB X.prog X.w s.heap.objs.size []) (h' := s.heap.push { cls := .type "dict", data := .dict #[] }) (t' := s.toks) (fun _ _ q => Heap.get?_push_of_some _ q) (Nat.le_refl _) (nb_new (Heap.DictOf.new _))
  have PP : PPs X p7 [some (.Constant .none k4 p1), some (.Constant (.bool true) k5 p2), some (.Constant (.bool false) k6 p3)] [.Constant (.str x) k7 p4, .Constant (.str y) k8 p5, .Constant (.str z) k9 p6]
      [(tC .non, tC (.str x)), (tC (.bl true), tC (.str y)), (tC (.bl false), tC (.str z))] := pps_cons pe_non pe_str (pps_cons pe_bl pe_str (pps_cons pe_bl pe_str pps_nil))
  refine wpAny_Dict_walk (knd := nbKind X.prog X.w) rfl rfl (fun z => nomatch z) (show 3 ≤ 15 by decide) ?_
  refine thn (PP.run pins _ σ _ (fun ps H2 => ps = [(.non, .str x), (.bl true, .str y), (.bl false, .str z)] ∧ H2 = upd H s.heap.objs.size (NB X.prog X.w s.heap.objs.size [])) I1 ⟨rfl, rfl⟩) ?_
  rintro ws s2 ⟨ps, H2, I2, rel, rfl, rfl⟩
  cases rel with
  | @cons _ a1 _ _ r1 rel =>
  cases rel with
  | @cons _ a2 _ _ r2 rel =>
  cases rel with
  | @cons _ a3 _ _ r3 rel =>
  cases rel
  obtain ⟨c1, d1⟩ := a1
  obtain ⟨c2, d2⟩ := a2
  obtain ⟨c3, d3⟩ := a3
  have dd := (I2.hok _ _ upd_same).1
  refine ⟨[(none, d1), (some true, d2), (some false, d3)], ⟨nb_of (k := none) r1.1, rfl, nb_of (k := some true) r2.1, rfl, nb_of (k := some false) r3.1, rfl, trivial⟩, dd, fun h' dd' hsb => ?_⟩
  have em : merged [] [((none : Option Bool), d1), (some true, d2), (some false, d3)] = [(none, d1), (some true, d2), (some false, d3)] := rfl
  rw [em] at dd'
  have he' : ∃ q, h'.get? s.heap.objs.size = some q := let ⟨q, _, _, hq, _⟩ := dd'; ⟨q, hq⟩
  have I3 := d_write (t' := s2.toks + 3) (ob := NB X.prog X.w s.heap.objs.size [(none, d1), (some true, d2), (some false, d3)]) I2 (by rw [upd_same]; exact True.intro) hsb he' (nb_new dd')
  have eu : upd (upd H s.heap.objs.size (NB X.prog X.w s.heap.objs.size [])) s.heap.objs.size (NB X.prog X.w s.heap.objs.size [(none, d1), (some true, d2), (some false, d3)]) = upd H s.heap.objs.size (NB X.prog X.w s.heap.objs.size [(none, d1), (some true, d2), (some false, d3)]) := by
    funext b
    by_cases e : b = s.heap.objs.size
    · subst e; rw [upd_same, upd_same]
    · rw [upd_ne e, upd_ne e, upd_ne e]
  rw [eu] at I3
  refine thn (he.run pins _ σ _ _ I3 (h _ _ hn)) ?_
  rintro iv s3 ⟨v, H3, I4, rv, h3, k, rfl, q⟩
  have D3 : s3.heap.DictOf (nbKind X.prog X.w) s.heap.objs.size [(none, d1), (some true, d2), (some false, d3)] := (I4.hok _ _ h3).1
  refine ⟨D3.mapOf.typeIs, ?_⟩
  cases k with
  | none => exact wpAny_getItem_of (k := none) (nb_of rv) D3.mapOf rfl ⟨.str x, H3, I4.tok _, r1.2, q⟩
  | some b =>
    cases b with
    | true => exact wpAny_getItem_of (k := some true) (nb_of rv) D3.mapOf rfl ⟨.str y, H3, I4.tok _, r2.2, q⟩
    | false => exact wpAny_getItem_of (k := some false) (nb_of rv) D3.mapOf rfl ⟨.str z, H3, I4.tok _, r3.2, q⟩
end
end HG

set_option maxHeartbeats 4000000
/-! HA: texts of signs below 128, and what repr shows of data. -/
namespace HG
open PySem PySem.Spec PyProof.Rows L2
open TL (numL tl_num numL_digits numL_ne numL_inj numL_val numL_len)
def asc (z : Str) : Prop := ∀ c ∈ cp z, c < 128
theorem asc_app {a b : Str} (ha : asc a) (hb : asc b) : asc (a ++ b) := fun c hc => by
  rw [cp_app] at hc
  exact (List.mem_append.mp hc).elim (ha c) (hb c)
theorem asc_ok {z : Str} (h : asc z) : PyData.strOk z = true := by
  unfold PyData.strOk
  rw [← Array.all_toList]
  refine List.all_eq_true.mpr fun c hc => ?_
  have := h c hc
  exact decide_eq_true (by omega)
theorem asc_repr {z : Str} (h : asc z) : asc (reprText z) := by
  have hq : reprQuote z = 39 ∨ reprQuote z = 34 := by
    unfold reprQuote
    split
    · exact .inr rfl
    · exact .inl rfl
  have sm : ∀ q, q = 39 ∨ q = 34 → ∀ c, c < 128 → ∀ d ∈ Builtin.Str.reprChar q c, d < 128 := by
    have h1 : ∀ c : Nat, c < 128 → ∀ d ∈ Builtin.Str.reprChar 39 c, d < 128 := by decide +kernel
    have h2 : ∀ c : Nat, c < 128 → ∀ d ∈ Builtin.Str.reprChar 34 c, d < 128 := by decide +kernel
    rintro q (rfl | rfl)
    · exact h1
    · exact h2
  have key : ∀ (l : List Nat) (acc : Array Nat), (∀ c ∈ l, c < 128) → (∀ d ∈ acc.toList, d < 128) → ∀ d ∈ (l.foldl (fun out c => out ++ (Builtin.Str.reprChar (reprQuote z) c).toArray) acc).toList, d < 128 := by
    intro l
    induction l with
    | nil => intro acc _ ha; exact ha
    | cons c r ih =>
      intro acc hl ha
      rw [List.foldl_cons]
      refine ih _ (fun x hx => hl x (List.mem_cons_of_mem _ hx)) fun d hd => ?_
      rw [Array.toList_append] at hd
      rcases List.mem_append.mp hd with z | z
      · exact ha d z
      · exact sm _ hq c (hl c List.mem_cons_self) d z
  intro d hd
  unfold cp reprText at hd
  rw [Array.toList_push, ← Array.foldl_toList] at hd
  have q128 : reprQuote z < 128 := by rcases hq with e | e <;> rw [e] <;> decide
  rcases List.mem_append.mp hd with y | y
  · refine key _ _ h (fun x hx => ?_) d y
    have : x = reprQuote z := by simpa using hx
    rw [this]
    exact q128
  · rw [List.mem_singleton.mp y]
    exact q128
theorem asc_join : ∀ {l : List Str}, (∀ z ∈ l, asc z) → asc (Str.join ", " l)
  | [], _ => fun c hc => nomatch hc
  | [x], h => h x List.mem_cons_self
  | x :: y :: r, h => by
    show asc (x ++ ", " ++ Str.join ", " (y :: r))
    exact asc_app (asc_app (h x List.mem_cons_self) (by unfold asc; decide +kernel)) (asc_join fun z hz => h z (List.mem_cons_of_mem _ hz))
theorem asc_from : ∀ {l : List Str} (k : Nat) (acc : Str), asc acc → (∀ z ∈ l, asc z) → asc (textFrom k acc l)
  | [], _, _, h, _ => h
  | t :: ts, k, acc, h, hl => by
    show asc (textFrom (k + 1) (acc ++ (if k > 0 then ", " else "" : String) ++ t) ts)
    refine asc_from (k + 1) _ (asc_app (asc_app h ?_) (hl t List.mem_cons_self)) fun z hz => hl z (List.mem_cons_of_mem _ hz)
    split
    · unfold asc; decide +kernel
    · unfold asc; decide +kernel
theorem asc_list {l : List Str} (h : ∀ z ∈ l, asc z) : asc (listText l) := asc_app (asc_from 0 _ (by unfold asc; decide +kernel) h) (by unfold asc; decide +kernel)
theorem asc_tuple {l : List Str} (h : ∀ z ∈ l, asc z) : asc (tupleText l) := by
  refine asc_app (asc_app (by unfold asc; decide +kernel) (asc_join h)) ?_
  split
  · unfold asc; decide +kernel
  · unfold asc; decide +kernel
theorem asc_nat (n : Nat) : asc (Str.ofString (toString ((n : Nat) : Int))) := fun c hc => by
  have e : cp (Str.ofString (toString ((n : Nat) : Int))) = numL n := tl_num n
  rw [e] at hc
  have := numL_digits n c hc
  omega
theorem asc_int (i : Int) : asc (Str.ofString (toString i)) := by
  by_cases h : i < 0
  · rw [toString_neg h]
    obtain ⟨n, hn⟩ := Int.eq_ofNat_of_zero_le (show 0 ≤ 0 - i by omega)
    rw [hn]
    have e2 : cp (Str.ofString ("-" ++ toString ((n : Nat) : Int))) = 45 :: cp (Str.ofString (toString ((n : Nat) : Int))) := by
      unfold cp
      rw [Str.ofString_eq_toList, Str.ofString_eq_toList, String.toList_append, List.map_append]
      rfl
    intro c hc
    rw [e2] at hc
    rcases List.mem_cons.mp hc with rfl | hc
    · decide
    · exact asc_nat n c hc
  · obtain ⟨n, rfl⟩ := Int.eq_ofNat_of_zero_le (Int.not_lt.mp h)
    exact asc_nat n
theorem asc_all : ∀ {ds : List PyData}, (∀ d ∈ ds, asc d.shown) → ∀ z ∈ PyData.shownAll ds, asc z
  | [], _, z, hz => by simp only [PyData.shownAll] at hz; exact nomatch hz
  | d :: ds, h, z, hz => by
    simp only [PyData.shownAll] at hz
    rcases List.mem_cons.mp hz with rfl | hz
    · exact h d List.mem_cons_self
    · exact asc_all (fun e he => h e (List.mem_cons_of_mem _ he)) z hz
end HG

set_option maxHeartbeats 4000000
/-! HE: own errors over ValueError whose __init__ says super().__init__('..') and then self.f = f, ..: made as values. -/
namespace PySem.ErrX
open PySem PySem.W PySem.Calls PyProof.Rows PySem.HandSPX

/-- super().__init__('..') -/
abbrev supS (msg : Str) (p0 p1 p2 p3 p4 p5 : Pos) (k : Nat) : Stmt := .Expr (.Call (.Attribute (.Call (.Name "super" p0) [] [] p1) "__init__" p2) [.Constant (.str msg) k p3] [] p4) p5
/-- self.f = f -/
structure SetP where
  f : Str
  q1 : Pos
  q2 : Pos
  q3 : Pos
  q4 : Pos
abbrev setS (z : SetP) : Stmt := .Assign [.Attribute (.Name "self" z.q1) z.f z.q2] (.Name z.f z.q3) z.q4

/-- what the written part says of such a class, at C, and of its __init__, at fI -/
structure ErrT (prog : Program) (K : Frag) (C fI : Addr) (q : Str) (args : Arguments) (body : List Stmt) (scope : Scope) (fs : List Str) : Prop where
  cls : ∃ nm q N bs bm sn sub ab col dd k0 k1 k2 k3 k5, K.lookup C = some (excClassObj nm q C N bs bm true sn sub ab col dd k0 k1 k2 k3 k5 "ValueError.__new__") ∧ refsVE bm = true
  exi : excInitIn K C veTail "ValueError.__new__" = true
  sa : findIn K (.ref C) "__setattr__" = some (some (.builtin "object.__setattr__"))
  sup : ks_superIn K C C "__init__" = some (some (.builtin "ValueError.__init__"))
  sve : subIn K (.ref C) (.type "ValueError") = some true
  slf : mroIn K C (.ref C) = some true
  opq : nsIn K cStatics "thirdparty.any" = some none
  init : findIn K (.ref C) "__init__" = some (some (.ref fI))
  tyI : typeIn K (.ref fI) = some (.type "function")
  no : ∀ f ∈ fs, findIn K (.ref C) f = some none
  kC : keepIn K (.ref C) = true
  fn : ∃ (oc : Value) (od : Option Addr) (osl : Array (Option Value)) (doc pm ct : Value) (an : Option Addr) (cda cc : Addr) (ccl cl : Value) (cdd cld : Option Addr) (ccs csl : Array (Option Value)) (vs : Array Value) (file : Str) (tf : Tok),
    K.lookup fI = some ⟨oc, od, .func (ksFn "__init__" q args body scope .none .none doc pm an (.ref cda) ct cc), osl⟩ ∧
    codeIn K (.ref cda) q = true ∧ K.lookup cda = some ⟨ccl, cdd, .fields vs, ccs⟩ ∧ vs[2]? = some (.str file tf) ∧ ((prog.main.file : Str) == file) = true ∧ K.lookup cc = some ⟨cl, cld, .cell (some (.ref C)), csl⟩
  shape : ∃ (msg : Str) (p0 p1 p2 p3 p4 p5 : Pos) (k : Nat) (zs : List SetP), body = supS msg p0 p1 p2 p3 p4 p5 k :: zs.map setS ∧ zs.map SetP.f = fs ∧
    ∃ pl : Sem Bool, ∀ (L a cc : Addr) (cda : Value), eval (.Call (.Attribute (.Call (.Name "super" p0) [] [] p1) "__init__" p2) [.Constant (.str msg) k p3] [] p4) (ksEnv q scope L a cda cc) = (do
      let ov ← attributeBase (.Call (.Name "super" p0) [] [] p1) "__init__" (ksEnv q scope L a cda cc) (eval (.Call (.Name "super" p0) [] [] p1) (ksEnv q scope L a cda cc))
      standAt p2.atName
      let (f, first) ← holding [ov] (getMethod ov "__init__" pl)
      callWith p4 f first (backTo p4 (starEach [.Constant (.str msg) k p3] (ksEnv q scope L a cda cc))) [])
  ar : ∃ ar : Arg, (args.posonlyargs ++ args.args).head? = some ar ∧ ar.arg = "self"
  scK : scope.kind = .function
  scC : scope.isCoroutine = false
  scG : scope.isGenerator = false
  scS : scope.names.lookup ("super" : Str) = some .globalImplicit
  scL : scope.names.lookup ("__class__" : Str) = some .free
  scN : ∀ x ∈ scope.names, x.2 ≠ .cell
  scV : ∀ x ∈ ("self" : Str) :: fs, scope.names.lookup x = some .local
  nd : ((("self" : Str) :: fs)).Nodup ∧ (∀ x ∈ fs, (x == ("__debug__" : Str)) = false) ∧ fs.length ≤ 100
  top : (prog.main.scope.names.lookup ("super" : Str)).isSome = false

/-- an error at e that has the fields done (the last one first) -/
def ErrAt (hp : Heap) (L : Addr) (h : Heap) (e C : Addr) (done : List (Str × Value)) : Prop :=
  (done = [] ∧ ∃ t1, h.get? e = some (excObj C t1 none .none)) ∨
  (done ≠ [] ∧ ∃ t1 dx, h.get? e = some (excObj C t1 (some dx) .none) ∧ h.Ns1 dx (fun y => done.lookup y) ∧ dx ≠ L ∧ dx ≠ e ∧ hp.get? dx = none)

section
variable {prog : Program} {w : World} {A : Around} {E : Value → Shared → Prop} {K : Frag} {C fI e L : Addr} {hp : Heap} {m : Str → Option Value} {g : Array GenState} {d : Drawn} {os : OsState}
theorem K_in (X : K.In hp) {h : Heap} (F : Fr hp L h m) : K.In h := X.keeps F.keep

theorem within_lookup (done : List (Str × Value)) : Within (fun y => done.lookup y) (done.map (·.1)) := by
  intro y h
  have : ∀ l : List (Str × Value), l.lookup y ≠ none → y ∈ l.map (·.1) := by
    intro l
    induction l with
    | nil => intro h; exact absurd rfl h
    | cons p l ih =>
      intro h
      obtain ⟨a, b⟩ := p
      rw [List.lookup_cons] at h
      cases e : (y == a) with
      | true => rw [beq_iff_eq.mp e]; exact List.mem_cons_self
      | false => rw [e] at h; exact List.mem_cons_of_mem _ (ih h)
  exact this done h
theorem lookup_put (done : List (Str × Value)) (f : Str) (v : Value) : (fun y => if y = f then some v else done.lookup y) = fun y => ((f, v) :: done).lookup y := by
  funext y
  rw [List.lookup_cons]
  by_cases h : y = f
  · rw [if_pos h, beq_iff_eq.mpr h]
  · rw [if_neg h, beq_eq_false_iff_ne.mpr h]
/-- self.f = v -/
theorem set_field {f : Str} {v : Value} {done : List (Str × Value)} {h : Heap} {t : Nat} {Q : Unit → Shared → Prop} (X : K.In hp) (F : Fr hp L h m)
    (cls : ∃ nm q N bs bm sn sub ab col dd k0 k1 k2 k3 k5, K.lookup C = some (excClassObj nm q C N bs bm true sn sub ab col dd k0 k1 k2 k3 k5 "ValueError.__new__") ∧ refsVE bm = true)
    (sa : findIn K (.ref C) "__setattr__" = some (some (.builtin "object.__setattr__"))) (no : findIn K (.ref C) f = some none)
    (he : hp.get? e = none) (eL : e ≠ L) (hl : done.length ≤ 900) (at_ : ErrAt hp L h e C done)
    (hq : ∀ h' tk, Fr hp L h' m → ErrAt hp L h' e C ((f, v) :: done) → Q () ⟨h', g, d, tk, os⟩) :
    wpAny (model prog w) A (setAttr (.ref e) f v) Q E ⟨h, g, d, t, os⟩ := by
  obtain ⟨nm, q, N, bs, bm, sn, sub, ab, col, dd, k0, k1, k2, k3, k5, hC, hbm⟩ := cls
  have Xh : K.In h := X.keeps F.keep
  have hcl : clsIn K C = some { name := nm, bases := bs, mro := .ref C :: bm, ns := N, qualname := q, hasDict := true, slotNames := sn, subclasses := sub, abstract := ab, collection := col, hasDel := false } := by unfold clsIn; rw [hC] <;> rfl
  obtain ⟨oL, es, ep, hL, hr⟩ := F.ns
  have lL : L < h.objs.size := Heap.lt_size hL
  have lP : hp.objs.size ≤ h.objs.size := Nat.le_trans F.above (Nat.le_of_lt lL)
  rcases at_ with ⟨rfl, t1, ho⟩ | ⟨hne, t1, dx, ho, hns, hdL, hde, hdp⟩
  · refine set_plain Xh (ox := excObj C t1 none .none) (od := none) ⟨ho, rfl, rfl, trivial⟩ sa ?_
    refine exc_osa Xh ho hcl (show refsVE (.ref C :: bm) = true from hbm) rfl no (fun h' tk' dx k dn dne hx hn => ?_)
    refine hq h' tk' ⟨⟨oL, es, ep, k _ _ eL.symm hL, hr⟩, fun b o z => k b o (fun y => by rw [y, he] at z; cases z) (F.keep b o z), F.above⟩ (.inr ⟨(fun z => nomatch z), t1, dx, hx, ?_, ?_, dne, ?_⟩)
    · rw [← lookup_put]
      exact hn
    · exact Nat.ne_of_gt (Nat.lt_of_lt_of_le lL dn)
    · cases z : hp.get? dx with
      | none => rfl
      | some o => exact absurd (Heap.lt_size z) (Nat.not_lt.mpr (Nat.le_trans lP dn))
  · have hw := within_lookup done
    obtain ⟨oD, _, _, hoD, _, _⟩ := hns.count hw
    refine set_plain Xh (ox := excObj C t1 (some dx) .none) (od := some oD) ⟨ho, rfl, rfl, hoD⟩ sa ?_
    refine OEX.osa_old Xh ho hns hw (by rw [List.length_map]; omega) hcl (show refsVE (.ref C :: bm) = true from hbm) rfl no (fun h' tk' k hn => ?_)
    refine hq h' tk' ⟨⟨oL, es, ep, k _ _ hdL.symm hL, hr⟩, fun b o z => k b o (fun y => by rw [y, hdp] at z; cases z) (F.keep b o z), F.above⟩ (.inr ⟨(fun z => nomatch z), t1, dx, k _ _ hde.symm ho, ?_, hdL, hde, hdp⟩)
    rw [← lookup_put]
    exact hn
/-- the fields, one by one -/
theorem set_fields {q : Str} {scope : Scope} {a cc : Addr} {cda : Value} (X : K.In hp)
    (cls : ∃ nm q N bs bm sn sub ab col dd k0 k1 k2 k3 k5, K.lookup C = some (excClassObj nm q C N bs bm true sn sub ab col dd k0 k1 k2 k3 k5 "ValueError.__new__") ∧ refsVE bm = true)
    (sa : findIn K (.ref C) "__setattr__" = some (some (.builtin "object.__setattr__"))) (he : hp.get? e = none) (eL : e ≠ L) (hk : scope.kind = .function)
    (hs : scope.names.lookup ("self" : Str) = some .local) (hm : m ("self" : Str) = some (.ref e)) :
    ∀ (zs : List SetP) (us : List Value) (done : List (Str × Value)) (h : Heap) (t : Nat) (Q : Flow → Shared → Prop), Fr hp L h m → ErrAt hp L h e C done → us.length = zs.length → done.length + zs.length ≤ 900 →
      (∀ z ∈ zs, findIn K (.ref C) z.f = some none) → (∀ z ∈ zs, scope.names.lookup z.f = some .local) → (∀ z ∈ zs, (z.f == ("__debug__" : Str)) = false) → (∀ p ∈ (zs.map SetP.f).zip us, m p.1 = some p.2) →
      (∀ h' tk, Fr hp L h' m → ErrAt hp L h' e C (((zs.map SetP.f).zip us).reverse ++ done) → Q .next ⟨h', g, d, tk, os⟩) →
      wpAny (model prog w) A (execs (zs.map setS) (ksEnv q scope L a cda cc)) Q E ⟨h, g, d, t, os⟩
  | [], [], done, h, t, Q, F, at_, _, _, _, _, _, _, hq => wpAny_execs_nil (hq h t F at_)
  | z :: zs, u :: us, done, h, t, Q, F, at_, hl, hn, no, nl, nd, mv, hq => by
    rw [List.map_cons]
    refine wpAny_execs_cons (plainObj_wpAny_Assign_Attribute (wpAny_Name (wpAny_loadName_local hk (nl z List.mem_cons_self) F.ns (mv (z.f, u) List.mem_cons_self) (wpAny_Name (wpAny_loadName_local hk hs F.ns hm ?_) (by decide))) (nd z List.mem_cons_self)) rfl)
    rw [List.length_cons] at hn
    refine set_field X F cls sa (no z List.mem_cons_self) he eL (by omega) at_ fun h' tk F' at' => ?_
    refine set_fields X cls sa he eL hk hs hm zs us ((z.f, u) :: done) h' tk Q F' at' (by simpa using hl) (by rw [List.length_cons]; omega) (fun y hy => no y (List.mem_cons_of_mem _ hy)) (fun y hy => nl y (List.mem_cons_of_mem _ hy)) (fun y hy => nd y (List.mem_cons_of_mem _ hy)) (fun p hp => mv p (List.mem_cons_of_mem _ hp)) fun h'' tk' F'' at'' => hq h'' tk' F'' ?_
    rw [List.map_cons, List.zip_cons_cons, List.reverse_cons, List.append_assoc]
    exact at''
  | [], _ :: _, _, _, _, _, _, _, hl, _, _, _, _, _, _ => by cases hl
  | _ :: _, [], _, _, _, _, _, _, hl, _, _, _, _, _, _ => by cases hl

theorem map_self {fs : List Str} {us : List Value} {e : Value} (hn : ((("self" : Str) :: fs)).Nodup) (hl : us.length = fs.length) :
    (fun x => (((("self" : Str), e) :: fs.zip us).reverse.lookup x)) ("self" : Str) = some e ∧ ∀ p ∈ fs.zip us, (fun x => ((("self" : Str), e) :: fs.zip us).reverse.lookup x) p.1 = some p.2 := by
  have key : ∀ (l : List (Str × Value)), (l.map (·.1)).Nodup → ∀ p ∈ l, l.reverse.lookup p.1 = some p.2 := by
    intro l
    induction l with
    | nil => intro _ p hp; cases hp
    | cons a l ih =>
      intro hd p hp
      rw [List.map_cons, List.nodup_cons] at hd
      rw [List.reverse_cons, List.lookup_append]
      rcases List.mem_cons.mp hp with rfl | hp
      · have : l.reverse.lookup p.1 = none := by
          rw [List.lookup_eq_none_iff]
          intro q hq
          rw [List.mem_reverse] at hq
          refine bne_iff_ne.mpr fun z => hd.1 ?_
          rw [z]
          exact List.mem_map.mpr ⟨q, hq, rfl⟩
        rw [this]
        obtain ⟨x, y⟩ := p
        simp [List.lookup_cons]
      · rw [ih hd.2 p hp]
        rfl
  have em : ((("self" : Str), e) :: fs.zip us).map (·.1) = ("self" : Str) :: fs := by
    rw [List.map_cons]
    congr 1
    exact List.map_fst_zip (by omega)
  have k2 := key ((("self" : Str), e) :: fs.zip us) (by rw [em]; exact hn)
  exact ⟨k2 (("self" : Str), e) List.mem_cons_self, fun p hp => k2 p (List.mem_cons_of_mem _ hp)⟩

/-- __init__ of such a class, on a fresh error at e -/
theorem err_init {R : Result → Shared → Prop} {mg mb : Str → Option Value} {q : Str} {args : Arguments} {body : List Stmt} {scope : Scope} {fs : List Str} {us : List Value} {as : Args} {h : Heap} {t : Nat} {t0 : Addr}
    (T : ErrT prog K C fI q args body scope fs) (X : K.In hp) (hroom : A.depth < recursionLimit) (hg : hp.Ns mainGlobals mg) (hms : mg "super" = none) (hb : hp.Ns builtinsNs mb) (hbb : mb "super" = some (.type "super")) (hlim : hp.NoLimit)
    (keep : ∀ b o, hp.get? b = some o → h.get? b = some o) (hsz : hp.objs.size ≤ h.objs.size) (he : hp.get? e = none) (ho : h.get? e = some (excObj C t0 none .none)) (hu : us.length = fs.length)
    (hbd : ∀ (doc pm ct : Value) (an : Option Addr) (cda cc : Addr), bindArgs (ksFn "__init__" q args body scope .none .none doc pm an (.ref cda) ct cc) as = pure ((("self" : Str), .ref e) :: fs.zip us))
    (hq : ∀ h' tk, (∀ b o, hp.get? b = some o → h'.get? b = some o) → (∃ L, h'.objs.size > L ∧ ErrAt hp L h' e C ((fs.zip us).reverse)) → R (.ok (.ret .none)) ⟨h', g, d, tk, os⟩) :
    codeAny (model prog w) A (.call (.ref fI) as) R ⟨h, g, d, t, os⟩ := by
  obtain ⟨oc, od, osl, doc, pm, ct, an, cda, cc, ccl, cl, cdd, cld, ccs, csl, vs, file, tf, hF, hcd, hcode, hvs, hfile, hcell⟩ := T.fn
  obtain ⟨msg, p0, p1, p2, p3, p4, p5, k, zs, hbody, hzs, pl, hmc⟩ := T.shape
  obtain ⟨ar, har, hara⟩ := T.ar
  have Xh : K.In h := X.keeps keep
  have hk := T.scK
  obtain ⟨hmS, hmF⟩ := map_self (e := .ref e) T.nd.1 hu
  refine ks_codeAny_call_defAt (fd := ksFn "__init__" q args body scope .none .none doc pm an (.ref cda) ct cc) hroom (Xh _ _ hF) rfl (hlim.keeps keep) (codeRec_of Xh hcd) rfl (.of_eq (hbd doc pm ct an cda cc)) T.scN (fun x hx => ?_) (fun h₀ hns hk0 => ?_) T.scC T.scG hk
  · rcases List.mem_cons.mp hx with rfl | hx
    · exact T.scV _ List.mem_cons_self
    · exact T.scV _ (List.mem_cons_of_mem _ (List.of_mem_zip hx).1)
  generalize eL : h.objs.size = L at hns ⊢
  show wpAt _ _ (.func body (ksEnv q scope L fI (.ref cda) cc)) (execs body (ksEnv q scope L fI (.ref cda) cc)) _ _ _
  have heL : e ≠ L := by rw [← eL]; exact Nat.ne_of_lt (Heap.lt_size ho)
  have F0 : Fr hp L h₀ (fun x => ((("self" : Str), Value.ref e) :: fs.zip us).reverse.lookup x) := ⟨hns, fun b o z => hk0 b o (keep b o z), by rw [← eL]; exact hsz⟩
  have N0 : News hp L h₀ [(e, excObj C t0 none .none)] := fun p hp' => by
    rw [List.mem_singleton.mp hp']
    exact ⟨hk0 _ _ ho, heL, he⟩
  have X0 : K.In h₀ := X.keeps F0.keep
  generalize (((("self" : Str), Value.ref e) :: fs.zip us).length) = n1
  rw [hbody]
  -- super().__init__('..')
  have hint : interactive (ksEnv q scope L fI (.ref cda) cc) = false := by
    unfold interactive
    simp [hk]
  refine ks_wpAt_execs_cons (ks_wpAt_Expr_any (ks_wpAt_MethodCall ?_ (hmc _ _ _ _)) hint)
  obtain ⟨nm, qn, N', bs, bm, sn, sub, ab, col, dd, k0, k1, k2, k3, k5, hC, hbm⟩ := T.cls
  refine ks_wpAt_super_base (env := ksEnv q scope L fI (.ref cda) cc) T.scS T.scL (by decide) rfl (X0 _ _ hF) rfl har rfl (X0 _ _ hcode) rfl hvs hfile T.top ?_
  refine ks_loadName_global hk T.scS (loadGlobal_builtin (env := ksEnv q scope L fI (.ref cda) cc) (hg.keeps F0.keep) hms (hb.keeps F0.keep) hbb ⟨rfl, ?_⟩)
  refine wpAny_loadName_free hk T.scL rfl ⟨_, X0 _ _ hcell, rfl⟩ ?_
  rw [hara]
  refine wpAny_loadName_local hk (T.scV _ List.mem_cons_self) F0.ns hmS ?_
  refine ks_wpAny_isType_cls (X0 _ _ hC) rfl ⟨rfl, ?_⟩
  have I0 : W.InstAt h₀ e (excObj C t0 none .none) C none := ⟨hk0 _ _ ho, rfl, rfl, trivial⟩
  refine ks_wpAny_call_super (X0 _ _ hC) rfl I0.at_ I0.cls (fun c z => nomatch z) (looks_mroIn X0 T.slf) (fun h1 e1 k1' => ?_)
  obtain ⟨F1, N1, l1⟩ := ks_newsPush (s := ⟨h₀, g, d, t, os⟩) (o := ks_superObj C e C) F0 N0 rfl e1 k1'
  have I1 : W.InstAt h1 e (excObj C t0 none .none) C none := ⟨(N1 _ (List.mem_cons_of_mem _ List.mem_cons_self)).1, rfl, rfl, trivial⟩
  refine kxs_method kxs_ValueError F1 X N1 List.mem_cons_self I1 T.opq T.sup T.sve (by decide) (fun u h2 F2 N2 l2 => ?_)
  refine kxs_callWith1 (i := "ValueError.__init__") (x := e) N2 List.mem_cons_self ?_
  refine args_cons (wpAny_Constant_str (args_nil ⟨kxs_at N2 List.mem_cons_self, ?_⟩))
  have neSo : h₀.objs.size ≠ e := Nat.ne_of_gt (l1 _ List.mem_cons_self)
  have neU : u ≠ e := Nat.ne_of_gt (l2 _ (List.mem_cons_of_mem _ List.mem_cons_self))
  refine kxs_call (C := C) (x := e) F2 X N2 PySem.F.excBase_ValueError T.exi List.mem_cons_self (.tail neU (.tail neSo (.head (fun p hp => nomatch hp)))) (by show 1 ≤ sizeLine; decide) (fun t' h3 F3 N3 l3 => ?_)
  -- the fields
  refine wpAt_of_wpAny ?_
  have at3 : ErrAt hp L h3 e C [] := .inl ⟨rfl, t', (N3 (e, excObj C t' none .none) (by simp)).1⟩
  refine set_fields X T.cls T.sa he heL hk (T.scV _ List.mem_cons_self) hmS zs us [] h3 _ _ F3 at3 (by rw [hu, ← hzs, List.length_map]) ?_ ?_ ?_ ?_ ?_ (fun h4 tk F4 at4 => ?_)
  · have := T.nd.2.2
    rw [← hzs, List.length_map] at this
    rw [List.length_nil]
    omega
  · exact fun z hz => T.no _ (by rw [← hzs]; exact List.mem_map.mpr ⟨z, hz, rfl⟩)
  · exact fun z hz => T.scV _ (List.mem_cons_of_mem _ (by rw [← hzs]; exact List.mem_map.mpr ⟨z, hz, rfl⟩))
  · exact fun z hz => T.nd.2.1 _ (by rw [← hzs]; exact List.mem_map.mpr ⟨z, hz, rfl⟩)
  · rw [hzs]
    exact hmF
  · rw [hzs, List.append_nil] at at4
    obtain ⟨oL, _, _, hL4, _⟩ := F4.ns
    exact hq h4 tk F4.keep ⟨L, Heap.lt_size hL4, at4⟩
end
end PySem.ErrX

set_option maxHeartbeats 4000000
/-! HF: own errors called with keywords. -/
namespace PySem.ErrX
open PySem PySem.W PySem.Calls PyProof.Rows PySem.HandSPX
section
variable {M : Model} {A : Around} {E : Value → Shared → Prop} {h : Heap} {g : Array GenState} {d : Drawn} {t : Nat} {os : OsState}
variable {nm q : Str} {C N : Addr} {bs bm bmB : List Value} {hdct : Bool} {sn : List Str} {sub : List Value} {ab : Bool} {col : Option Bool} {dd : Option Addr} {k0 k1 k2 k3 k5 : Option Value} {B newId initId : String}
theorem check_newK (F : ExcBaseFacts B newId initId bmB) (hT : ∀ X : String, bm.contains (.type X) = bmB.contains (.type X)) {rest : List Value} {kw : List (Str × Value)} {Q : Unit → Shared → Prop}
    (hC : h.get? C = some (excClassObj nm q C N bs bm hdct sn sub ab col dd k0 k1 k2 k3 k5 newId)) (hq : Q () ⟨h, g, d, t, os⟩) : wpAny M A (checkBuiltinCall newId ⟨.ref C :: rest, kw⟩) Q E ⟨h, g, d, t, os⟩ := by
  have hcont : (Value.ref C :: bm).contains (.type B) = true := by rw [List.contains_cons, hT, F.hasB, Bool.or_true]
  have hstar := F.noStar
  simp only [checkBuiltinCall, F.newKind, F.newSplit, F.newRow]
  repeat (first | refine wpAny_loadPart_at hC ?_ | (refine wpAny_isSubtype_exc hC ?_; rw [hcont]) | refine wpAny_staticBase_exc hC ?_ | refine wpAny_madeBy_exc hC ?_ | simp only [bne_self_eq_false, Bool.false_eq_true, if_false] | wp_step)
  exact hq
end
section
variable {prog : Program} {w : World} {A : Around} {E : Value → Shared → Prop} {R : Result → Shared → Prop} {h : Heap} {g : Array GenState} {d : Drawn} {t : Nat} {os : OsState}
variable {nm q : Str} {C N : Addr} {bs bm bmB : List Value} {hdct : Bool} {sn : List Str} {sub : List Value} {ab : Bool} {col : Option Bool} {dd : Option Addr} {k0 k1 k2 k3 k5 : Option Value} {B newId initId : String}
theorem new_ownK (F : ExcBaseFacts B newId initId bmB) (hT : ∀ X : String, bm.contains (.type X) = bmB.contains (.type X)) {rest : List Value} {kw : List (Str × Value)}
    (hC : h.get? C = some (excClassObj nm q C N bs bm hdct sn sub ab col dd k0 k1 k2 k3 k5 newId))
    (hq : R (.ok (.ret (.ref (h.objs.size + 1)))) ⟨(h.push { cls := .type "tuple", data := .seq rest.toArray }).push
      { cls := .ref C, data := .fields #[.ref h.objs.size, .none, .none, .none, .bool false, .none] }, g, d, t, os⟩) (hrest : rest.length ≤ sizeLine) :
    codeAny (model prog w) A (.builtin newId ⟨.ref C :: rest, kw⟩) R ⟨h, g, d, t, os⟩ := by
  have hends := F.ends
  have hcB : (Value.ref C :: bm).contains (.type B) = true := by rw [List.contains_cons, hT, F.hasB, Bool.or_true]
  have hcA : (Value.ref C :: bm).contains (.type "AttributeError") = false := by rw [List.contains_cons, hT, F.noAttr]; rfl
  have hcN : (Value.ref C :: bm).contains (.type "NameError") = false := by rw [List.contains_cons, hT, F.noName]; rfl
  refine codeAny_builtinAt F.entry ?_
  unfold Builtin.«BaseException.__new__»
  refine wpAt_bind ?_
  show wpAt _ _ _ (stack >>= _) _ _ _
  refine wpAt_bind (wpAt_stack fun p below => wpAt_of_wpAny ?_)
  wp_walk
  refine wpAt_of_wpAny ?_
  rw [F.owner]
  repeat (first | with_reducible refine wpAny_madeHere_exc F.canon hC ?_ | with_reducible refine wpAny_loadPart_at hC ?_ | (with_reducible refine wpAny_isSubtype_exc hC ?_; first | rw [hcB] | rw [hcA] | rw [hcN]) | wp_step)
  show R _ _
  rw [Heap.size_push]
  exact hq
theorem type_callK (F : ExcBaseFacts B newId initId bmB) (hT : ∀ X : String, bm.contains (.type X) = bmB.contains (.type X)) {rest : List Value} {kw : List (Str × Value)} {fI : Addr} {Q : Fin → Shared → Prop}
    (hC : h.get? C = some (excClassObj nm q C N bs bm hdct sn sub ab col dd k0 k1 k2 k3 k5 newId))
    (hi : W.Looks (model prog w) h (typeLookup (.ref C) "__init__") (some (.ref fI))) (hb : ∀ self, W.Looks (model prog w) h (bindSpecial (.ref fI) self) (.ref fI, [self])) (hrest : rest.length ≤ sizeLine)
    (hq : codeAny (model prog w) A (.call (.ref fI) ⟨.ref (h.objs.size + 1) :: rest, kw⟩)
      (fun r s' => match r with | .ok (.ret v) => v = .none ∧ Q (.done (.ret (.ref (h.objs.size + 1)))) s' | .ok _ => False | .error e => E e s')
      ⟨(h.push (W.kdv_tup rest)).push (excO C h.objs.size), g, d, t, os⟩) :
    wpAny (model prog w) A (Builtin.«type.__call__» ⟨.ref C :: rest, kw⟩) Q E ⟨h, g, d, t, os⟩ := by
  repeat (first | with_reducible refine wpAny_loadPart_at hC ?_ | with_reducible refine wpAny_madeBy_exc hC ?_ | wp_step)
  refine codeAny_call_builtin_code (Code.quiet_builtin _ F.quiet) (check_newK F hT hC ?_)
  refine new_ownK F hT hC ?_ hrest
  show wpAny _ _ _ _ _ _
  have k : ∀ b o, h.get? b = some o → ((h.push (W.kdv_tup rest)).push (excO C h.objs.size)).get? b = some o := fun b o e => Heap.get?_push_of_some _ (Heap.get?_push_of_some _ e)
  have hC₁ := k _ _ hC
  have hget : ((h.push (W.kdv_tup rest)).push (excO C h.objs.size)).get? (h.objs.size + 1) = some (excO C h.objs.size) := by heap_get
  have hcC : (Value.ref C :: bm).contains (.ref C) = true := by simp
  have i1 := hi.keeps k
  have b1 := (hb (.ref (h.objs.size + 1))).keeps k
  unfold isInstance
  repeat (first | with_reducible refine wpAny_loadPart_at hget ?_ | (with_reducible refine wpAny_isSubtype_exc hC₁ ?_; rw [hcC]) | wp_step)
  show wpAny _ _ (typeLookup (.ref C) _) _ _ _
  refine i1.at ?_
  refine wpAny_holding (wpAny_bind (b1.at ?_))
  refine wpAny_bind (wpAny_call (codeAny_mono hq fun r s' z => ?_))
  rcases r with e | (v | _ | _ | _) <;> first | exact z | exact z.elim | skip
  obtain ⟨rfl, z⟩ := z
  first
    | exact wpAny_pure (wpAny_pure z)
    | (wp_walk; exact z)
theorem call_ownK (F : ExcBaseFacts B newId initId bmB) (hT : ∀ X : String, bm.contains (.type X) = bmB.contains (.type X)) {rest : List Value} {kw : List (Str × Value)} {fI : Addr}
    (hC : h.get? C = some (excClassObj nm q C N bs bm hdct sn sub ab col dd k0 k1 k2 k3 k5 newId))
    (hi : W.Looks (model prog w) h (typeLookup (.ref C) "__init__") (some (.ref fI))) (hb : ∀ self, W.Looks (model prog w) h (bindSpecial (.ref fI) self) (.ref fI, [self])) (hrest : rest.length ≤ sizeLine)
    (hq : codeAny (model prog w) (A.under (.builtin "type.__call__" ⟨.ref C :: rest, kw⟩)) (.call (.ref fI) ⟨.ref (h.objs.size + 1) :: rest, kw⟩) (W.InitBack (h.objs.size + 1) R)
      ⟨(h.push (W.kdv_tup rest)).push (excO C h.objs.size), g, d, t, os⟩) :
    codeAny (model prog w) A (.call (.ref C) ⟨rest, kw⟩) R ⟨h, g, d, t, os⟩ := by
  have f1 := tc_lookup
  have f2 := tc_bind (.ref C)
  have hTy : (⟨h, g, d, t, os⟩ : Shared).TypeIs (.ref C) "type" := ⟨_, hC, rfl⟩
  refine codeAny_of_tree ?_
  show wpAny _ _ (callAny (.ref C) _) _ _ _
  repeat (any_goals (first | assumption | with_reducible refine wpAny_loadPart_at hC ?_ | wp_step))
  refine ⟨rfl, ?_⟩
  refine codeAny_call_builtin_at (Code.quiet_builtin _ (by decide +kernel)) entry_typeCall (wpAny_check_type_call_sub hC (type_callK F hT hC hi hb hrest ?_))
  refine codeAny_mono hq fun r s' z => ?_
  unfold W.InitBack at z
  rcases r with e | (v | _ | _ | _) <;> exact z
/-- such an error made -/
theorem err_make {mg mb : Str → Option Value} {K : Frag} {fI : Addr} {qn : Str} {args : Arguments} {body : List Stmt} {scope : Scope} {fs : List Str} {us : List Value} {pos : List Value} {kw : List (Str × Value)} {Q : Value → Shared → Prop}
    (T : ErrT prog K C fI qn args body scope fs) (X : K.In h) (hr : L2.Room 1 A) (hg : h.Ns mainGlobals mg) (hms : mg "super" = none) (hb : h.Ns builtinsNs mb) (hbb : mb "super" = some (.type "super")) (hlim : h.NoLimit) (hu : us.length = fs.length) (hz : pos.length ≤ sizeLine)
    (hbd : ∀ (e : Value) (doc pm ct : Value) (an : Option Addr) (cda cc : Addr), bindArgs (ksFn "__init__" qn args body scope .none .none doc pm an (.ref cda) ct cc) ⟨e :: pos, kw⟩ = pure ((("self" : Str), e) :: fs.zip us))
    (hq : ∀ h' tk, (∀ b o, h.get? b = some o → h'.get? b = some o) → (∃ L, h'.objs.size > L ∧ ErrAt h L h' (h.objs.size + 1) C ((fs.zip us).reverse)) → Q (.ref (h.objs.size + 1)) ⟨h', g, d, tk, os⟩) :
    wpAny (model prog w) A (call (.ref C) pos kw) Q E ⟨h, g, d, t, os⟩ := by
  obtain ⟨nm, q, N, bs, bm, sn, sub, ab, col, dd, k0, k1, k2, k3, k5, hC, hbm⟩ := T.cls
  refine wpAny_call (call_ownK PySem.F.excBase_ValueError (fun Y => refsVE_contains Y bm hbm) (X _ _ hC) (looks_findIn X T.init) (fun self => bind_fn X self T.tyI) hz ?_)
  have kk : ∀ b o, h.get? b = some o → ((h.push (W.kdv_tup pos)).push (excO C h.objs.size)).get? b = some o := fun b o e => Heap.get?_push_of_some _ (Heap.get?_push_of_some _ e)
  have hget : ((h.push (W.kdv_tup pos)).push (excO C h.objs.size)).get? (h.objs.size + 1) = some (excO C h.objs.size) := by heap_get
  refine err_init (t0 := h.objs.size) T X (hr.make C pos kw).depth hg hms hb hbb hlim kk (by rw [Heap.size_push, Heap.size_push]; omega) ?_ hget hu (hbd _) (fun h' tk k at_ => ?_)
  · cases z : h.get? (h.objs.size + 1) with
    | none => rfl
    | some o => exact absurd (Heap.lt_size z) (Nat.not_lt.mpr (Nat.le_succ _))
  · exact ⟨rfl, hq h' tk k at_⟩
end
end PySem.ErrX

set_option maxHeartbeats 4000000
/-! HQ: own errors as values in the hand layer: making, isinstance, fields. -/
namespace PySem.ErrX
open PySem PySem.W PySem.Calls PyProof.Rows PySem.HandSPX
section
variable {prog : Program} {w : World} {A : Around} {E : Value → Shared → Prop} {s : Shared} {K : Frag} {x D : Addr} {ox : Obj} {od : Option Obj}
theorem findObj_dataO {C : Addr} {name : Str} {a g : Value} (hc : (clsIn K C).isSome = true) (ha : findIn K (.ref C) name = some (some a)) (hg : specialIn K a "__get__" = some (some g)) (ht : takesIn K a = some true) : findObj K C od name = some (.bind g a) := by
  obtain ⟨cd, hc⟩ := Option.isSome_iff_exists.mp hc
  unfold findObj
  rw [hc, Option.bind_some, ha, Option.bind_some]
  simp [hg, ht]
/-- x.__class__ of an error -/
theorem class_of_err {Q : Option Value → Shared → Prop} (T : L2.ExcC K D) (X : K.In s.heap) (I : InstAt s.heap x ox D od) (h : Q (some (.ref D)) { s with toks := s.toks + 1 }) : wpAny (model prog w) A (getAttr? (.ref x) "__class__") Q E s := by
  have hf : findObj K D od "__class__" = some (.bind (.builtin "getset_descriptor.__get__") (.builtin "object.__class__")) := findObj_dataO (by obtain ⟨cd, hc, _⟩ := any_some T.hd; rw [hc]; rfl) T.ha T.hn T.ht
  obtain ⟨hp, g, d, t, os⟩ := s
  have L0 := I.type (M := model prog w)
  have L1 := looks_findIn (M := model prog w) X T.hg
  have L2 := looks_findIn (M := model prog w) X T.hk
  have L3 := looks_find (M := model prog w) X I hf
  have sub : Looks (model prog w) hp (isInstance (.ref x) (.type "BaseException")) true := L0.andThen (looks_subIn X T.hs)
  have hx0 : (false && onTheHeap (Value.builtin "BaseException.__getattribute__")) = false := rfl
  have hx2 : (Value.builtin "BaseException.__getattribute__" == Value.builtin "object.__getattribute__") = false := by decide +kernel
  have hx1 : (onTheHeap (Value.ref D) && Value.builtin "BaseException.__getattribute__" == Value.builtin "object.__getattribute__") = false := by rw [hx2]; rfl
  unfold getAttr? getAttrBy? getAttrBy
  refine wpAny_bind (wpAny_mkText (wpAny_bind (wpAny_attempt (wpAny_holding (wpAny_bind (L0.at (wpAny_bind (L1.at ?_))))))))
  show wpAny _ _ (if (onTheHeap (Value.ref D) && Value.builtin "BaseException.__getattribute__" == Value.builtin "object.__getattribute__") = true then _ else _) _ _ _
  rw [hx1, if_neg Bool.false_ne_true]
  unfold getAttrByItsOwn hookBefore
  refine wpAny_bind ?_
  rw [if_pos (show onTheHeap (Value.ref D) = true from rfl)]
  refine L2.at ?_
  refine wpAny_bind (wpAny_attempt (wpAny_holding ?_))
  unfold callGetattribute
  rw [hx0, if_neg Bool.false_ne_true]
  unfold boundAndCalled
  rw [PySem.F.excAttr_ValueError.ga.bind (.ref x)]
  refine wpAny_bind (wpAny_pure ?_)
  show wpAny _ _ (call (.builtin "BaseException.__getattribute__") [.ref x, .str "__class__" t]) _ _ _
  refine wpAny_call (codeAny_call_builtin PySem.F.excAttr_ValueError.ga.plain PySem.F.entry_bexc_ga ?_)
  refine @check_slot (model prog w) _ _ ⟨hp, g, d, t + 1, os⟩ "BaseException.__getattribute__" "BaseException" "__getattribute__" (.ref x) [.str "__class__" t] [] _ (by decide +kernel) (by decide +kernel) sub (PySem.F.args_bexc_ga (.ref x) (.str "__class__" t)) ?_
  unfold Builtin.«object.__getattribute__»
  refine wpAny_bind (wpAny_of_eq (a := ((Value.ref x : Value), [Value.str "__class__" t])) (by first | rfl | (simp only [slotArgs]; rfl)) ?_)
  refine wpAny_bind (wpAny_pure (wpAny_bind (L0.at (wpAny_bind (L3.at ?_)))))
  show wpAny _ _ (holding [Value.builtin "object.__class__"] (call (.builtin "getset_descriptor.__get__") [.builtin "object.__class__", .ref x, .ref D]) >>= ret) _ _ _
  refine wpAny_bind (wpAny_holding (wpAny_call (class_get (s := ⟨hp, g, d, t + 1, os⟩) (ox := ox) (od := od) X I T.hm ?_)))
  refine wpAny_pure ?_
  show wpAny _ _ (handedOut (.ref D)) _ _ _
  rw [handedOut_of (v := .ref D) rfl]
  first
    | exact wpAny_pure (wpAny_pure h)
    | exact wpAny_pure h
    | exact wpAny_pure (wpAny_bind (wpAny_pure (wpAny_pure h)))
theorem kitx_err (T : L2.ExcC K D) : KitX K (.ref x) (.ref D) (fun h => ∃ ox od, InstAt h x ox D od) where
  ty := fun _ _ _ ⟨_, _, I⟩ => I.type
  it := fun _ _ X _ => by
    obtain ⟨cdD, hcD, _⟩ := any_some T.hd
    unfold clsIn at hcD
    split at hcD
    · rename_i c' d' cd' sl' ho
      intro A' Q' E' s' k q
      unfold isType loadHead
      exact wpAny_bind (wpAny_loadPart (k _ _ (X _ _ ho)) (wpAny_pure q))
    · cases hcD
  ne := fun h tp dd its n sl X htp => by
    obtain ⟨cdD, hcD, _⟩ := any_some T.hd
    refine Bool.eq_false_iff.mpr fun q => ?_
    have e : D = tp := Value.ref.inj (beq_iff_eq.mp q)
    subst e
    unfold clsIn at hcD
    split at hcD
    · rename_i c' d' cd' sl' ho
      have z := (X _ _ ho).symm.trans htp
      cases z
    · cases hcD
  ca := fun X ⟨_, _, I⟩ k => class_of_err T X I k
end
end PySem.ErrX

namespace HG
open PySem PySem.Spec PyProof.Rows L2 PySem.ErrX
/-- an error at a with its dict at dx; l: the fields, the last one first -/
def errH (H : Hp) (a dx C : Addr) : List (Str × V) → Hp
  | [] => upd H a (exo a C none)
  | p :: l => upd (upd H dx (exd dx (p :: l))) a (exo a C (some dx))
/-- isinstance(e, c), e such an error -/
def rIsErr (K : PySem.W.Frag) : List V → Hp → VK → Prop := fun xs H Q => ∃ (a D : Addr) (dx : Option Addr) (c : V) (u : Value) (b : Bool), xs = [.ref a, c] ∧ ClsV c u ∧ H a = some (exo a D dx) ∧ (∀ d, dx = some d → ∃ fs, H d = some (exd d fs)) ∧ ExcC K D ∧ PySem.W.kitOne K (.ref D) u = some b ∧ Q (.bl b) H
section
variable {X : Cx}
theorem call_isErr : CallR X (.builtin "isinstance") (rIsErr X.K) := by
  intro pins s σ H xs us Q I r h
  obtain ⟨a, D, dx, c, u, b, rfl, k, ha, hd, T, e, q⟩ := h
  obtain ⟨u1, u2, rfl, r1, r2⟩ := vals2 r
  cases (show u1 = Value.ref a from r1)
  have e2 := k.eq r2
  subst e2
  obtain ⟨t1, ho⟩ := exo_at I.hok ha
  have J : ∃ ox od, PySem.W.InstAt s.heap a ox D od := by
    cases dx with
    | none => exact ⟨_, none, ho, rfl, rfl, trivial⟩
    | some d =>
      obtain ⟨fs, hd⟩ := hd d rfl
      obtain ⟨mA, hns, _⟩ := exd_at I.hok hd
      obtain ⟨o, _, _, hod, _⟩ := hns
      exact ⟨_, some o, ho, rfl, rfl, hod⟩
  exact PySem.W.kia_one (kitx_err T) I.kIn J e (fun z => nomatch z) fun tk => ⟨.bl b, H, I.tok tk, rfl, q⟩
/-- e.f -/
def tErrF (K : PySem.W.Frag) (f : Str) (te : TE) : TE := fun σ H Q => te σ H fun x H1 => ∃ (a C dx : Addr) (fs : List (Str × V)) (v : V), x = .ref a ∧ H1 a = some (exo a C (some dx)) ∧ H1 dx = some (exd dx fs) ∧ XfC K C ∧ PySem.W.findIn K (.ref C) f = some none ∧ fs.lookup f = some v ∧ Q v H1
theorem pe_errF {e : Expr} {te : TE} {pos : Pos} {n : Str} (he : PE X e te) (hb : attributeBase e n X.env (eval e X.env) = eval e X.env := by rfl) : PE X (.Attribute e n pos) (tErrF X.K n te) := by
  refine ⟨fun pins s σ H Q I h => ?_⟩
  refine attr_of hb (thn (he.run pins s σ H _ I h) fun u s1 hh => ?_)
  obtain ⟨x, H1, I1, rx, a, C, dx, fs, v, ex, ea, ed, T, hno, l, q⟩ := hh
  subst ex
  obtain rfl : u = Value.ref a := rx
  obtain ⟨t1, ho⟩ := exo_at I1.hok ea
  obtain ⟨mA, hns, hr⟩ := exd_at I1.hok ed
  obtain ⟨od, hod, hl⟩ := lookIn_ns hns
  obtain ⟨u, hu, ru⟩ := RelO.some_of (v := v) (o := mA n) (by rw [← l]; exact hr n)
  have J : PySem.W.InstAt s1.heap a _ C (some od) := ⟨ho, rfl, rfl, hod⟩
  exact HandSPX.exc_get I1.kIn J T.ga T.gg T.exC (PySem.W.findObj_own T.hdC hno rfl (by rw [hl, hu])) (handed_of ru) ⟨v, H1, I1.tok _, ru, q⟩
end
end HG

set_option maxHeartbeats 4000000
/-! HR: own errors made as values: C(), C(x, ..), C(f = x, ..). -/
namespace HG
open PySem PySem.Spec PyProof.Rows L2 PySem.ErrX
theorem relO_fields : ∀ {l : List (Str × V)} {l' : List (Str × Value)}, Paired (fun (p : Str × V) (q : Str × Value) => p.1 = q.1 ∧ RelV p.2 q.2) l l' → ∀ f, RelO (l.lookup f) (l'.lookup f)
  | [], _, .nil, f => True.intro
  | p :: l, q :: l', .cons h t, f => by
    obtain ⟨a, x⟩ := p
    obtain ⟨b, y⟩ := q
    obtain ⟨h1, h2⟩ := h
    have e : a = b := h1
    subst e
    rw [List.lookup_cons, List.lookup_cons]
    cases (f == a) with
    | true => exact h2
    | false => exact relO_fields t f
theorem zip_fields : ∀ {fs : List Str} {vs : List V} {us : List Value}, Vals vs us → Paired (fun (p : Str × V) (q : Str × Value) => p.1 = q.1 ∧ RelV p.2 q.2) (fs.zip vs) (fs.zip us)
  | [], _, _, _ => by simp; exact .nil
  | f :: fs, _, _, .nil => by simp; exact .nil
  | f :: fs, _, _, .cons h t => .cons ⟨rfl, h⟩ (zip_fields t)
theorem paired_app {α β : Type} {R : α → β → Prop} : ∀ {a : List α} {b : List β} {c : List α} {d : List β}, Paired R a b → Paired R c d → Paired R (a ++ c) (b ++ d)
  | _, _, _, _, .nil, h => h
  | _, _, _, _, .cons x y, h => .cons x (paired_app y h)
theorem paired_rev {α β : Type} {R : α → β → Prop} : ∀ {a : List α} {b : List β}, Paired R a b → Paired R a.reverse b.reverse
  | _, _, .nil => .nil
  | _, _, .cons x y => by
    rw [List.reverse_cons, List.reverse_cons]
    exact paired_app (paired_rev y) (.cons x .nil)
section
variable {X : Cx} {C fI : Addr} {q : Str} {args : Arguments} {body : List Stmt} {scope : Scope} {fs : List Str}
theorem err_run {pins : List (Addr × Obj)} {σ : L2.St} {H1 : Hp} {s1 : Shared} {us : List Value} {vs : List V} {pos : List Value} {kw : List (Str × Value)} {Q : VK}
    (T : ErrT X.prog X.K C fI q args body scope fs) (hr : Room 1 X.A) (hms : X.mg "super" = none) (I1 : Inv X pins σ H1 s1) (r1 : Vals vs us) (hl : vs.length = fs.length) (hz : pos.length ≤ sizeLine)
    (hbd : ∀ (e : Value) (doc pm ct : Value) (an : Option Addr) (cda cc : Addr), bindArgs (PySem.W.ksFn "__init__" q args body scope .none .none doc pm an (.ref cda) ct cc) ⟨e :: pos, kw⟩ = pure ((("self" : Str), e) :: fs.zip us))
    (hq : ∀ a dx, H1 a = none → H1 dx = none → dx ≠ a → Q (.ref a) (errH H1 a dx C (fs.zip vs).reverse)) :
    wpAny (model X.prog X.w) X.A (call (.ref C) pos kw) (EP X pins σ Q) X.xe s1 := by
  have e0 := I1.env0
  obtain ⟨mb, hmb, hbb⟩ := e0.mod.blt
  have bk : ∀ b o, X.base.get? b = some o → s1.heap.get? b = some o := fun b o e => (e0.bs b o e).1
  obtain ⟨hp, g, dr, tk, os⟩ := s1
  refine err_make (g := g) (d := dr) (os := os) T I1.kIn hr (e0.mod.glob.keeps bk) hms (hmb.keeps bk) ((hbb _ (by decide)).trans PyProof.Rows.Boot.«super») (e0.mod.nolimit.keeps bk) (us := us) (by rw [← r1.length]; exact hl) hz hbd (fun h' tk' k hat => ?_)
  obtain ⟨L, _, at_⟩ := hat
  have ng : hp.get? (hp.objs.size + 1) = none := by
    cases z : hp.get? (hp.objs.size + 1) with
    | none => rfl
    | some o => exact absurd (Heap.lt_size z) (Nat.not_lt.mpr (Nat.le_succ _))
  have hn : H1 (hp.objs.size + 1) = none := I1.hok.gone ng
  have hrel := relO_fields (paired_rev (zip_fields (fs := fs) r1))
  rcases at_ with ⟨hnil, t1, ho⟩ | ⟨hne, t1, dx, ho, hns, _, hde, hdp⟩
  · have hv : (fs.zip vs).reverse = [] := by
      have e1 := congrArg List.length hnil
      rw [List.length_reverse, List.length_zip, ← r1.length, ← List.length_zip, List.length_nil] at e1
      rw [List.length_eq_zero_iff.mp e1]
      rfl
    have qq := hq (hp.objs.size + 1) (hp.objs.size + 2) hn (I1.hok.fresh (Nat.le_add_right _ 2)) (Nat.ne_of_gt (Nat.lt_succ_self _))
    rw [hv] at qq
    exact ⟨.ref _, _, I1.laidN (t' := tk') (o := exo (hp.objs.size + 1) C none) k ng hn (exo_ok ho), rfl, qq⟩
  · obtain ⟨G, g1, g2⟩ := restrict h' fun b => decide (b ≠ hp.objs.size + 1)
    have gk : ∀ b, b ≠ hp.objs.size + 1 → G.get? b = h'.get? b := fun b hb => g1 b (decide_eq_true hb)
    have ge : G.get? (hp.objs.size + 1) = none := g2 _ (by simp)
    have hnd : H1 dx = none := I1.hok.gone hdp
    have kG : ∀ b u, hp.get? b = some u → G.get? b = some u := fun b u z => by
      rw [gk b (fun y => by rw [y, ng] at z; cases z)]
      exact k b u z
    have kG2 : ∀ b u, G.get? b = some u → h'.get? b = some u := fun b u z => by
      by_cases hb : b = hp.objs.size + 1
      · rw [hb, ge] at z; cases z
      · rw [← gk b hb]; exact z
    have hnsG : G.Ns1 dx (fun y => (fs.zip us).reverse.lookup y) := hns.at fun o z => by rw [gk dx hde]; exact z
    have I2 := I1.laidN (t' := tk') (a := dx) (o := exd dx (fs.zip vs).reverse) kG hdp hnd (exd_ok hnsG hrel)
    have hn2 : (upd H1 dx (exd dx (fs.zip vs).reverse)) (hp.objs.size + 1) = none := by rw [upd_ne hde.symm]; exact hn
    have I3 := I2.laidN (t' := tk') (a := hp.objs.size + 1) (o := exo (hp.objs.size + 1) C (some dx)) (h' := h') kG2 ge hn2 (exo_ok ho)
    have qq := hq (hp.objs.size + 1) dx hn hnd hde
    refine ⟨.ref _, _, I3, rfl, ?_⟩
    cases e : (fs.zip vs).reverse with
    | nil =>
      exfalso
      apply hne
      have e1 := congrArg List.length e
      rw [List.length_reverse, List.length_zip, r1.length, ← List.length_zip, List.length_nil] at e1
      rw [List.length_eq_zero_iff.mp e1]
      rfl
    | cons p l =>
      rw [e] at qq
      exact qq
/-- an own error's class of the top -/
structure ErrC (P : Program) (K : PySem.W.Frag) (mg : Str → Option Value) (x : Str) (q : Str) (args : Arguments) (body : List Stmt) (scope : Scope) (fs : List Str) : Prop where
  t : ∃ fI, ErrT P K (He.ga K x) fI q args body scope fs
  gl : mg x = some (.ref (He.ga K x))
  sp : mg "super" = none
def tErr (C : Addr) (fs : List Str) (gV : List V → List V) (ta : TA) : TE := fun σ H Q => ta σ H fun vs H1 => (gV vs).length = fs.length ∧ vs.length ≤ 1000 ∧ ∀ a dx, H1 a = none → H1 dx = none → dx ≠ a → Q (.ref a) (errH H1 a dx C (fs.zip (gV vs)).reverse)
variable {x : Str} {p pos : Pos} {e : Expr} {es : List Expr} {t : TA} {kws : List Keyword}
theorem pe_err (E : ErrC X.prog X.K X.mg x q args body scope fs) (hr : Room 1 X.A) (hg : Gl X x) (ha : PA X (e :: es) t)
    (hb : ∀ (e : Value) (doc pm ct : Value) (an : Option Addr) (cda cc : Addr) (us : List Value), us.length = fs.length → bindArgs (PySem.W.ksFn "__init__" q args body scope .none .none doc pm an (.ref cda) ct cc) ⟨e :: us, []⟩ = pure ((("self" : Str), e) :: fs.zip us))
    (hdb : (x == ("__debug__" : Str)) = false := by decide) (he : starEach (e :: es) X.env = (false, eval e X.env) :: starEach es X.env := by rfl) (hpl : (backTo pos (starEach es X.env)).any (·.1) = false := by rfl) :
    PE X (.Call (.Name x p) (e :: es) [] pos) (tErr (He.ga X.K x) fs id t) := by
  obtain ⟨fI, T⟩ := E.t
  refine ⟨fun pins s σ H Q I h => ?_⟩
  refine wpAny_Call_Name_kw (ld_glob I hg E.gl ?_ hdb)
  refine PySem.W.callWith_K (h₀ := X.base) I.ok.mod.kin T.kC (thn (ha.run pos pins s σ H _ I h) fun us s1 ⟨vs, H1, I1, r1, hl, hz, q1⟩ => ⟨I1.kIn, ?_⟩) he hpl
  have hl' : us.length = fs.length := by rw [← r1.length]; exact hl
  exact err_run (vs := vs) T hr E.sp I1 r1 hl (show us.length ≤ sizeLine by rw [← r1.length]; exact Nat.le_trans hz (by decide)) (fun e doc pm ct an cda cc => hb e doc pm ct an cda cc us hl') q1
theorem pe_err0 (E : ErrC X.prog X.K X.mg x q args body scope []) (hr : Room 1 X.A) (hg : Gl X x)
    (hb : ∀ (e : Value) (doc pm ct : Value) (an : Option Addr) (cda cc : Addr), bindArgs (PySem.W.ksFn "__init__" q args body scope .none .none doc pm an (.ref cda) ct cc) ⟨[e], []⟩ = pure [(("self" : Str), e)])
    (hdb : (x == ("__debug__" : Str)) = false := by decide) :
    PE X (.Call (.Name x p) [] [] pos) (tErr (He.ga X.K x) [] id tNil) := by
  obtain ⟨fI, T⟩ := E.t
  refine ⟨fun pins s σ H Q I h => ?_⟩
  refine wpAny_Call_Name_kw (ld_glob I hg E.gl ?_ hdb)
  refine PySem.W.callWith_K0 I.kIn T.kC ?_
  obtain ⟨_, _, q1⟩ := h
  exact err_run (vs := []) T hr E.sp I .nil rfl (Nat.zero_le _) (fun e doc pm ct an cda cc => hb e doc pm ct an cda cc) q1
theorem pe_errK {ks : List Str} {g : List Value → List Value} {gV : List V → List V} (E : ErrC X.prog X.K X.mg x q args body scope fs) (hr : Room 1 X.A) (hg : Gl X x) (hkw : PK X kws t) (rel : ∀ {zs : List V} {ws : List Value}, Vals zs ws → Vals (gV zs) (g ws))
    (hb : ∀ (e : Value) (doc pm ct : Value) (an : Option Addr) (cda cc : Addr) (us : List Value), us.length = ks.length → bindArgs (PySem.W.ksFn "__init__" q args body scope .none .none doc pm an (.ref cda) ct cc) ⟨[e], ks.zip us⟩ = pure ((("self" : Str), e) :: fs.zip (g us)))
    (hkl : ∀ vs : List V, (gV vs).length = fs.length → vs.length = ks.length)
    (hall : (backToKw pos (keywordEach kws X.env)).all (·.1.isSome) = true := by rfl)
    (hks : (backToKw pos (keywordEach kws X.env)).filterMap (·.1) = ks := by rfl)
    (hdb : (x == ("__debug__" : Str)) = false := by decide)
    (hpl : ((backTo pos (starEach [] X.env)).any (·.1) || (backToKw pos (keywordEach kws X.env)).any (·.1.isNone)) = false := by rfl) :
    PE X (.Call (.Name x p) [] kws pos) (tErr (He.ga X.K x) fs gV t) := by
  obtain ⟨fI, T⟩ := E.t
  refine ⟨fun pins s σ H Q I h => ?_⟩
  refine wpAny_Call_Name_kw (ld_glob I hg E.gl ?_ hdb)
  refine PySem.W.callWith_KW0 (h₀ := X.base) I.ok.mod.kin T.kC hall (thn (hkw.run pos pins s σ H _ I h) ?_) hpl
  rintro ws s2 ⟨zs, H2, I2, rz, l2, hz, q2⟩
  rw [hks]
  refine ⟨I2.kIn, ?_⟩
  exact err_run (vs := gV zs) (us := g ws) T hr E.sp I2 (rel rz) l2 (Nat.zero_le _) (fun e doc pm ct an cda cc => hb e doc pm ct an cda cc ws (by rw [← rz.length]; exact hkl zs l2)) q2
end
end HG

set_option maxHeartbeats 4000000
/-! HS: a head's facts with own errors. -/
namespace HG
open PySem PySem.Spec PyProof.Rows L2 PySem.ErrX
abbrev ErrD : Type := Option (Str × Arguments × List Stmt × Scope)
def cellB (K : PySem.W.Frag) (cc C : Addr) : Bool := match K.lookup cc with
  | some ⟨_, _, .cell (some (.ref D)), _⟩ => D == C
  | _ => false
def fileB (K : PySem.W.Frag) (cda : Addr) (file : Str) : Bool := match K.lookup cda with
  | some ⟨_, _, .fields vs, _⟩ => (match (vs[2]? : Option Value) with | some (Value.str f _) => f == file | _ => false)
  | _ => false
/-- __init__ of the class x, as it is written -/
def errD (file : Str) (K : PySem.W.Frag) (x : Str) : ErrD := match PySem.W.findIn K (.ref (He.ga K x)) "__init__" with
  | some (some (.ref f)) => (match K.lookup f with
    | some ⟨_, _, .func ⟨n, q, a, .stmts b, sc, gl, [(c, cc)], .none, .none, _, _, _, .ref cda, _, bl⟩, _⟩ =>
      if (n == ("__init__" : Str) && (c == ("__class__" : Str) && (gl == mainGlobals && (bl == builtinsNs && (PySem.W.codeIn K (.ref cda) q && (cellB K cc (He.ga K x) && (fileB K cda file && decide (PySem.W.typeIn K (.ref f) = some (.type "function"))))))))) = true then some (q, a, b, sc) else none
    | _ => none)
  | _ => none
def clsEB (K : PySem.W.Frag) (C : Addr) : Bool := match K.lookup C with
  | some ⟨.type t, _, .cls cd, sl⟩ => (match cd.mro, sl.toList with
    | .ref C' :: bm, [_, _, _, _, some (.builtin n), _] => t == "type" && (C' == C && (n == "ValueError.__new__" && (!cd.hasDel && (PySem.HandSPX.refsVE bm && cd.hasDict))))
    | _, _ => false)
  | _ => false
theorem clsEB_ok {K : PySem.W.Frag} {C : Addr} (h : clsEB K C = true) : ∃ nm q N bs bm sn sub ab col dd k0 k1 k2 k3 k5, K.lookup C = some (excClassObj nm q C N bs bm true sn sub ab col dd k0 k1 k2 k3 k5 "ValueError.__new__") ∧ PySem.HandSPX.refsVE bm = true := by
  unfold clsEB at h
  split at h
  · rename_i t dd cd sl hl
    split at h
    · rename_i C' bm a0 a1 a2 a3 n a5 hm hsl
      simp only [Bool.and_eq_true, beq_iff_eq, Bool.not_eq_true'] at h
      obtain ⟨h0, h1, h2, h3, h4, h5⟩ := h
      subst h0 h1 h2
      obtain ⟨nm, bs, mro, ns, qn, hd, sn, sub, ab, col, del⟩ := cd
      dsimp only at hm h3 h5
      subst hm h3 h5
      have es : sl = #[a0, a1, a2, a3, some (.builtin "ValueError.__new__"), a5] := by
        rw [← Array.toList_inj, hsl]
      subst es
      exact ⟨nm, qn, ns, bs, bm, sn, sub, ab, col, dd, a0, a1, a2, a3, a5, hl, h4⟩
    · cases h
  · cases h
def excB (K : PySem.W.Frag) (C : Addr) : Bool :=
  decide (PySem.W.findIn K (.ref C) "__class__" = some (some (.builtin "object.__class__"))) && (decide (PySem.W.specialIn K (.builtin "object.__class__") "__get__" = some (some (.builtin "getset_descriptor.__get__"))) &&
    (decide (PySem.W.takesIn K (.builtin "object.__class__") = some true) && decide (PySem.W.mroIn K C (.type "object") = some true)))
def errB (K : PySem.W.Frag) (x : Str) (fs : List Str) : Bool :=
  clsEB K (He.ga K x) && (PySem.W.excInitIn K (He.ga K x) PySem.HandSPX.veTail "ValueError.__new__" && (decide (PySem.W.findIn K (.ref (He.ga K x)) "__setattr__" = some (some (.builtin "object.__setattr__"))) &&
    (decide (PySem.W.ks_superIn K (He.ga K x) (He.ga K x) "__init__" = some (some (.builtin "ValueError.__init__"))) && (decide (PySem.W.subIn K (.ref (He.ga K x)) (.type "ValueError") = some true) && (decide (PySem.W.mroIn K (He.ga K x) (.ref (He.ga K x)) = some true) &&
      (decide (PySem.W.nsIn K cStatics "thirdparty.any" = some none) && (fs.all (fun f => decide (PySem.W.findIn K (.ref (He.ga K x)) f = some none)) && (PySem.W.keepIn K (.ref (He.ga K x)) && (xfB K (He.ga K x) && (excB K (He.ga K x) &&
        decide (PySem.W.typeIn K (.ref (He.ga K x)) = some (.type "type"))))))))))))
/-- all that is known of such a class -/
structure ErrX (K : PySem.W.Frag) (x : Str) (fs : List Str) : Prop where
  xf : XfC K (He.ga K x)
  ex : ExcC K (He.ga K x)
  ty : PySem.W.typeIn K (.ref (He.ga K x)) = some (.type "type")
  no : ∀ f ∈ fs, PySem.W.findIn K (.ref (He.ga K x)) f = some none
theorem errX_of {K : PySem.W.Frag} {x : Str} {fs : List Str} (h : errB K x fs = true) : ErrX K x fs := by
  unfold errB at h
  simp only [Bool.and_eq_true] at h
  obtain ⟨h1, h2, h3, h4, h5, h6, h7, h8, h9, h10, h11, h12⟩ := h
  have xf := xfB_ok h10
  unfold excB at h11
  simp only [Bool.and_eq_true] at h11
  obtain ⟨a, b, c, d⟩ := h11
  exact ⟨xf, ⟨xf.ga, xf.gg, xf.exC, xf.hdC, of_decide_eq_true a, of_decide_eq_true b, of_decide_eq_true c, of_decide_eq_true d⟩, of_decide_eq_true h12, fun f hf => of_decide_eq_true (List.all_eq_true.mp h8 f hf)⟩
/-- what is asked of the program -/
structure PrgOk (file : Str) (P : Program) : Prop where
  file : ((P.main.file : Str) == file) = true
  top : (P.main.scope.names.lookup ("super" : Str)).isSome = false
theorem errC_mk {P : Program} {file : Str} {K : PySem.W.Frag} {mg : Str → Option Value} {x q : Str} {a : Arguments} {b : List Stmt} {sc : Scope} {fs : List Str} (hP : PrgOk file P) (hd : errD file K x = some (q, a, b, sc)) (hb : errB K x fs = true)
    (gl : mg x = some (.ref (He.ga K x))) (sp : mg "super" = none)
    (shape : ∃ (msg : Str) (p0 p1 p2 p3 p4 p5 : Pos) (k : Nat) (zs : List SetP), b = supS msg p0 p1 p2 p3 p4 p5 k :: zs.map setS ∧ zs.map SetP.f = fs ∧
      ∃ pl : Sem Bool, ∀ (L a cc : Addr) (cda : Value), eval (.Call (.Attribute (.Call (.Name "super" p0) [] [] p1) "__init__" p2) [.Constant (.str msg) k p3] [] p4) (PySem.W.ksEnv q sc L a cda cc) = (do
        let ov ← attributeBase (.Call (.Name "super" p0) [] [] p1) "__init__" (PySem.W.ksEnv q sc L a cda cc) (eval (.Call (.Name "super" p0) [] [] p1) (PySem.W.ksEnv q sc L a cda cc))
        standAt p2.atName
        let (f, first) ← holding [ov] (getMethod ov "__init__" pl)
        callWith p4 f first (backTo p4 (starEach [.Constant (.str msg) k p3] (PySem.W.ksEnv q sc L a cda cc))) []))
    (ar : ∃ ar : Arg, (a.posonlyargs ++ a.args).head? = some ar ∧ ar.arg = "self")
    (scK : sc.kind = .function) (scC : sc.isCoroutine = false) (scG : sc.isGenerator = false) (scS : sc.names.lookup ("super" : Str) = some .globalImplicit) (scL : sc.names.lookup ("__class__" : Str) = some .free) (scN : ∀ x ∈ sc.names, x.2 ≠ .cell)
    (scV : ∀ x ∈ ("self" : Str) :: fs, sc.names.lookup x = some .local) (nd : ((("self" : Str) :: fs)).Nodup ∧ (∀ x ∈ fs, (x == ("__debug__" : Str)) = false) ∧ fs.length ≤ 100) : ErrC P K mg x q a b sc fs := by
  unfold errB at hb
  simp only [Bool.and_eq_true] at hb
  obtain ⟨h1, h2, h3, h4, h5, h6, h7, h8, h9, h10, h11, h12⟩ := hb
  unfold errD at hd
  split at hd
  · rename_i f hf
    split at hd
    · rename_i oc od n q' a' b' sc' gl' c cc doc pm an cda ct bl osl hF
      split at hd
      · rename_i hc
        simp only [Bool.and_eq_true] at hc
        obtain ⟨c1, c2, c3, c4, c5, c6, c7, c8⟩ := hc
        obtain ⟨rfl, rfl, rfl, rfl⟩ : q' = q ∧ a' = a ∧ b' = b ∧ sc' = sc := by
          have e := Option.some.inj hd
          obtain ⟨e1, e⟩ := Prod.mk.inj e
          obtain ⟨e2, e⟩ := Prod.mk.inj e
          obtain ⟨e3, e4⟩ := Prod.mk.inj e
          exact ⟨e1, e2, e3, e4⟩
        have d1 := beq_iff_eq.mp c1
        have d2 := beq_iff_eq.mp c2
        have d3 := beq_iff_eq.mp c3
        have d4 := beq_iff_eq.mp c4
        subst d1 d2 d3 d4
        refine ⟨⟨f, ⟨clsEB_ok h1, h2, of_decide_eq_true h3, of_decide_eq_true h4, of_decide_eq_true h5, of_decide_eq_true h6, of_decide_eq_true h7, hf, of_decide_eq_true c8, fun g hg => of_decide_eq_true (List.all_eq_true.mp h8 g hg), h9, ?_, shape, ar, scK, scC, scG, scS, scL, scN, scV, nd, hP.top⟩⟩, gl, sp⟩
        unfold cellB at c6
        split at c6
        · rename_i cl cld D csl hcell
          have eD := beq_iff_eq.mp c6
          subst eD
          unfold fileB at c7
          split at c7
          · rename_i ccl cdd vs ccs hcode
            split at c7
            · rename_i fl tf hvs
              have ef := beq_iff_eq.mp c7
              subst ef
              exact ⟨oc, od, osl, doc, pm, ct, an, cda, cc, ccl, cl, cdd, cld, ccs, csl, vs, fl, tf, hF, c5, hcode, hvs, hP.file, hcell⟩
            · cases c7
          · cases c7
        · cases c6
      · cases hd
    · cases hd
  · cases hd
/-! ### the Hook -/
abbrev AlE : Type := AlB × List ErrD
def obsE (file : Str) (fa : List He.Fa) (fn : List He.DefD) (ts : List He.Tab) (bx : PySem.W.Frag → Bool) (es : List Str) (K : PySem.W.Frag) : AlE := (obsB fa fn ts bx K, es.map (errD file K))
def obsEG (n : Nat) (file : Str) (fa : List He.Fa) (fn : List He.DefD) (ts : List He.Tab) (bx : PySem.W.Frag → Bool) (es : List Str) (g : Addr → Option Obj) : AlE := obsE file fa fn ts bx es (He.frG g (cStatics :: He.asD g n))
structure SaysE (file : Str) (fa : List He.Fa) (fn : List He.DefD) (ts : List He.Tab) (bx : PySem.W.Frag → Bool) (es : List Str) (ev : List ErrD) (w : World) (K : PySem.W.Frag) : Prop where
  q : obsE file fa fn ts bx es K = ((He.valT fn ts w, true), ev)
def hookE (n : Nat) (file : Str) (fa : List He.Fa) (fn : List He.DefD) (ts : List He.Tab) (bx : PySem.W.Frag → Bool) (es : List Str) (ev : List ErrD) : PySem.W.Hook where
  α := AlE
  obs := fun s => obsEG n file fa fn ts bx es s.heap.get?
  val := fun w => ((He.valT fn ts w, true), ev)
  says := fun w h => ∃ K : PySem.W.Frag, K.In h ∧ SaysE file fa fn ts bx es ev w K
  of := fun _ _ e => ⟨_, He.frG_in, ⟨e⟩⟩
  keeps := fun _ _ _ ⟨K, hK, c⟩ k => ⟨K, PySem.W.Frag.In.keeps hK k, c⟩
theorem obsEG_eq {n : Nat} {file : Str} {fa : List He.Fa} {fn : List He.DefD} {ts : List He.Tab} {bx : PySem.W.Frag → Bool} {es : List Str} {ev : List ErrD} {g : Addr → Option Obj} {s : Shared} (h : ∀ a, g a = s.heap.get? a) :
    obsEG n file fa fn ts bx es g = (hookE n file fa fn ts bx es ev).obs s := by
  have e : g = s.heap.get? := funext h
  rw [e]
  rfl
section
variable {file : Str} {fa : List He.Fa} {fn : List He.DefD} {ts : List He.Tab} {bx : PySem.W.Frag → Bool} {es : List Str} {ev : List ErrD} {w : World} {K : PySem.W.Frag}
theorem SaysE.s (c : SaysE file fa fn ts bx es ev w K) : SaysB fa fn ts bx w K := congrArg (fun z : AlE => z.1) c.q
theorem SaysE.e (c : SaysE file fa fn ts bx es ev w K) (i : Nat) {x : Str} {d : ErrD} (h1 : es[i]? = some x) (h2 : ev[i]? = some d) : errD file K x = d := by
  have h : es.map (errD file K) = ev := congrArg (fun z : AlE => z.2) c.q
  rw [← h, List.getElem?_map, h1] at h2
  exact Option.some.inj h2
end
end HG

set_option maxHeartbeats 4000000
/-! HP: defs and methods that may raise; raise of an own error without fields; isinstance of the caught one. -/
namespace HG
open PySem PySem.Spec PyProof.Rows L2 PySem.ErrX
section
variable {P : Program} {w : World} {K : PySem.W.Frag} {mg : Str → Option Value} {base : Heap}
/-- a def that may raise, by its body -/
theorem okX {x qual : Str} {params : Arguments} {body : List Stmt} {scope : Scope} {dvs : List V} {kws : List (Str × V)} {f : Addr} {fd : FuncData} {N ps : List Str} {k : Nat} {sp : Sp}
    (F : FunD K x qual params body scope dvs kws f fd) (S : FnScope N ps scope) (len : ∀ vs H Q E, sp vs H Q E → vs.length = ps.length)
    (hbody : ∀ (cdv : Value) (A : Around) (outer : List Env) (s : Shared) (H : Hp) (vs : List V) (Q : VK) (E : XK), Room k (A.deeper (envOfC qual scope s.heap.objs.size f cdv)) → sp vs H Q E →
      ∃ t, PSs (cxOf (L2.CX P w) P w K mg base N qual scope f cdv A outer s H E) body t ∧ t { nx := fun _ H' => Q .non H', rt := Q } (start N vs) H) : FnOk P w K mg base (L2.CX P w) (k + 1) f fd ps sp := by
  obtain ⟨oc, od, dV, kV, doc, pm, an, cdv, ct, osl, rfl, lk, hcd, _, _⟩ := F.ex
  exact fn_of lk hcd S len fun A outer s H vs Q E hr hsp => hbody cdv A outer s H vs Q E hr hsp
structure CalX (P : Program) (w : World) (K : PySem.W.Frag) (mg : Str → Option Value) (base : Heap) (x : Str) (k : Nat) (ps : List Str) (sp : Sp) : Prop where
  ex : ∃ fd, FnOk P w K mg base (L2.CX P w) k (He.ga K x) fd ps sp ∧ Binds K fd ps []
  gl : mg x = some (.ref (He.ga K x))
  kp : PySem.W.keepIn K (.ref (He.ga K x)) = true
structure MetX (P : Program) (w : World) (K : PySem.W.Frag) (mg : Str → Option Value) (base : Heap) (k : Nat) (C : Addr) (m : Str) (sp : Sp) : Prop where
  ex : ∃ (f : Addr) (fd : FuncData) (ps : List Str), Cls K C ∧ Meth K C m f ∧ FnOk P w K mg base (L2.CX P w) k f fd ps sp ∧ Binds K fd ps []
end
section
variable {X : Cx} {k j : Nat} {C : Addr} {x m : Str} {ps : List Str} {sp : Sp} {E : XK} {W : WX} {p pos apos : Pos} {e o : Expr} {es : List Expr} {ta : TE} {t : TA}
/-- in a body that hands its errors on: W of Takes -/
theorem pe_mtX {pl : Sem Bool} (c : MetX X.prog X.w X.K X.mg X.base k C m sp) (hr : Room j X.A) (hk : k ≤ j) (tk : Takes X (fun cls d _ H => E cls d H)) (he : PE X o ta) (ha : PA X (e :: es) t)
    (hst : starEach (e :: es) X.env = (false, eval e X.env) :: starEach es X.env := by rfl) (hpl : (backTo pos (starEach es X.env)).any (·.1) = false := by rfl)
    (ht : eval (.Call (.Attribute o m apos) (e :: es) [] pos) X.env = (do
      let ov ← eval o X.env
      standAt apos.atName
      let (f, first) ← holding [ov] (getMethod ov m pl)
      callWith pos f first (backTo pos (starEach (e :: es) X.env)) (backToKw pos (keywordEach [] X.env))) := by rfl) :
    PE X (.Call (.Attribute o m apos) (e :: es) [] pos) (tMeth C m sp [] E ta t) := by
  obtain ⟨f, fd, ps, c1, c2, F, b⟩ := c.ex
  exact pe_meth he c1 c2 F (hr.mono hk) b .nil (passes_call tk fun _ _ _ _ h => h) ha hst hpl ht
theorem pe_mt0X {pl : Sem Bool} (c : MetX X.prog X.w X.K X.mg X.base k C m sp) (hr : Room j X.A) (hk : k ≤ j) (tk : Takes X (fun cls d _ H => E cls d H)) (he : PE X o ta)
    (ht : eval (.Call (.Attribute o m apos) [] [] pos) X.env = (do
      let ov ← eval o X.env
      standAt apos.atName
      let (f, first) ← holding [ov] (getMethod ov m pl)
      callWith pos f first (backTo pos (starEach [] X.env)) (backToKw pos (keywordEach [] X.env))) := by rfl) :
    PE X (.Call (.Attribute o m apos) [] [] pos) (tMeth C m sp [] E ta tNil) := by
  obtain ⟨f, fd, ps, c1, c2, F, b⟩ := c.ex
  exact pe_meth0 he c1 c2 F (hr.mono hk) b .nil (passes_call tk fun _ _ _ _ h => h) ht
theorem pe_calX (c : CalX X.prog X.w X.K X.mg X.base x k ps sp) (hr : Room k X.A) (tk : Takes X (fun cls d _ H => E cls d H)) (hg : Gl X x) (ha : PA X (e :: es) t)
    (hdb : (x == ("__debug__" : Str)) = false := by decide)
    (he : starEach (e :: es) X.env = (false, eval e X.env) :: starEach es X.env := by rfl)
    (hpl : (backTo pos (starEach es X.env)).any (·.1) = false := by rfl) : PE X (.Call (.Name x p) (e :: es) [] pos) (tCall sp [] E t) := by
  obtain ⟨fd, F, b⟩ := c.ex
  exact pe_call F hr hg c.gl c.kp b .nil (passes_call tk fun _ _ _ _ h => h) ha hdb he hpl
/-- in a try -/
theorem pe_calS (c : CalX X.prog X.w X.K X.mg X.base x k ps sp) (hr : Room k X.A) (tk : Takes X W) (hg : Gl X x) (ha : PA X (e :: es) t)
    (hdb : (x == ("__debug__" : Str)) = false := by decide)
    (he : starEach (e :: es) X.env = (false, eval e X.env) :: starEach es X.env := by rfl)
    (hpl : (backTo pos (starEach es X.env)).any (·.1) = false := by rfl) : PE X (.Call (.Name x p) (e :: es) [] pos) (tCallS sp (WE W) t) := by
  obtain ⟨fd, F, b⟩ := c.ex
  exact pe_callS F hr hg c.gl c.kp b (fun σ => passAt tk σ) ha hdb he hpl
/-- C() to be raised -/
theorem pmk_err0 {q : Str} {args : Arguments} {body : List Stmt} {scope : Scope} (E : ErrC X.prog X.K X.mg x q args body scope []) (R : ExcC X.K (He.ga X.K x)) (ty : PySem.W.typeIn X.K (.ref (He.ga X.K x)) = some (.type "type")) (hr : Room 1 X.A) (hg : Gl X x)
    (hb : ∀ (e : Value) (doc pm ct : Value) (an : Option Addr) (cda cc : Addr), bindArgs (PySem.W.ksFn "__init__" q args body scope .none .none doc pm an (.ref cda) ct cc) ⟨[e], []⟩ = pure [(("self" : Str), e)])
    (hdb : (x == ("__debug__" : Str)) = false := by decide) :
    PMk X (.Call (.Name x p) [] [] pos) (fun _ H Q => Q (.ref (He.ga X.K x)) none H) := by
  obtain ⟨fI, T⟩ := E.t
  intro pins s σ H Q I h
  refine wpAny_Call_Name_kw (ld_glob I hg E.gl ?_ hdb)
  refine PySem.W.callWith_K0 I.kIn T.kC ?_
  have e0 := I.env0
  obtain ⟨mb, hmb, hbb⟩ := e0.mod.blt
  have bk : ∀ b o, X.base.get? b = some o → s.heap.get? b = some o := fun b o e => (e0.bs b o e).1
  obtain ⟨hp, g, dr, tk, os⟩ := s
  refine err_make (g := g) (d := dr) (os := os) T I.kIn hr (e0.mod.glob.keeps bk) E.sp (hmb.keeps bk) ((hbb _ (by decide)).trans PyProof.Rows.Boot.«super») (e0.mod.nolimit.keeps bk) (us := []) rfl (Nat.zero_le _) hb (fun h' tk' k hat => ?_)
  obtain ⟨L, _, at_⟩ := hat
  have ng : hp.get? (hp.objs.size + 1) = none := by
    cases z : hp.get? (hp.objs.size + 1) with
    | none => rfl
    | some o => exact absurd (Heap.lt_size z) (Nat.not_lt.mpr (Nat.le_succ _))
  rcases at_ with ⟨_, t1, ho⟩ | ⟨hne, _⟩
  · exact ⟨hp.objs.size + 1, _, _, ⟨hp, g, dr, tk, os⟩, H, .ref (He.ga X.K x), none, rfl, I, k, ng, ho, ⟨rfl, rfl⟩, rfl, rfl, I.hok.gone ng, rfl, I.bare, raises_own R.hs ty, h⟩
  · exact absurd rfl hne
def tRaise0 (W : WX) (C : Addr) : TS := fun _ σ H => W (.ref C) none σ H
theorem ps_raise0 {q : Str} {args : Arguments} {body : List Stmt} {scope : Scope} {pos2 : Pos} (hc : X.calm = true) (E : ErrC X.prog X.K X.mg x q args body scope []) (R : ExcC X.K (He.ga X.K x)) (ty : PySem.W.typeIn X.K (.ref (He.ga X.K x)) = some (.type "type")) (hr : Room 1 X.A) (tk : Takes X W) (hg : Gl X x)
    (hb : ∀ (e : Value) (doc pm ct : Value) (an : Option Addr) (cda cc : Addr), bindArgs (PySem.W.ksFn "__init__" q args body scope .none .none doc pm an (.ref cda) ct cc) ⟨[e], []⟩ = pure [(("self" : Str), e)])
    (hdb : (x == ("__debug__" : Str)) = false := by decide) :
    PS X (.Raise (some (.Call (.Name x p) [] [] pos)) none pos2) (tRaise0 W (He.ga X.K x)) := ps_raise hc tk (pmk_err0 E R ty hr hg hb hdb)
end
/-! ### isinstance(e, c), e the exception that the suite holds, without fields -/
def rIsC (K : PySem.W.Frag) (a : Addr) (cls : Value) (d : Option Addr) : List V → Hp → VK → Prop := fun xs H Q => ∃ (D : Addr) (c : V) (u : Value) (b : Bool), cls = .ref D ∧ d = none ∧ ExcC K D ∧ xs = [.ref a, c] ∧ ClsV c u ∧ PySem.W.kitOne K (.ref D) u = some b ∧ Q (.bl b) H
def rIsCT (K : PySem.W.Frag) (a : Addr) (cls : Value) (d : Option Addr) : List V → Hp → VK → Prop := fun xs H Q => ∃ (D tp : Addr) (cs : List V) (us : List Value) (b : Bool), cls = .ref D ∧ d = none ∧ ExcC K D ∧ xs = [.ref a, .ref tp] ∧ H tp = some (.tup cs) ∧ Paired ClsV cs us ∧ PySem.W.kitAny K (.ref D) us = some b ∧ Q (.bl b) H
section
variable {X : Cx} {a : Addr} {oe : Obj} {cls : Value} {d : Option Addr} {pn : List (Addr × Obj)}
theorem suite_at {pins : List (Addr × Obj)} {σ : L2.St} {H : Hp} {s : Shared} {D : Addr} (I : Inv (X.suite a ((a, oe) :: pn)) pins σ H s) (hz : Zc (.ref D) none oe) (hf : ∃ vs, oe.data = .fields vs) : PySem.W.InstAt s.heap a oe D none := by
  obtain ⟨hget, _⟩ := I.pin (a, oe) (List.mem_append.mpr (.inl List.mem_cons_self))
  obtain ⟨vs, hv⟩ := hf
  obtain ⟨oc, od, oda, osl⟩ := oe
  obtain ⟨h1, h2⟩ := hz
  dsimp only at h1 h2 hv
  subst h1 h2 hv
  exact ⟨hget, rfl, rfl, trivial⟩
theorem call_isC (hz : Zc cls d oe) (hf : ∃ vs, oe.data = .fields vs) : CallR (X.suite a ((a, oe) :: pn)) (.builtin "isinstance") (rIsC X.K a cls d) := by
  intro pins s σ H xs us Q I r h
  obtain ⟨D, c, u, b, rfl, rfl, C, rfl, k, e, q⟩ := h
  obtain ⟨u1, u2, rfl, r1, r2⟩ := vals2 r
  cases (show u1 = Value.ref a from r1)
  have e2 := k.eq r2
  subst e2
  exact PySem.W.kia_one (PySem.W.handS_kitx_exc C.hg C.hk C.hs C.hd C.ha C.hn C.ht C.hm) I.kIn (suite_at I hz hf) e (fun z => nomatch z) fun tk => ⟨.bl b, H, I.kept (t' := tk) fun _ _ z => z, rfl, q⟩
theorem call_isCT (hz : Zc cls d oe) (hf : ∃ vs, oe.data = .fields vs) : CallR (X.suite a ((a, oe) :: pn)) (.builtin "isinstance") (rIsCT X.K a cls d) := by
  intro pins s σ H xs us Q I r h
  obtain ⟨D, tp, cs, ws, b, rfl, rfl, C, rfl, hT, k, e, q⟩ := h
  obtain ⟨u1, u2, rfl, r1, r2⟩ := vals2 r
  cases (show u1 = Value.ref a from r1)
  cases (show u2 = Value.ref tp from r2)
  obtain ⟨_, its, rv, o, h1, h2, n, h3⟩ := (show ObjOk X.prog X.w H s.heap tp (.tup cs) from I.hok tp _ hT)
  have e3 := ClsV.all k rv
  subst e3
  obtain ⟨oc, od, dt, sl⟩ := o
  simp only at h2 h3
  subst h2 h3
  exact PySem.W.kia_tup (PySem.W.handS_kitx_exc C.hg C.hk C.hs C.hd C.ha C.hn C.ht C.hm) I.kIn (suite_at I hz hf) h1 e (fun z => nomatch z) fun tk => ⟨.bl b, H, I.kept (t' := tk) fun _ _ z => z, rfl, q⟩
end
end HG

set_option maxHeartbeats 4000000
/-! HN: int(text) up to 4300 digits. -/
namespace HG
open PySem PySem.W PySem.Calls PySem.NumText PyProof.Rows
theorem lim_at {M : Model} {A : Around} {E : Value → Shared → Prop} {s : Shared} {Q : Nat → Shared → Prop} (hL : Looks M s.heap (nsGet cStatics "sys.int_max_str_digits") none) (h : Q 4300 s) : wpAny M A Builtin.intMaxStrDigits Q E s := by
  unfold Builtin.intMaxStrDigits
  exact wpAny_bind (hL.at (wpAny_pure h))
theorem wp_long {M : Model} {A : Around} {E : Value → Shared → Prop} {s : Shared} {Q : Value → Shared → Prop} {v : Value} {text : List Nat} {n : Int}
    (hs : ¬ (text.takeWhile (· != 0)).length ≤ 640) (hL : Looks M s.heap (nsGet cStatics "sys.int_max_str_digits") none)
    (hr : (int_private% "readNumeral") 4300 10 (text.takeWhile (· != 0)) = (int_private% "Numeral.value") n)
    (ha : ((text.takeWhile (· != 0)).length == text.length) = true) (h : Q (.int n s.toks) { s with toks := s.toks + 1 }) :
    wpAny M A ((int_private% "intFromText") v text 10) Q E s := by
  obtain ⟨hp, g, d, tk, os⟩ := s
  repeat (any_goals (first
    | assumption
    | (with_reducible refine wpAny_ite_false (decide_eq_false hs) ?_)
    | (with_reducible refine wpAny_bind (lim_at hL ?_))
    | (with_reducible refine lim_at hL ?_)
    | (with_reducible refine wpAny_ite_true (decide_eq_true ha) ?_)
    | wp_step))
  all_goals (try rw [hr])
  all_goals (try dsimp only)
  repeat (any_goals (first | assumption | (with_reducible refine wpAny_ite_true (decide_eq_true ha) ?_) | wp_step))
structure Keep (p : Prop) : Prop where
  out : p
/-- int(x), x of more than 640 signs; K: the limit was not moved -/
theorem meets_long {K : Frag} {x : PySem.Str} {u : Tok} {n : Int} (hK : nsIn K cStatics "sys.int_max_str_digits" = some none) (hl : ¬ (numSeenOf x).length ≤ 640) (hx : x.length ≤ sizeLine) (hn : PySem.intText? x = some n) :
    Meets (Builtin.«int.__new__» ⟨[.type "int", .str x u], []⟩) (fun _ R s => K.In s.heap ∧ R (.ok (.ret (.int n s.toks))) { s with toks := s.toks + 1 }) :=
  .of_wp fun prog w A R s h => by
    obtain ⟨hp, g, d, tk, os⟩ := s
    obtain ⟨X, h⟩ := h
    have hL : Looks (model prog w) hp (nsGet cStatics "sys.int_max_str_digits") none := looks_nsIn X hK
    have c1 := F.conv_sub_int
    have c2 := F.madeHere_int
    have c3 := KIN.str_int
    have c4 := KIN.str_idx
    have c5 := KIN.str_trunc
    have c6 : typeOf (.str x u) = pure (.type "str") := rfl
    have hr : (int_private% "readNumeral") 4300 10 (numSeenOf x) = (int_private% "Numeral.value") n ∧ ((numSeenOf x).length == (numTextOf x).length) = true := by
      rcases read4300 x hx with ⟨m, h1, h2, h3⟩ | ⟨h1, _⟩
      · rw [hn] at h1
        cases h1
        exact ⟨h3, h2⟩
      · rw [hn] at h1
        cases h1
    have hk := Keep.mk (And.intro hl hr)
    have hL' := Keep.mk hL
    clear hr hl hn hL hx
    repeat (any_goals (first
      | assumption
      | ((with_reducible show wpAny _ _ ((int_private% "intFromText") _ _ _) _ _ _); refine wp_long hk.out.1 hL'.out hk.out.2.1 hk.out.2.2 ?_)
      | wp_step))
    all_goals first | exact ⟨_, rfl, h⟩ | skip
end HG
namespace HG
open PySem PySem.Calls PySem.NumText PySem.Spec PyProof.Rows L2
/-- int(text), digits with at most a sign ahead -/
def rIntS : List V → Hp → VK → Prop := fun xs H Q => ∃ a n, xs = [.str a] ∧ PySem.intText? a = some n ∧ a.length ≤ sizeLine ∧ (∀ c ∈ cp a, c = 45 ∨ (48 ≤ c ∧ c ≤ 57)) ∧ Q (.int n) H
theorem call_int_any {X : Cx} {K : PySem.W.Frag} (hXK : X.K = K) (hK : PySem.W.nsIn K cStatics "sys.int_max_str_digits" = some none) : CallR X (.type "int") rIntS := by
  subst hXK
  intro pins s σ H xs us Q I rs h
  obtain ⟨a, n, rfl, hn, hl, hc, q⟩ := h
  obtain ⟨u, rfl, t, rfl⟩ := vals1 rs
  by_cases hs : a.length ≤ 640
  · exact PySem.W.KIN.call_text hn hs ⟨.int n, H, I.tok _, ⟨_, rfl⟩, q⟩
  · have e := (numText_signs (x := a) hc).2
    refine call_int_1 (meets_long hK (by rw [e]; show ¬ (cp a).length ≤ 640; rw [cp_len]; exact hs) hl hn) ?_
    exact ⟨I.kIn, rfl, .int n, H, I.tok _, ⟨_, rfl⟩, q⟩
end HG

set_option maxHeartbeats 4000000
/-! HT: str.replace wants that a token was made before; rows that see to it. -/
namespace HG
open PySem PySem.Spec PyProof.Rows L2 CwR
def PEa (X : Cx) (e : Expr) (t : TE) : Prop := ∀ (pins : List (Addr × Obj)) (s : Shared) (σ : L2.St) (H : Hp) (Q : VK), Inv X pins σ H s → t σ H Q → wpAny (model X.prog X.w) X.A (eval e X.env) (fun v s1 => 1 ≤ s1.toks ∧ EP X pins σ Q v s1) X.xe s
def PAa (X : Cx) (es : List Expr) (t : TA) : Prop := ∀ (pos : Pos) (pins : List (Addr × Obj)) (s : Shared) (σ : L2.St) (H : Hp) (Q : List V → Hp → Prop), Inv X pins σ H s → t σ H Q → wpAny (model X.prog X.w) X.A (spliced (backTo pos (starEach es X.env))) (fun us s1 => 1 ≤ s1.toks ∧ AP X pins σ Q us s1) X.xe s
def PSa (X : Cx) (st : Stmt) (t : TS) : Prop := ∀ (pins : List (Addr × Obj)) (s : Shared) (σ : L2.St) (H : Hp) (D : Ends), Inv X pins σ H s → t D σ H → wpAny (model X.prog X.w) X.A (exec st X.env) (fun f s1 => 1 ≤ s1.toks ∧ SP X pins D f s1) X.xe s
section
variable {X : Cx} {e : Expr} {es : List Expr} {te : TE} {t : TA} {x : Str} {p pos : Pos} {k : Nat} {ps : List Str} {sp : Sp}
theorem up {α : Type} {m : Sem α} {Q : α → Shared → Prop} {M : Model} {A : Around} {E : Value → Shared → Prop} {s : Shared} (h1 : 1 ≤ s.toks) (h : wpAny M A m Q E s) : wpAny M A m (fun a s' => 1 ≤ s'.toks ∧ Q a s') E s :=
  wpAny_mono (PySem.wpAny_toks_of h1 h) (fun _ _ q => q) (fun _ _ q => q.2)
theorem pea_str {c : Str} {j : Nat} : PEa X (.Constant (.str c) j p) (tC (.str c)) := fun pins s σ H Q I h =>
  Calls.Constant_str ⟨Nat.succ_le_succ (Nat.zero_le _), V.str c, H, I.tok _, ⟨_, rfl⟩, h⟩
theorem paa_last (ha : PEa X e te) (hs : starEach [e] X.env = (false, eval e X.env) :: starEach [] X.env := by rfl) : PAa X [e] (tCons te tNil) := by
  intro pos pins s σ H Q I h
  rw [hs]
  show wpAny _ _ (spliced ((false, eval e X.env) :: backTo pos (starEach [] X.env))) _ _ s
  refine Calls.spliced_cons (thn (ha pins s σ H _ I h) fun u s1 hu => Calls.spliced_nil ?_)
  obtain ⟨h1, v, H1, I1, r1, q1⟩ := hu
  exact ⟨h1, [v], H1, I1, .cons r1 .nil, q1⟩
theorem paa_cons (ha : PE X e te) (hr : PAa X es t) (hs : starEach (e :: es) X.env = (false, eval e X.env) :: starEach es X.env := by rfl) : PAa X (e :: es) (tCons te t) := by
  intro pos pins s σ H Q I h
  rw [hs]
  show wpAny _ _ (spliced ((false, eval e X.env) :: backTo pos (starEach es X.env))) _ _ s
  refine Calls.spliced_cons (thn (ha.run pins s σ H _ I h) fun u s1 hu => ?_)
  obtain ⟨v, H1, I1, r1, q1⟩ := hu
  refine thn (hr pos pins s1 σ H1 _ I1 q1) fun us s2 h2 => ?_
  obtain ⟨h1, xs, H2, I2, r2, q2⟩ := h2
  exact ⟨h1, v :: xs, H2, I2, .cons r1 r2, q2⟩
theorem paa_head (ha : PEa X e te) (hr : PA X es t) (hs : starEach (e :: es) X.env = (false, eval e X.env) :: starEach es X.env := by rfl) : PAa X (e :: es) (tCons te t) := by
  intro pos pins s σ H Q I h
  rw [hs]
  show wpAny _ _ (spliced ((false, eval e X.env) :: backTo pos (starEach es X.env))) _ _ s
  refine Calls.spliced_cons (thn (ha pins s σ H _ I h) fun u s1 hu => ?_)
  obtain ⟨h1, v, H1, I1, r1, q1⟩ := hu
  refine thn (up h1 (hr.run pos pins s1 σ H1 _ I1 q1)) fun us s2 h2 => ?_
  obtain ⟨h3, xs, H2, I2, r2, q2⟩ := h2
  exact ⟨h3, v :: xs, H2, I2, .cons r1 r2, q2⟩
theorem pea_cal (C : Cal X.prog X.w X.K X.mg X.base x k ps sp) (hr : Room k X.A) (hg : Gl X x) (ha : PAa X (e :: es) t)
    (hdb : (x == ("__debug__" : Str)) = false := by decide)
    (he : starEach (e :: es) X.env = (false, eval e X.env) :: starEach es X.env := by rfl)
    (hpl : (backTo pos (starEach es X.env)).any (·.1) = false := by rfl) : PEa X (.Call (.Name x p) (e :: es) [] pos) (tCall sp [] E0 t) := by
  obtain ⟨fd, F, b⟩ := C.ex
  intro pins s σ H Q I h
  refine wpAny_Call_Name_kw (ld_glob I hg C.gl ?_ hdb)
  refine PySem.W.callWith_K (h₀ := X.base) I.ok.mod.kin C.kp (thn (ha pos pins s σ H _ I h) ?_) he hpl
  rintro us s1 ⟨h1, vs, H1, I1, r, q⟩
  exact ⟨I1.kIn, up h1 (run_fn F hr b .nil pass0 I1 r q)⟩
theorem psa_par {i j : Nat} {y : Str} {a b : Expr} {px py pt : Pos} {kt k2 pt2} (hc : X.calm = true) (hN : X.N.Nodup) (hi : X.N[i]? = some x) (hj : X.N[j]? = some y) (hij : i ≠ j)
    (hx : X.env.scope.names.lookup x = some .local) (hy : X.env.scope.names.lookup y = some .local) (ha : PAa X [a, b] t)
    (hw : swappedStores [.Tuple [.Name x px, .Name y py] kt pt] (.Tuple [a, b] k2 pt2) X.env = pure (some [x, y]))
    (hs : swapsWithSole [.Tuple [.Name x px, .Name y py] kt pt] (.Tuple [a, b] k2 pt2) pos.line X.env = pure false := by rfl) :
    PSa X (.Assign [.Tuple [.Name x px, .Name y py] kt pt] (.Tuple [a, b] k2 pt2) pos) (tPar i j t) := by
  intro pins s σ H D I h
  rw [exec_Assign_arm]; refine wpAny_bind (wpAny_standAt ?_)
  rw [hs]; refine wpAny_bind (wpAny_pure ?_)
  rw [if_neg (by decide)]; refine wpAny_bind (Tuple_ (thn (ha _ pins s σ H _ I h) fun us s1 hu => ?_))
  obtain ⟨h1, vs, H1, I1, r1, v, w, e1, q1⟩ := hu
  subst e1
  obtain ⟨u1, u2, rfl, rv, rw'⟩ := vals2 r1
  refine wpAny_newObj_type ?_ (show 2 ≤ sizeLine by decide)
  refine up (show 1 ≤ s1.toks from h1) ?_
  have J := I1.kept (h' := s1.heap.push { cls := .type "tuple", data := .seq [u1, u2].toArray }) (t' := s1.toks) (fun b o z => Heap.get?_push_of_some _ z)
  rw [hw]; refine wpAny_bind (wpAny_pure ?_)
  refine wpAny_bind (wpAny_rule (wpAny_bind (unpackItems_tuple (items := #[u1, u2]) (I.ok.hd hc) (IsTup.new s1.heap _) fun h2 hk => ?_)))
  have J2 := J.kept (h' := h2) (t' := s1.toks) (fun b o z => hk b o (Nat.ne_of_lt (Heap.lt_size z)) z)
  refine wpAny_bind (assignInOrder_cons (wpAny_bindName (store_ok J2 hN hj (.inl hy) rw' (fun s2 J3 => assignInOrder_cons (wpAny_bindName (store_ok J3 hN hi (.inl hx) rv (fun s3 J4 => assignInOrder_nil (wpAny_pure ?_)) (.inr hx)))) (.inr hy))))
  rw [List.set_comm _ _ (Ne.symm hij)] at J4
  exact ⟨_, H1, J4, q1⟩
theorem pssa_cons {st : Stmt} {rest : List Stmt} {a b : TS} (h1 : PSa X st a) (h2 : PSsT X rest b) : PSs X (st :: rest) (tSeq a b) := by
  refine ⟨fun pins s σ H D I h => wpAny_execs_cons (thn (h1 pins s σ H { D with nx := b D } I h) fun f s1 hf => ?_)⟩
  obtain ⟨hk, q⟩ := hf
  cases f with
  | next =>
    obtain ⟨σ', H', I', q⟩ := q
    exact h2 pins s1 σ' H' D hk I' q
  | ret v => exact q
  | brk => exact q
  | cont => exact q
/-- o.replace('c', e + 'z') -/
def tReplA (to : TE) (y : Str) (t1 : TE) (z2 : Str) : TE := fun σ H Q => to σ H fun v H1 => ∃ x, v = .str x ∧ t1 σ H1 fun u H2 => ∃ z, u = .str z ∧ z.length ≠ 0 ∧ x.length + (x.length + 1) * (z ++ z2).length ≤ 16777216 ∧ z.length ≤ 1000 ∧ Q (.str (Txt.replace x y (z ++ z2))) H2
theorem pet_replA {o e1 : Expr} {to t1 : TE} {y z2 : Str} {j k2 : Nat} {c0 c1 c2 apos : Pos} (ho : PE X o to) (h1 : PE X e1 t1) (hy : y.length = 1 := by rfl) (hz2 : z2.length = 1 := by rfl)
    (hst : starEach [.Constant (.str y) j c0, .BinOp e1 .Add (.Constant (.str z2) k2 c1) c2] X.env = [(false, eval (.Constant (.str y) j c0) X.env), (false, eval (.BinOp e1 .Add (.Constant (.str z2) k2 c1) c2) X.env)] := by rfl)
    (hbase : attributeBase o "replace" X.env (eval o X.env) = eval o X.env := by rfl) (hline : (apos.endLine == pos.line) = true := by rfl) :
    PET X (.Call (.Attribute o "replace" apos) [.Constant (.str y) j c0, .BinOp e1 .Add (.Constant (.str z2) k2 c1) c2] [] pos) (tReplA to y t1 z2) := by
  intro pins s σ H Q h0 I h
  refine PySem.Call_method2 hbase hst hline (thn (up h0 (ho.run pins s σ H _ I h)) fun v s1 hv => ?_)
  obtain ⟨hk, v', H1, I1, r1, x, rfl, q⟩ := hv
  obtain ⟨tx, rfl⟩ := r1
  refine ⟨"str", _, PySem.F.plainAttrs_str, PySem.F.slot_str_replace, PySem.F.type_str_replace, typeIs_str _ _ _, (fun _ z => nomatch z), ?_⟩
  refine Calls.callWith_builtin rfl (Calls.evalArgs_plain (Calls.spliced_cons (Calls.Constant_str (Calls.spliced_cons ?_))))
  have I2 := I1.tok (s1.toks + 1)
  refine wpAny_BinOp ?_
  refine wpAny_mono (PySem.wpAny_toks_of (n := s1.toks + 1) (Nat.le_refl _) (h1.run pins _ σ H1 _ I2 q)) (fun u s2 hu => ?_) (fun _ _ z => z.2)
  obtain ⟨hk2, u', H2, I3, r2, z, rfl, hz0, hb, hz1, q2⟩ := hu
  obtain ⟨tz, rfl⟩ := r2
  refine Calls.Constant_str ?_
  refine PySem.P.add_str ?_
  have n1 : (z.length == 0) = false := by simpa using hz0
  have n2 : (z2.length == 0) = false := by rw [hz2]; rfl
  rw [n1, if_neg Bool.false_ne_true, n2, if_neg Bool.false_ne_true]
  have hne : (y == z ++ z2) = false := by
    refine Bool.eq_false_iff.mpr fun w => ?_
    have e := congrArg Str.length (eq_of_beq w)
    rw [Str.length_append] at e
    omega
  refine ⟨?_, Calls.spliced_nil (PySem.SC.replace (show s1.toks ≠ 0 by omega) (show s2.toks + 1 ≠ 0 by omega) (show s1.toks ≠ s2.toks + 1 by omega) hne hb fun t' k => ⟨.str (Txt.replace x y (z ++ z2)), H2, (I3.tok k), ⟨t', rfl⟩, q2⟩)⟩
  rw [Str.length_append]; exact Nat.le_trans (show _ ≤ 1001 by omega) (by decide)
/-- x = e -/
theorem pst_set {i : Nat} {pos' : Pos} (hN : X.N.Nodup) (hi : X.N[i]? = some x) (hx : Loc X.env.scope x) (he : PET X e te)
    (hs : swapsWith e (some (.Name x pos')) pos.line X.env = pure false := by rfl) (hf : X.fn x = true ∨ X.env.scope.names.lookup x = some .local := by first | exact .inl rfl | exact .inr rfl | assumption) :
    PST X (.Assign [.Name x pos'] e pos) (tAsg te (gName i)) := by
  intro pins s σ H D h0 I h
  refine wpAny_Assign_Name (thn (he pins s σ H _ h0 I h) fun v s1 hv => ?_) hs
  obtain ⟨v', H1, I1, r1, q⟩ := hv
  exact store_ok I1 hN hi hx r1 (fun s2 J => ⟨_, H1, J, q⟩) hf
end
end HG

set_option maxHeartbeats 4000000
/-! HV: e[::-1] of a text. -/
namespace HG
open PySem PySem.Spec PyProof.Rows L2
def revT (z : Str) : Str := ⟨((Builtin.Str.strSliceIndices none none (-1) z.length).filterMap (z.cps[·]?)).toArray⟩
def tRevS (te : TE) : TE := fun σ H Q => te σ H fun v H1 => ∃ z, v = .str z ∧ (revT z).length ≤ sizeLine ∧ Q (.str (revT z)) H1
theorem pe_revS {X : Cx} {e : Expr} {te : TE} {k : Nat} {p1 p2 p3 pos : Pos} (he : PE X e te) : PE X (.Subscript e (.Slice none none (some (.UnaryOp .USub (.Constant (.int 1) k p1) p2)) p3) pos) (tRevS te) := by
  refine ⟨fun pins s σ H Q I h => Subscript_ (thn (he.run pins s σ H _ I h) fun v s1 hv => ?_)⟩
  obtain ⟨x, H1, I1, r1, z, rfl, hz, q⟩ := hv
  obtain ⟨t, rfl⟩ := r1
  have st : PO X (some (.UnaryOp .USub (.Constant (.int 1) k p1) p2)) (tPart (tUn (rU fun i => .int (-i)) (tC (.int 1)))) := po_some (pe_un un_neg pe_int)
  refine wpAny_Slice (thn (po_none.run pins s1 σ H1 (fun o H2 => o = none ∧ H2 = H1) I1 ⟨rfl, rfl⟩) fun vl s2 h2 => ?_)
  obtain ⟨l, H2, I2, pl, rfl, rfl⟩ := h2
  refine thn (po_none.run pins s2 σ H2 (fun o H3 => o = none ∧ H3 = H2) I2 ⟨rfl, rfl⟩) fun vu s3 h3 => ?_
  obtain ⟨u, H3, I3, pu, rfl, rfl⟩ := h3
  refine thn (st.run pins s3 σ H3 (fun o H4 => o = some (-1) ∧ H4 = H3) I3 ⟨1, rfl, -1, rfl, rfl, rfl⟩) fun vs s4 h4 => ?_
  obtain ⟨o, H4, I4, ps, rfl, rfl⟩ := h4
  obtain ⟨a, ea, e1⟩ := IsPart.raw pl
  obtain ⟨b, eb, e2⟩ := IsPart.raw pu
  obtain ⟨c, ec, e3⟩ := IsPart.raw ps
  subst ea eb ec
  have J : Inv X pins σ H4 { s4 with heap := s4.heap.push { cls := .type "slice", data := .fields #[partValue a, partValue b, partValue c] } } := I4.kept (t' := s4.toks) (fun _ _ y => Heap.get?_push_of_some _ y)
  show wpAny (model X.prog X.w) X.A (subscriptTail e (.Slice none none (some (.UnaryOp .USub (.Constant (.int 1) k p1) p2)) p3) (.str z t) (.ref s4.heap.objs.size)) (EP X pins σ Q) X.xe _
  refine tail_any (ops := [.str z t, .ref s4.heap.objs.size]) (typeIs_str _ _ _) (F.slot_str_getitem.lookup) ?_ (by with_unfolding_all rfl)
  refine wpAny_getItem_str_slice (l := a) (u := b) (st := c) ?_ ?_ ?_
  · exact ⟨_, Heap.get?_push_size _ rfl, rfl, rfl⟩
  · rw [e3]; rfl
  · unfold sliceMade slicePicked
    rw [e1, e2, e3]
    exact ⟨hz, .str (revT z), H4, J.tok _, ⟨_, rfl⟩, q⟩
theorem rev_ok {m : Nat} {z : Str} (h : OkS m z) (hz : z.length ≤ 2) : OkS 2 (revT z) := by
  refine ⟨?_, fun c hc => ?_⟩
  · show ((Builtin.Str.strSliceIndices none none (-1) z.length).filterMap (z.cps[·]?)).toArray.size ≤ 2
    rw [List.size_toArray]
    refine Nat.le_trans (List.length_filterMap_le _ _) ?_
    generalize z.length = n at hz
    have all : ∀ n : Nat, n ≤ 2 → (Builtin.Str.strSliceIndices none none (-1) n).length ≤ 2 := by decide
    exact all n hz
  · have hc' : c ∈ (Builtin.Str.strSliceIndices none none (-1) z.length).filterMap (z.cps[·]?) := by simpa [cp, revT] using hc
    obtain ⟨i, _, hi⟩ := List.mem_filterMap.mp hc'
    refine h.cps c ?_
    have : (cp z)[i]? = some c := by
      show z.cps.toList[i]? = some c
      rw [Array.getElem?_toList]
      exact hi
    exact List.mem_of_getElem? this
end HG

set_option maxHeartbeats 4000000
/-! HZ: data of any depth beside []; strip of signs. -/
namespace HG
open PySem PySem.Spec PyProof.Rows L2
def rNe0 (K : PySem.W.Frag) : R2 := fun x y H Q => ∃ (ds : List PyData), Dp K H x (.list ds) ∧ PyData.canLayAll0 ds = true ∧ Dp K H y (.list []) ∧ Q (.bl (!decide (ds = []))) H
theorem eqv_nil (ds : List PyData) : PyData.eqv (.list ds) (.list []) = decide (ds = []) := by
  cases ds with
  | nil => simp [PyData.eqv, PyData.eqvAll]
  | cons d ds => simp [PyData.eqv, PyData.eqvAll]
theorem op_ne0 {X : Cx} (hu : X.A.units + 64 < cLine) : OpR X (compareOp .NotEq) (rNe0 X.K) := by
  intro pins s σ H x y v u Q I rx ry h
  obtain ⟨ds, hd, hc, he, q⟩ := h
  obtain ⟨as, r1⟩ := Dp.reads I _ x v hd rx
  obtain ⟨bs, r2⟩ := Dp.reads I _ y u he ry
  have hdep : (PyData.list []).depth ≤ 64 := by simp only [PyData.depth, PyData.depthAll]; omega
  have hm : min (PyData.list ds).depth (PyData.list []).depth ≤ 64 := Nat.le_trans (Nat.min_le_right _ _) hdep
  refine SeqAt.compareNe_reads r1 r2 (by simp only [PyData.canLay0]; exact hc) (by simp only [PyData.canLay0, PyData.canLayAll0]) (by omega) ?_
  rw [eqv_nil]
  exact ⟨.bl _, H, I, rfl, q⟩
/-- strip leaves nothing just where all signs go -/
theorem strip_nil (x y : Str) : (Txt.stripChars x y).length = 0 ↔ (cp x).all (fun c => decide (c ∈ cp y)) = true := by
  have hg : ∀ c : Nat, y.cps.contains c = decide (c ∈ cp y) := fun c => by
    unfold cp
    rw [← Array.contains_toList, List.contains_eq_mem]
  have hx : ∀ k, k < x.length → x.cps.getD k 0 ∈ cp x := fun k hk => by
    have : k < x.cps.size := hk
    unfold cp
    rw [Array.getD_eq_getD_getElem?, Array.getElem?_eq_getElem this]
    exact Array.mem_toList_iff.mpr (Array.getElem_mem this)
  show (Txt.stripBy y.cps.contains true true x).length = 0 ↔ _
  rw [stripBy_eq]
  obtain ⟨l1, l2, l3⟩ := lo_facts y.cps.contains x
  obtain ⟨h1, h2, h3⟩ := hi_facts y.cps.contains x _ l1
  generalize stripLo y.cps.contains true x = lo at *
  generalize stripHi y.cps.contains true x lo = hi at *
  have hl : (Builtin.Str.strSub x lo hi).length = hi - lo := by
    show (x.cps.extract lo hi).size = hi - lo
    rw [Array.size_extract, Nat.min_eq_left (show hi ≤ x.cps.size from h2)]
  rw [hl, List.all_eq_true]
  constructor
  · intro e c hc
    obtain ⟨k, hk⟩ := List.getElem?_of_mem hc
    have hk' : k < x.length := by rw [← cp_len]; exact (List.getElem?_eq_some_iff.mp hk).1
    have e1 : c = x.cps.getD k 0 := by
      unfold cp at hk
      rw [Array.getElem?_toList] at hk
      rw [Array.getD_eq_getD_getElem?, hk]
      rfl
    rw [← hg, e1]
    by_cases q : k < lo
    · exact l2 k q
    · exact h3.1 k (by omega) hk'
  · intro h
    rcases l3 with q | q
    · omega
    · by_cases hlt : lo < x.length
      · have := h _ (hx lo hlt)
        rw [← hg, q] at this
        cases this
      · omega
end HG

set_option maxHeartbeats 4000000
namespace K13
open PySem PySem.Spec PyProof.Rows L2 HG
open TL (numL tl_num numL_digits numL_ne numL_inj numL_val numL_len)
/-! ### ints as codes -/
def numI (i : Int) : List Nat := if i < 0 then 45 :: numL i.natAbs else numL i.natAbs
theorem cp_num (i : Int) : cp (Str.ofString (toString i)) = numI i := by
  unfold numI
  by_cases h : i < 0
  · rw [if_pos h]
    rw [toString_neg h]
    obtain ⟨n, hn⟩ := Int.eq_ofNat_of_zero_le (show 0 ≤ 0 - i by omega)
    rw [hn]
    have e2 : cp (Str.ofString ("-" ++ toString ((n : Nat) : Int))) = 45 :: cp (Str.ofString (toString ((n : Nat) : Int))) := by
      unfold cp
      rw [Str.ofString_eq_toList, Str.ofString_eq_toList, String.toList_append, List.map_append]
      rfl
    rw [e2]
    have e3 : cp (Str.ofString (toString ((n : Nat) : Int))) = numL n := tl_num n
    rw [e3]
    have e4 : i.natAbs = n := by omega
    rw [e4]
  · rw [if_neg h]
    obtain ⟨n, rfl⟩ := Int.eq_ofNat_of_zero_le (Int.not_lt.mp h)
    exact tl_num n
theorem numI_sign (i : Int) : ∀ c ∈ numI i, c = 45 ∨ (48 ≤ c ∧ c ≤ 57) := by
  intro c hc
  unfold numI at hc
  split at hc
  · rcases List.mem_cons.mp hc with rfl | hc
    · exact .inl rfl
    · exact .inr (numL_digits _ c hc)
  · exact .inr (numL_digits _ c hc)
theorem numI_ne (i : Int) : numI i ≠ [] := by
  unfold numI
  split
  · simp
  · exact numL_ne _
theorem numI_inj {i j : Int} (h : numI i = numI j) : i = j := by
  have key : ∀ n m : Nat, numL n ≠ 45 :: numL m := fun n m e => by
    have := numL_digits n 45 (by rw [e]; exact List.mem_cons_self)
    omega
  unfold numI at h
  split at h
  · split at h
    · injection h with _ h
      have := numL_inj h
      omega
    · exact absurd h.symm (key _ _)
  · split at h
    · exact absurd h (key _ _)
    · have := numL_inj h
      omega
/-- up to the first sign that p is not so of -/
theorem cut_at {p : Nat → Bool} {a b r s : List Nat} (ha : ∀ c ∈ a, p c = true) (hb : ∀ c ∈ b, p c = true) (hr : ∀ c, r.head? = some c → p c = false) (hs : ∀ c, s.head? = some c → p c = false)
    (h : a ++ r = b ++ s) : a = b ∧ r = s := by
  induction a generalizing b with
  | nil =>
    cases b with
    | nil => exact ⟨rfl, h⟩
    | cons x b =>
      have h1 : r = x :: (b ++ s) := h
      have := hr x (by rw [h1]; rfl)
      rw [hb x List.mem_cons_self] at this
      cases this
  | cons x a ih =>
    cases b with
    | nil =>
      have h1 : x :: (a ++ r) = s := h
      have := hs x (by rw [← h1]; rfl)
      rw [ha x List.mem_cons_self] at this
      cases this
    | cons y b =>
      have h1 : x :: (a ++ r) = y :: (b ++ s) := h
      injection h1 with e h2
      obtain ⟨e1, e2⟩ := ih (fun c hc => ha c (List.mem_cons_of_mem _ hc)) (fun c hc => hb c (List.mem_cons_of_mem _ hc)) h2
      exact ⟨by rw [e, e1], e2⟩
/-! ### packed -/
mutual
def pk : PyData → List Nat
  | .none => [78]
  | .bool b => if b then [84] else [70]
  | .int i => 105 :: (numI i ++ [59])
  | .str z => 115 :: (numL z.length ++ 58 :: cp z)
  | .tuple ds => 40 :: (pkAll ds ++ [41])
  | .list _ => []
  | .dict _ => []
def pkAll : List PyData → List Nat
  | [] => []
  | d :: ds => pk d ++ pkAll ds
end
/-! ### which values -/
def goodC (c : Nat) : Bool := decide (c = 10) || (decide (32 ≤ c) && decide (c ≤ 126) && !decide (c = 39) && !decide (c = 34) && !decide (c = 92))
mutual
def okD : PyData → Bool
  | .none => true
  | .bool _ => true
  | .int i => decide (i.natAbs < 10 ^ 41)
  | .str z => decide (z.length ≤ 100) && (cp z).all goodC
  | .tuple ds => okAll ds
  | .list _ => false
  | .dict _ => false
def okAll : List PyData → Bool
  | [] => true
  | d :: ds => okD d && okAll ds
end
theorem okAll_mem : ∀ {ds : List PyData}, okAll ds = true ↔ ∀ d ∈ ds, okD d = true
  | [] => by simp [okAll]
  | d :: ds => by
    have ih := okAll_mem (ds := ds)
    simp only [okAll, Bool.and_eq_true, List.mem_cons]
    constructor
    · rintro ⟨a, b⟩ x (rfl | hx)
      · exact a
      · exact ih.mp b x hx
    · intro h
      exact ⟨h d (.inl rfl), ih.mpr fun x hx => h x (.inr hx)⟩
/-- the first sign of a packed value -/
theorem pk_head {d : PyData} (h : okD d = true) : ∃ c r, pk d = c :: r ∧ c ≠ 41 := by
  cases d with
  | none => exact ⟨78, [], rfl, by decide⟩
  | bool b =>
    cases b with
    | true => exact ⟨84, [], rfl, by decide⟩
    | false => exact ⟨70, [], rfl, by decide⟩
  | int i => exact ⟨105, numI i ++ [59], by simp only [pk], by decide⟩
  | str z => exact ⟨115, numL z.length ++ 58 :: cp z, by simp only [pk], by decide⟩
  | tuple ds => exact ⟨40, pkAll ds ++ [41], by simp only [pk], by decide⟩
  | list ds => simp [okD] at h
  | dict ds => simp [okD] at h
mutual
theorem pk_pre : ∀ {d e : PyData} {r s : List Nat}, okD d = true → okD e = true → pk d ++ r = pk e ++ s → d = e ∧ r = s
  | .none, .none, r, s, _, _, h => ⟨rfl, by simpa [pk] using h⟩
  | .bool a, .bool b, r, s, _, _, h => by
    cases a <;> cases b <;> simp [pk] at h
    · exact ⟨rfl, h⟩
    · exact ⟨rfl, h⟩
  | .int i, .int j, r, s, _, _, h => by
    simp only [pk, List.cons_append, List.append_assoc] at h
    injection h with _ h
    obtain ⟨e1, e2⟩ := cut_at (p := fun c => decide (c = 45) || (decide (48 ≤ c) && decide (c ≤ 57))) (fun c hc => by
        have := numI_sign i c hc
        simp only [Bool.or_eq_true, Bool.and_eq_true, decide_eq_true_eq]
        exact this) (fun c hc => by
        have := numI_sign j c hc
        simp only [Bool.or_eq_true, Bool.and_eq_true, decide_eq_true_eq]
        exact this) (fun c hc => by
        have : 59 = c := Option.some.inj hc
        subst this
        rfl) (fun c hc => by
        have : 59 = c := Option.some.inj hc
        subst this
        rfl) h
    injection e2 with _ e2
    exact ⟨by rw [numI_inj e1], e2⟩
  | .str x, .str y, r, s, _, _, h => by
    simp only [pk, List.cons_append, List.append_assoc] at h
    injection h with _ h
    obtain ⟨e1, e2⟩ := cut_at (p := fun c => decide (48 ≤ c) && decide (c ≤ 57)) (fun c hc => by
        have := numL_digits x.length c hc
        simp only [Bool.and_eq_true, decide_eq_true_eq]
        exact this) (fun c hc => by
        have := numL_digits y.length c hc
        simp only [Bool.and_eq_true, decide_eq_true_eq]
        exact this) (fun c hc => by
        have : 58 = c := Option.some.inj hc
        subst this
        rfl) (fun c hc => by
        have : 58 = c := Option.some.inj hc
        subst this
        rfl) h
    injection e2 with _ e2
    have hl := numL_inj e1
    obtain ⟨a, b⟩ := List.append_inj e2 (by rw [cp_len, cp_len]; exact hl)
    exact ⟨by rw [cp_ext a], b⟩
  | .tuple ds, .tuple es, r, s, hd, he, h => by
    simp only [pk, List.cons_append, List.append_assoc] at h
    injection h with _ h
    obtain ⟨a, b⟩ := pkAll_pre (by simpa [okD] using hd) (by simpa [okD] using he) h
    exact ⟨by rw [a], b⟩
  | .none, .bool b, r, s, _, _, h => by cases b <;> simp [pk] at h
  | .none, .int _, r, s, _, _, h => by simp [pk] at h
  | .none, .str _, r, s, _, _, h => by simp [pk] at h
  | .none, .tuple _, r, s, _, _, h => by simp [pk] at h
  | .bool b, .none, r, s, _, _, h => by cases b <;> simp [pk] at h
  | .bool b, .int _, r, s, _, _, h => by cases b <;> simp [pk] at h
  | .bool b, .str _, r, s, _, _, h => by cases b <;> simp [pk] at h
  | .bool b, .tuple _, r, s, _, _, h => by cases b <;> simp [pk] at h
  | .int _, .none, r, s, _, _, h => by simp [pk] at h
  | .int _, .bool b, r, s, _, _, h => by cases b <;> simp [pk] at h
  | .int _, .str _, r, s, _, _, h => by simp [pk] at h
  | .int _, .tuple _, r, s, _, _, h => by simp [pk] at h
  | .str _, .none, r, s, _, _, h => by simp [pk] at h
  | .str _, .bool b, r, s, _, _, h => by cases b <;> simp [pk] at h
  | .str _, .int _, r, s, _, _, h => by simp [pk] at h
  | .str _, .tuple _, r, s, _, _, h => by simp [pk] at h
  | .tuple _, .none, r, s, _, _, h => by simp [pk] at h
  | .tuple _, .bool b, r, s, _, _, h => by cases b <;> simp [pk] at h
  | .tuple _, .int _, r, s, _, _, h => by simp [pk] at h
  | .tuple _, .str _, r, s, _, _, h => by simp [pk] at h
  | .list _, _, r, s, hd, _, _ => by simp [okD] at hd
  | .dict _, _, r, s, hd, _, _ => by simp [okD] at hd
  | .none, .list _, r, s, _, he, _ => by simp [okD] at he
  | .none, .dict _, r, s, _, he, _ => by simp [okD] at he
  | .bool _, .list _, r, s, _, he, _ => by simp [okD] at he
  | .bool _, .dict _, r, s, _, he, _ => by simp [okD] at he
  | .int _, .list _, r, s, _, he, _ => by simp [okD] at he
  | .int _, .dict _, r, s, _, he, _ => by simp [okD] at he
  | .str _, .list _, r, s, _, he, _ => by simp [okD] at he
  | .str _, .dict _, r, s, _, he, _ => by simp [okD] at he
  | .tuple _, .list _, r, s, _, he, _ => by simp [okD] at he
  | .tuple _, .dict _, r, s, _, he, _ => by simp [okD] at he
theorem pkAll_pre : ∀ {ds es : List PyData} {r s : List Nat}, okAll ds = true → okAll es = true → pkAll ds ++ 41 :: r = pkAll es ++ 41 :: s → ds = es ∧ r = s
  | [], [], r, s, _, _, h => by
    simp [pkAll] at h
    exact ⟨rfl, h⟩
  | [], e :: es, r, s, _, he, h => by
    have he' : okD e = true ∧ okAll es = true := by simpa [okAll] using he
    obtain ⟨c, t, e1, e2⟩ := pk_head he'.1
    simp only [pkAll, e1, List.nil_append, List.cons_append] at h
    injection h with h1 _
    exact absurd h1.symm e2
  | d :: ds, [], r, s, hd, _, h => by
    have hd' : okD d = true ∧ okAll ds = true := by simpa [okAll] using hd
    obtain ⟨c, t, e1, e2⟩ := pk_head hd'.1
    simp only [pkAll, e1, List.nil_append, List.cons_append] at h
    injection h with h1 _
    exact absurd h1 e2
  | d :: ds, e :: es, r, s, hd, he, h => by
    have hd' : okD d = true ∧ okAll ds = true := by simpa [okAll] using hd
    have he' : okD e = true ∧ okAll es = true := by simpa [okAll] using he
    simp only [pkAll, List.append_assoc] at h
    obtain ⟨a, b⟩ := pk_pre hd'.1 he'.1 h
    obtain ⟨a2, b2⟩ := pkAll_pre hd'.2 he'.2 b
    exact ⟨by rw [a, a2], b2⟩
end
theorem pk_inj {d e : PyData} (hd : okD d = true) (he : okD e = true) (h : pk d = pk e) : d = e :=
  (pk_pre (r := []) (s := []) hd he (by rw [h])).1
end K13

set_option maxHeartbeats 4000000
namespace K13
open PySem PySem.Spec PyProof.Rows L2 HG
open TL (numL tl_num numL_digits numL_ne numL_inj numL_val numL_len)
theorem getD_cp (z : Str) (v : Nat) : z.cps.getD v 0 = (cp z)[v]?.getD 0 := by
  unfold cp
  rw [Array.getElem?_toList, Array.getD_eq_getD_getElem?]
theorem from_nat {n k : Nat} : PySem.fromIndex n (k : Int) = k := by
  unfold PySem.fromIndex
  rw [if_neg (by omega)]
  omega
/-- find of a sign from a place on -/
theorem find_at {z : Str} {pre a post : List Nat} {c : Nat} (h : cp z = pre ++ (a ++ c :: post)) (ha : ∀ x ∈ a, x ≠ c) : Txt.find3 z ⟨#[c]⟩ (pre.length : Int) = ((pre.length + a.length : Nat) : Int) := by
  have hlen : z.length = pre.length + (a.length + (post.length + 1)) := by
    rw [← cp_len, h, List.length_append, List.length_append, List.length_cons]
  have at1 : z.cps.getD (pre.length + a.length) 0 = c := by
    rw [getD_cp, h, List.getElem?_append_right (by omega), Nat.add_sub_cancel_left, List.getElem?_append_right (Nat.le_refl _), Nat.sub_self]
    rfl
  have before : ∀ v, pre.length ≤ v → v < pre.length + a.length → z.cps.getD v 0 ≠ c := fun v h1 h2 => by
    rw [getD_cp, h, List.getElem?_append_right h1, List.getElem?_append_left (by omega)]
    have hlt : v - pre.length < a.length := by omega
    rw [List.getElem?_eq_getElem hlt]
    exact ha _ (List.getElem_mem hlt)
  rcases StrLaws.find3_spec z c (pre.length : Int) with ⟨_, hn⟩ | ⟨k, h1, h2, h3, h4, h5⟩
  · rw [from_nat] at hn
    exact absurd at1 (hn _ (by omega) (by omega))
  · rw [from_nat] at h2 h5
    rw [h1]
    have : k = pre.length + a.length := by
      rcases Nat.lt_trichotomy k (pre.length + a.length) with q | q | q
      · exact absurd h4 (before k h2 q)
      · exact q
      · exact absurd at1 (h5 _ (by omega) q)
    rw [this]
theorem sIx_at {n k d : Nat} (h : k ≤ n) : HT.sIx n d (some (k : Int)) = k := by
  rw [HT.sIx_nat, Nat.min_eq_left h]
/-- a cut in the middle -/
theorem cut_mid {z : Str} {pre a post : List Nat} (h : cp z = pre ++ (a ++ post)) : cp (cutS z (some (pre.length : Int)) (some ((pre.length + a.length : Nat) : Int))) = a := by
  have hlen : z.length = pre.length + (a.length + post.length) := by
    rw [← cp_len, h, List.length_append, List.length_append]
  have e : cp (cutS z (some (pre.length : Int)) (some ((pre.length + a.length : Nat) : Int))) = ((cp z).drop pre.length).take (pre.length + a.length - pre.length) := by
    unfold cutS
    rw [sIx_at (by omega), sIx_at (by omega)]
  rw [e, h, List.drop_left, Nat.add_sub_cancel_left, List.take_left]
/-- the cut of one sign, may be none -/
theorem cut_one {z : Str} {pre post : List Nat} {c : Nat} (h : cp z = pre ++ c :: post) : cutS z (some (pre.length : Int)) (some ((pre.length : Int) + 1)) = ⟨#[c]⟩ := by
  have := cut_mid (z := z) (pre := pre) (a := [c]) (post := post) h
  exact cp_ext this
theorem cut_head {z : Str} {c : Nat} {r : List Nat} (h : cp z = c :: r) : cutS z none (some 1) = ⟨#[c]⟩ := by
  have hlen : z.length = r.length + 1 := by rw [← cp_len, h, List.length_cons]
  have e1 : HT.sIx z.length z.length (some (1 : Int)) = 1 := sIx_at (k := 1) (by omega)
  refine cp_ext ?_
  unfold cutS cp
  rw [HT.sIx_none, e1]
  show ((cp z).drop 0).take (1 - 0) = [c]
  rw [h]
  rfl
theorem cut_tail {z : Str} {c : Nat} {r : List Nat} (h : cp z = c :: r) : cp (cutS z (some 1) none) = r := by
  have hlen : z.length = r.length + 1 := by rw [← cp_len, h, List.length_cons]
  have e1 : HT.sIx z.length 0 (some (1 : Int)) = 1 := sIx_at (k := 1) (by omega)
  unfold cutS cp
  rw [HT.sIx_none, e1]
  show ((cp z).drop 1).take (z.length - 1) = r
  rw [h, hlen]
  simp
/-! ### the digits of a number -/
theorem dv_lt : ∀ (cs : List Nat) (acc : Nat), (∀ c ∈ cs, 48 ≤ c ∧ c ≤ 57) → cs.foldl (fun acc c => acc * 10 + (c - 48)) acc < (acc + 1) * 10 ^ cs.length
  | [], acc, _ => by simp
  | c :: cs, acc, h => by
    have hc := h c List.mem_cons_self
    have ih := dv_lt cs (acc * 10 + (c - 48)) fun x hx => h x (List.mem_cons_of_mem _ hx)
    rw [List.foldl_cons, List.length_cons]
    refine Nat.lt_of_lt_of_le ih ?_
    rw [Nat.pow_succ, Nat.mul_comm (10 ^ cs.length) 10, ← Nat.mul_assoc]
    exact Nat.mul_le_mul_right _ (by omega)
theorem numL_zero : numL 0 = [48] := by decide +kernel
theorem numL_head {n : Nat} {r : List Nat} (h : numL n = 48 :: r) : n = 0 := by
  cases r with
  | nil =>
    have := numL_val n
    rw [h] at this
    rw [← this]
    rfl
  | cons c r =>
    exfalso
    -- the value of 0c.. is that of c.., whose number has fewer digits
    have hv := numL_val n
    have hd := numL_digits n
    rw [h] at hv hd
    have e : NumText.digitsVal (48 :: c :: r) = NumText.digitsVal (c :: r) := rfl
    have hlt : NumText.digitsVal (c :: r) < 10 ^ (c :: r).length := by
      have := dv_lt (c :: r) 0 fun x hx => hd x (List.mem_cons_of_mem _ hx)
      rw [Nat.zero_add, Nat.one_mul] at this
      exact this
    have hl := numL_len (n := n) (k := (c :: r).length) (by simp) (by rw [← hv, e]; exact hlt)
    rw [h] at hl
    simp at hl
    omega
theorem int_text {z : Str} {i : Int} (h : cp z = numI i) (hl : z.length ≤ 4300) : PySem.intText? z = some i := by
  unfold numI at h
  split at h
  · rename_i hi
    have e := intText_neg (x := z) (cs := numL i.natAbs) h (numL_digits _) (numL_ne _) hl
    rw [numL_val] at e
    rw [e]
    congr 1
    omega
  · rename_i hi
    have e := intText_digits (x := z) (by rw [show z.cps.toList = numL i.natAbs from h]; exact numL_digits _) (by rw [show z.cps.toList = numL i.natAbs from h]; exact numL_ne _) hl
    rw [show z.cps.toList = numL i.natAbs from h, numL_val] at e
    rw [e]
    congr 1
    omega
end K13

set_option maxHeartbeats 4000000
/-! P14: reading packed texts, two ways: by descent (Val) and by a pile (Mrun); they agree. -/
namespace P14
open PySem
def digit (c : Nat) : Bool := decide (48 ≤ c) && decide (c ≤ 57)
def fnd (e : Nat) : List Nat → Option Nat
  | [] => none
  | c :: r => if c = e then some 0 else (fnd e r).map (· + 1)
theorem fnd_some {e : Nat} : ∀ {l : List Nat} {j : Nat}, fnd e l = some j → l[j]? = some e ∧ ∀ v, v < j → l[v]? ≠ some e
  | [], j, h => by simp [fnd] at h
  | c :: r, j, h => by
    unfold fnd at h
    split at h
    · rename_i hc
      cases h
      exact ⟨by simp [hc], fun v hv => absurd hv (by omega)⟩
    · rename_i hc
      cases hr : fnd e r with
      | none => rw [hr] at h; cases h
      | some i =>
        rw [hr] at h
        cases h
        have ih := fnd_some hr
        refine ⟨by simpa using ih.1, fun v hv => ?_⟩
        cases v with
        | zero => simpa using hc
        | succ v =>
          have hv' : v < i := by have : v + 1 < i + 1 := hv; omega
          simpa using ih.2 v hv'
theorem fnd_none {e : Nat} : ∀ {l : List Nat}, fnd e l = none → ∀ v : Nat, l[v]? ≠ some e
  | [], _, v => by simp
  | c :: r, h, v => by
    unfold fnd at h
    split at h
    · cases h
    · rename_i hc
      cases hr : fnd e r with
      | some i => rw [hr] at h; cases h
      | none =>
        cases v with
        | zero => simpa using hc
        | succ v => simpa using fnd_none hr v
def plainW (w : List Nat) : List Nat := if w.head? = some 45 then w.tail else w
def okW (w : List Nat) : Bool := decide (plainW w ≠ []) && (decide ((plainW w).length ≤ 4300) && ((plainW w).all digit && (decide ((plainW w).head? ≠ some 48) || decide (w = [48]))))
def worth (w : List Nat) : Int := if w.head? = some 45 then -((NumText.digitsVal w.tail : Nat) : Int) else ((NumText.digitsVal w : Nat) : Int)
def num (l : List Nat) (k e : Nat) : Option (Int × Nat) := match fnd e (l.drop k) with
  | none => none
  | some j => if okW ((l.drop k).take j) = true then some (worth ((l.drop k).take j), k + j + 1) else none
theorem num_some {l : List Nat} {k e : Nat} {i : Int} {k' : Nat} (h : num l k e = some (i, k')) : ∃ j, fnd e (l.drop k) = some j ∧ okW ((l.drop k).take j) = true ∧ i = worth ((l.drop k).take j) ∧ k' = k + j + 1 ∧ k' ≤ l.length := by
  unfold num at h
  split at h
  · cases h
  · rename_i j hj
    split at h
    · rename_i hw
      cases h
      have := (fnd_some hj).1
      have hl := (List.getElem?_eq_some_iff.mp this).1
      rw [List.length_drop] at hl
      exact ⟨j, hj, hw, rfl, rfl, by omega⟩
    · cases h
def strv (l : List Nat) (k : Nat) : Option (Str × Nat) := match num l k 58 with
  | none => none
  | some (n, k') => if 0 ≤ n ∧ n ≤ (l.length : Int) - k' then some (⟨((l.drop k').take n.toNat).toArray⟩, k' + n.toNat) else none
def tok (l : List Nat) (k : Nat) : Option (PyData × Nat) :=
  if l[k]? = some 84 then some (.bool true, k + 1)
  else if l[k]? = some 70 then some (.bool false, k + 1)
  else if l[k]? = some 78 then some (.none, k + 1)
  else if l[k]? = some 105 then (num l (k + 1) 59).map fun p => (.int p.1, p.2)
  else if l[k]? = some 115 then (strv l (k + 1)).map fun p => (.str p.1, p.2)
  else none
theorem at_lt {l : List Nat} {k c : Nat} (h : l[k]? = some c) : k < l.length := (List.getElem?_eq_some_iff.mp h).1
/-- the ways of a token -/
inductive Tok (l : List Nat) (k : Nat) : PyData → Nat → Prop
  | t : l[k]? = some 84 → Tok l k (.bool true) (k + 1)
  | f : l[k]? = some 70 → Tok l k (.bool false) (k + 1)
  | n : l[k]? = some 78 → Tok l k .none (k + 1)
  | i {i : Int} {k' : Nat} : l[k]? = some 105 → num l (k + 1) 59 = some (i, k') → Tok l k (.int i) k'
  | s {n : Int} {k' : Nat} : l[k]? = some 115 → num l (k + 1) 58 = some (n, k') → 0 ≤ n → n ≤ (l.length : Int) - k' → Tok l k (.str ⟨((l.drop k').take n.toNat).toArray⟩) (k' + n.toNat)
theorem tok_ways {l : List Nat} {k : Nat} {d : PyData} {k' : Nat} (h : tok l k = some (d, k')) : Tok l k d k' := by
  unfold tok at h
  split at h
  · rename_i c; cases h; exact .t c
  split at h
  · rename_i c; cases h; exact .f c
  split at h
  · rename_i c; cases h; exact .n c
  split at h
  · rename_i c
    cases hn : num l (k + 1) 59 with
    | none => rw [hn] at h; cases h
    | some p =>
      rw [hn] at h
      cases h
      exact .i c hn
  split at h
  · rename_i c
    cases hn : num l (k + 1) 58 with
    | none => unfold strv at h; rw [hn] at h; cases h
    | some p =>
      obtain ⟨n, k1⟩ := p
      unfold strv at h
      rw [hn] at h
      dsimp only at h
      split at h
      · rename_i hh
        cases h
        exact .s c hn hh.1 hh.2
      · cases h
  · cases h
theorem tok_lt {l : List Nat} {k : Nat} {d : PyData} {k' : Nat} (h : tok l k = some (d, k')) : k < k' ∧ k' ≤ l.length := by
  cases tok_ways h with
  | t c => have := at_lt c; omega
  | f c => have := at_lt c; omega
  | n c => have := at_lt c; omega
  | i c hn =>
    obtain ⟨j, _, _, _, e, hl⟩ := num_some hn
    omega
  | s c hn h0 h1 =>
    obtain ⟨j, _, _, _, e, hl⟩ := num_some hn
    omega
theorem tok_at {l : List Nat} {k c : Nat} (h : l[k]? = some c) (h1 : c = 40 ∨ c = 41) : tok l k = none := by
  unfold tok
  rw [h]
  rcases h1 with rfl | rfl <;> simp
mutual
inductive Val (l : List Nat) : Nat → Nat → Option (PyData × Nat) → Prop
  | atom {dep k : Nat} {r : PyData × Nat} : tok l k = some r → Val l dep k (some r)
  | opn {dep k : Nat} {r : Option (PyData × Nat)} : l[k]? = some 40 → dep < 100 → Vals l (dep + 1) (k + 1) [] r → Val l dep k r
  | bad {dep k : Nat} : tok l k = none → ¬ (l[k]? = some 40 ∧ dep < 100) → Val l dep k none
inductive Vals (l : List Nat) : Nat → Nat → List PyData → Option (PyData × Nat) → Prop
  | fin {dep k : Nat} {acc : List PyData} : l[k]? = some 41 → Vals l dep k acc (some (.tuple acc, k + 1))
  | more {dep k : Nat} {acc : List PyData} {d : PyData} {k' : Nat} {r : Option (PyData × Nat)} : l[k]? ≠ some 41 → Val l dep k (some (d, k')) → Vals l dep k' (acc ++ [d]) r → Vals l dep k acc r
  | err {dep k : Nat} {acc : List PyData} : l[k]? ≠ some 41 → Val l dep k none → Vals l dep k acc none
end
def put (top : List PyData) (rest : List (List PyData)) (d : PyData) (k : Nat) : Option (List PyData × List (List PyData) × Nat) :=
  if rest = [] ∧ top ≠ [] then none else some (top ++ [d], rest, k)
def mstep (l : List Nat) (top : List PyData) (rest : List (List PyData)) (k : Nat) : Option (List PyData × List (List PyData) × Nat) :=
  match tok l k with
  | some (d, k') => put top rest d k'
  | none => if l[k]? = some 40 ∧ rest.length < 100 then some ([], top :: rest, k + 1)
    else if l[k]? = some 41 then match rest with
      | [] => none
      | t :: r => put t r (.tuple top) (k + 1)
    else none
inductive Mrun (l : List Nat) : List PyData → List (List PyData) → Nat → List PyData → Prop
  | stop {top : List PyData} {rest : List (List PyData)} {k : Nat} : l.length ≤ k → Mrun l top rest k (if rest = [] then top else [])
  | dead {top : List PyData} {rest : List (List PyData)} {k : Nat} : k < l.length → mstep l top rest k = none → Mrun l top rest k []
  | step {top t' : List PyData} {rest r' : List (List PyData)} {k k' : Nat} {out : List PyData} : k < l.length → mstep l top rest k = some (t', r', k') → Mrun l t' r' k' out → Mrun l top rest k out
theorem mrun_det {l : List Nat} {t : List PyData} {r : List (List PyData)} {k : Nat} {a b : List PyData} (h : Mrun l t r k a) (g : Mrun l t r k b) : a = b := by
  induction h with
  | stop h1 =>
    cases g with
    | stop _ => rfl
    | dead h2 _ => omega
    | step h2 _ _ => omega
  | dead h1 e1 =>
    cases g with
    | stop h2 => omega
    | dead _ _ => rfl
    | step _ e2 _ => rw [e1] at e2; cases e2
  | step h1 e1 _ ih =>
    cases g with
    | stop h2 => omega
    | dead _ e2 => rw [e1] at e2; cases e2
    | step _ e2 g2 =>
      rw [e1] at e2
      cases e2
      exact ih g2
theorem put_some {top t' : List PyData} {rest r' : List (List PyData)} {d : PyData} {k k' : Nat} (h : put top rest d k = some (t', r', k')) : ¬ (rest = [] ∧ top ≠ []) ∧ t' = top ++ [d] ∧ r' = rest ∧ k' = k := by
  unfold put at h
  split at h
  · cases h
  · rename_i hh
    cases h
    exact ⟨hh, rfl, rfl, rfl⟩
theorem mstep_lt {l : List Nat} {top t' : List PyData} {rest r' : List (List PyData)} {k k' : Nat} (h : mstep l top rest k = some (t', r', k')) : k < k' := by
  unfold mstep at h
  split at h
  · rename_i d k1 ht
    have := (put_some h).2.2.2
    have := (tok_lt ht).1
    omega
  · split at h
    · cases h; omega
    · split at h
      · split at h
        · cases h
        · have := (put_some h).2.2.2
          omega
      · cases h
theorem mrun_ex (l : List Nat) : ∀ (n : Nat) (t : List PyData) (r : List (List PyData)) (k : Nat), l.length - k ≤ n → ∃ out, Mrun l t r k out
  | 0, t, r, k, h => ⟨_, .stop (by omega)⟩
  | n + 1, t, r, k, h => by
    by_cases hk : l.length ≤ k
    · exact ⟨_, .stop hk⟩
    · cases e : mstep l t r k with
      | none => exact ⟨_, .dead (by omega) e⟩
      | some p =>
        obtain ⟨t', r', k'⟩ := p
        have := mstep_lt e
        obtain ⟨out, ho⟩ := mrun_ex l n t' r' k' (by omega)
        exact ⟨out, .step (by omega) e ho⟩
def Goes (l : List Nat) (top : List PyData) (rest : List (List PyData)) (k : Nat) (top' : List PyData) (rest' : List (List PyData)) : Option (PyData × Nat) → Prop
  | some (d, k') => ∀ out, Mrun l (top' ++ [d]) rest' k' out → Mrun l top rest k out
  | none => Mrun l top rest k []
mutual
theorem val_run {l : List Nat} : ∀ {dep k : Nat} {res : Option (PyData × Nat)}, Val l dep k res → ∀ (top : List PyData) (rest : List (List PyData)), rest.length = dep → (rest = [] → top = []) → (rest ≠ [] → l[k]? ≠ some 41) → Goes l top rest k top rest res
  | dep, k, _, .atom (r := (d, k')) ht, top, rest, hd, h0, h1 => fun out ho => by
    have hk := (tok_lt ht)
    refine .step (k' := k') (by omega) ?_ ho
    unfold mstep
    rw [ht]
    show put top rest d k' = _
    unfold put
    rw [if_neg (fun h => h.2 (h0 h.1))]
  | dep, k, _, .opn hc hlt hv, top, rest, hd, h0, h1 => by
    have e : mstep l top rest k = some ([], top :: rest, k + 1) := by
      unfold mstep
      rw [tok_at hc (.inl rfl)]
      dsimp only
      rw [if_pos ⟨hc, by omega⟩]
    have ih := vals_run hv top rest (by omega) h0
    revert ih
    rename_i r
    intro ih
    cases r with
    | none => exact .step (at_lt hc) e ih
    | some p => exact fun out ho => .step (at_lt hc) e (ih out ho)
  | dep, k, _, .bad ht hn, top, rest, hd, h0, h1 => by
    show Mrun l top rest k []
    by_cases hk : l.length ≤ k
    · cases rest with
      | nil => 
        rw [h0 rfl]
        exact .stop (rest := []) hk
      | cons t r => exact .stop (rest := t :: r) hk
    · refine .dead (by omega) ?_
      unfold mstep
      rw [ht]
      dsimp only
      rw [hd, if_neg hn]
      split
      · rename_i hc
        cases rest with
        | nil => rfl
        | cons t r => exact absurd hc (h1 (by simp))
      · rfl
theorem vals_run {l : List Nat} : ∀ {dep k : Nat} {acc : List PyData} {res : Option (PyData × Nat)}, Vals l dep k acc res → ∀ (top : List PyData) (rest : List (List PyData)), rest.length + 1 = dep → (rest = [] → top = []) → Goes l acc (top :: rest) k top rest res
  | dep, k, acc, _, .fin hc, top, rest, hd, h0 => fun out ho => by
    refine .step (at_lt hc) ?_ ho
    unfold mstep
    rw [tok_at hc (.inr rfl)]
    dsimp only
    rw [if_neg (fun h => by rw [hc] at h; cases h.1), if_pos hc]
    unfold put
    rw [if_neg (fun h => h.2 (h0 h.1))]
  | dep, k, acc, some (_, _), .more hc hv hr, top, rest, hd, h0 => fun out ho => by
    have h1 := val_run hv acc (top :: rest) (by simpa using hd) (by simp) (fun _ => hc)
    have h2 := vals_run hr top rest hd h0
    exact h1 out (h2 out ho)
  | dep, k, acc, none, .more hc hv hr, top, rest, hd, h0 => by
    have h1 := val_run hv acc (top :: rest) (by simpa using hd) (by simp) (fun _ => hc)
    have h2 := vals_run hr top rest hd h0
    exact h1 [] h2
  | dep, k, acc, _, .err hc hv, top, rest, hd, h0 => val_run hv acc (top :: rest) (by simpa using hd) (by simp) (fun _ => hc)
end
def bot : List PyData → List (List PyData) → List PyData
  | t, [] => t
  | _, x :: r => bot x r
theorem bot_cons {t u : List PyData} {r : List (List PyData)} (h : r ≠ []) : bot t r = bot u r := by
  cases r with
  | nil => exact absurd rfl h
  | cons x r => rfl
theorem full_bad {l : List Nat} {t : List PyData} {r : List (List PyData)} {k : Nat} {out : List PyData} (h : Mrun l t r k out) : bot t r ≠ [] → (r ≠ [] ∨ k < l.length) → out = [] := by
  induction h with
  | stop h1 =>
    intro _ h2
    rcases h2 with h2 | h2
    · rw [if_neg h2]
    · omega
  | dead _ _ => intro _ _; rfl
  | @step top t' rest r' k k' out h1 e _ ih =>
    intro hb _
    have key : bot t' r' ≠ [] ∧ r' ≠ [] := by
      unfold mstep at e
      split at e
      · rename_i d k1 ht
        obtain ⟨p1, p2, p3, _⟩ := put_some e
        have hr : rest ≠ [] := fun z => p1 ⟨z, by subst z; exact hb⟩
        subst p2 p3
        exact ⟨by rw [bot_cons (u := top) hr]; exact hb, hr⟩
      · split at e
        · cases e
          exact ⟨hb, by simp⟩
        · split at e
          · cases rest with
            | nil => cases e
            | cons t r =>
              obtain ⟨p1, p2, p3, _⟩ := put_some e
              have hb' : bot t r ≠ [] := hb
              have hr : r ≠ [] := fun z => p1 ⟨z, by subst z; exact hb'⟩
              subst p2 p3
              exact ⟨by rw [bot_cons (u := t) hr]; exact hb', hr⟩
          · cases e
    exact ih key.1 (.inl key.2)
theorem vals_le {l : List Nat} : ∀ {dep k : Nat} {acc : List PyData} {r : Option (PyData × Nat)}, Vals l dep k acc r → ∀ (d : PyData) (k' : Nat), r = some (d, k') → k' ≤ l.length
  | _, _, _, _, .fin hc, _, _, e => by
    have := at_lt hc
    cases e
    omega
  | _, _, _, _, .more _ _ h, _, _, e => vals_le h _ _ e
  | _, _, _, _, .err _ _, _, _, e => by cases e
theorem read_is {l : List Nat} {r : Option (PyData × Nat)} {out : List PyData} (hv : Val l 0 0 r) (hm : Mrun l [] [] 0 out) :
    out = match r with | some (d, k) => if k = l.length then [d] else [] | none => [] := by
  have h := val_run hv [] [] rfl (fun _ => rfl) (fun z => absurd rfl z)
  cases r with
  | none => exact mrun_det hm h
  | some p =>
    obtain ⟨d, k⟩ := p
    have h : ∀ out, Mrun l [d] [] k out → Mrun l [] [] 0 out := h
    dsimp only
    obtain ⟨o, ho⟩ := mrun_ex l _ [d] [] k (Nat.le_refl _)
    have e := mrun_det hm (h o ho)
    subst e
    split
    · rename_i hk
      have s : Mrun l [d] [] k (if ([] : List (List PyData)) = [] then [d] else []) := .stop (by omega)
      exact mrun_det ho s
    · rename_i hk
      by_cases h1 : k < l.length
      · exact full_bad ho (by simp [bot]) (.inr h1)
      · exfalso
        have : k ≤ l.length := by
          cases hv with
          | atom ht => exact (tok_lt ht).2
          | opn h1 h2 h3 => exact vals_le h3 _ _ rfl
        omega
end P14

set_option maxHeartbeats 4000000
set_option exponentiation.threshold 2000
namespace P14
open PySem HG
open K13 (numI cp_num dv_lt)
open TL (numL numL_len)
/-! ### no lists, no dicts -/
mutual
def noL : PyData → Bool
  | .none => true
  | .bool _ => true
  | .int _ => true
  | .str _ => true
  | .tuple ds => noAll ds
  | .list _ => false
  | .dict _ => false
def noAll : List PyData → Bool
  | [] => true
  | d :: ds => noL d && noAll ds
end
theorem noAll_mem : ∀ {ds : List PyData}, noAll ds = true ↔ ∀ d ∈ ds, noL d = true
  | [] => by simp [noAll]
  | d :: ds => by
    simp only [noAll, Bool.and_eq_true, noAll_mem (ds := ds), List.mem_cons]
    constructor
    · rintro ⟨a, b⟩ x (rfl | hx)
      · exact a
      · exact b x hx
    · exact fun h => ⟨h d (.inl rfl), fun x hx => h x (.inr hx)⟩
theorem noAll_app {a b : List PyData} (ha : noAll a = true) (hb : noAll b = true) : noAll (a ++ b) = true := by
  rw [noAll_mem] at *
  intro d hd
  rcases List.mem_append.mp hd with h | h
  · exact ha d h
  · exact hb d h
/-! ### runs of digits -/
def Runs (R : Nat) (l : List Nat) : Prop := ∀ p w s, l = p ++ (w ++ s) → (∀ c ∈ w, digit c = true) → w.length ≤ R
theorem Runs.up {R S : Nat} {l : List Nat} (h : Runs R l) (hs : R ≤ S) : Runs S l := fun p w s e hw => Nat.le_trans (h p w s e hw) hs
theorem Runs.len {R : Nat} {l : List Nat} (h : l.length ≤ R) : Runs R l := fun p w s e _ => by
  rw [e, List.length_append, List.length_append] at h
  omega
theorem Runs.part {R : Nat} {a b c : List Nat} (h : Runs R (a ++ (b ++ c))) : Runs R b := fun p w s e hw => by
  refine h (a ++ p) w (s ++ c) ?_ hw
  rw [e]
  simp
theorem Runs.take {R n : Nat} {l : List Nat} (h : Runs R l) : Runs R (l.take n) := by
  have e : l = [] ++ (l.take n ++ l.drop n) := by simp
  rw [e] at h
  exact h.part
theorem Runs.drop {R n : Nat} {l : List Nat} (h : Runs R l) : Runs R (l.drop n) := by
  have e : l = l.take n ++ (l.drop n ++ []) := by simp
  rw [e] at h
  exact h.part
theorem Runs.app {R S : Nat} {a b : List Nat} (ha : Runs R a) (hb : Runs S b) : Runs (R + S) (a ++ b) := fun p w s e hw => by
  have e1 : (a ++ b).take a.length = a := by simp
  have e2 : (a ++ b).drop a.length = b := by simp
  -- the part of w in a, the part in b
  have w1 : (w.take (a.length - p.length)).length ≤ R := by
    refine ha (p.take a.length) (w.take (a.length - p.length)) (s.take (a.length - p.length - w.length)) ?_ fun c hc => hw c (List.mem_of_mem_take hc)
    have h3 : a = (p ++ (w ++ s)).take a.length := by rw [← e, e1]
    exact h3.trans (by rw [List.take_append, List.take_append])
  have w2 : (w.drop (a.length - p.length)).length ≤ S := by
    refine hb (p.drop a.length) (w.drop (a.length - p.length)) (s.drop (a.length - p.length - w.length)) ?_ fun c hc => hw c (List.mem_of_mem_drop hc)
    have h3 : b = (p ++ (w ++ s)).drop a.length := by rw [← e, e2]
    exact h3.trans (by rw [List.drop_append, List.drop_append])
  rw [List.length_take] at w1
  rw [List.length_drop] at w2
  omega
/-- a sign that is no digit parts the runs -/
theorem Runs.cons {R c : Nat} {l : List Nat} (h : Runs R l) (hc : digit c = false) : Runs R (c :: l) := fun p w s e hw => by
  cases p with
  | nil =>
    cases w with
    | nil => exact Nat.zero_le _
    | cons x w =>
      simp at e
      have := hw x List.mem_cons_self
      rw [← e.1, hc] at this
      cases this
  | cons y p =>
    simp at e
    exact h p w s (by simpa using e.2) hw
theorem Runs.nil {R : Nat} : Runs R [] := Runs.len (Nat.zero_le _)
theorem Runs.mid {R : Nat} {a b : List Nat} (ha : Runs R a) (hb : Runs R b) (h : ∀ c, b.head? = some c → digit c = false) : Runs R (a ++ b) := by
  cases b with
  | nil => simpa using ha
  | cons c b =>
    have hc := h c rfl
    intro p w s e hw
    rcases List.append_eq_append_iff.mp e with ⟨u, e1, e2⟩ | ⟨u, e1, e2⟩
    · -- p is a ++ u
      exact hb u w s e2 hw
    · -- a is p ++ u
      rcases List.append_eq_append_iff.mp e2 with ⟨v, e3, e4⟩ | ⟨v, e3, e4⟩
      · -- u = w ++ v: w lies in a
        exact ha p w v (by rw [e1, e3]) hw
      · -- w = u ++ v, c :: b = v ++ s
        cases v with
        | nil =>
          refine ha p w [] ?_ hw
          rw [e1, e3]
          simp
        | cons x v =>
          exfalso
          simp at e4
          have := hw x (by rw [e3]; simp)
          rw [← e4.1, hc] at this
          cases this
theorem Runs.all {R : Nat} {l w : List Nat} {p s : List Nat} (h : Runs R l) (e : l = p ++ (w ++ s)) (hw : w.all digit = true) : w.length ≤ R := h p w s e fun c hc => List.all_eq_true.mp hw c hc
theorem okW_ways {w : List Nat} (h : okW w = true) : plainW w ≠ [] ∧ (plainW w).length ≤ 4300 ∧ (plainW w).all digit = true ∧ ((plainW w).head? ≠ some 48 ∨ w = [48]) := by
  unfold okW at h
  simp only [Bool.and_eq_true, Bool.or_eq_true, decide_eq_true_eq] at h
  exact h
theorem plain_part (w : List Nat) : ∃ p, w = p ++ plainW w ∧ p.length ≤ 1 := by
  unfold plainW
  split
  · rename_i h
    cases w with
    | nil => cases h
    | cons c r => exact ⟨[c], rfl, Nat.le_refl _⟩
  · exact ⟨[], rfl, Nat.zero_le _⟩
theorem worth_lt {w : List Nat} (h : okW w = true) : (worth w).natAbs < 10 ^ (plainW w).length := by
  obtain ⟨_, _, h3, _⟩ := okW_ways h
  have h4 : ∀ c ∈ plainW w, 48 ≤ c ∧ c ≤ 57 := fun c hc => by
    have := List.all_eq_true.mp h3 c hc
    unfold digit at this
    simpa using this
  have h5 := dv_lt (plainW w) 0 h4
  rw [Nat.zero_add, Nat.one_mul] at h5
  unfold worth
  unfold plainW at h5 ⊢
  split
  · rename_i hh
    rw [if_pos hh] at h5
    rw [Int.natAbs_neg, Int.natAbs_natCast]
    exact h5
  · rename_i hh
    rw [if_neg hh] at h5
    rw [Int.natAbs_natCast]
    exact h5
theorem num_runs {R : Nat} {l : List Nat} {k e : Nat} {i : Int} {k' : Nat} (hr : Runs R l) (h : num l k e = some (i, k')) : i.natAbs < 10 ^ R := by
  obtain ⟨j, hj, hw, rfl, _⟩ := num_some h
  obtain ⟨p, hp, _⟩ := plain_part ((l.drop k).take j)
  have h1 : Runs R ((l.drop k).take j) := hr.drop.take
  have h2 : (plainW ((l.drop k).take j)).length ≤ R := h1.all (p := p) (s := []) (by rw [List.append_nil]; exact hp) (okW_ways hw).2.2.1
  exact Nat.lt_of_lt_of_le (worth_lt hw) (Nat.pow_le_pow_right (by decide) h2)
theorem log_small {i : Int} (h : i.natAbs < 10 ^ 500) : i.natAbs.log2 < 1920 := by
  by_cases h0 : i.natAbs = 0
  · rw [h0]; decide
  · have h1 : 10 ^ 500 < 2 ^ 1700 := by decide +kernel
    have := (Nat.log2_lt h0 (k := 1700)).mpr (Nat.lt_trans h h1)
    omega
/-! ### what is shown -/
def shl (d : PyData) : Nat := d.shown.length
def shs (ds : List PyData) : Nat := (ds.map fun d => shl d + 2).sum
theorem join_len : ∀ zs : List Str, (Str.join ", " zs).length ≤ (zs.map fun z => z.length + 2).sum
  | [] => Nat.zero_le _
  | [z] => by
    show z.length ≤ _
    simp
  | z :: y :: r => by
    have ih := join_len (y :: r)
    show (z ++ ", " ++ Str.join ", " (y :: r)).length ≤ _
    rw [Str.length_append, Str.length_append, List.map_cons, List.sum_cons]
    have : (", " : Str).length = 2 := rfl
    omega
theorem shownAll_sum : ∀ ds : List PyData, ((PyData.shownAll ds).map fun z => z.length + 2).sum = shs ds
  | [] => by simp [PyData.shownAll, shs]
  | d :: ds => by
    have := shownAll_sum ds
    unfold shs at *
    simp only [PyData.shownAll, List.map_cons, List.sum_cons, this]
    rfl
theorem tup_len (ds : List PyData) : shl (.tuple ds) ≤ shs ds + 3 := by
  unfold shl
  simp only [PyData.shown, tupleText]
  have h := join_len (PyData.shownAll ds)
  rw [shownAll_sum] at h
  rw [Str.length_append, Str.length_append]
  have h1 : (("(" : String) : Str).length = 1 := rfl
  split
  · have h2 : ((",)" : String) : Str).length = 2 := rfl
    first | omega | (show 1 + _ + 2 ≤ _; omega)
  · have h2 : ((")" : String) : Str).length = 1 := rfl
    first | omega | (show 1 + _ + 1 ≤ _; omega)
theorem int_len {w : List Nat} (h : okW w = true) : shl (.int (worth w)) ≤ w.length + 1 := by
  have h1 := worth_lt h
  obtain ⟨h2, _⟩ := okW_ways h
  have h3 : 0 < (plainW w).length := List.length_pos_iff.mpr h2
  have h4 := numL_len (n := (worth w).natAbs) (k := (plainW w).length) h3 h1
  have h5 : (numI (worth w)).length ≤ (plainW w).length + 1 := by
    unfold numI
    split
    · rw [List.length_cons]; omega
    · omega
  obtain ⟨p, hp, _⟩ := plain_part w
  have h6 := congrArg List.length hp
  rw [List.length_append] at h6
  have h7 : shl (.int (worth w)) = (numI (worth w)).length := by
    rw [← cp_num, cp_len]
    unfold shl
    simp only [PyData.shown]
  omega
theorem tok_len {l : List Nat} (hl : ∀ c ∈ l, c < 128) {k : Nat} {d : PyData} {k' : Nat} (h : tok l k = some (d, k')) : shl d + 2 ≤ 12 * (k' - k) := by
  have hlt := tok_lt h
  cases tok_ways h with
  | t _ =>
    have : shl (.bool true) = 4 := by unfold shl; simp only [PyData.shown]; rfl
    omega
  | f _ =>
    have : shl (.bool false) = 5 := by unfold shl; simp only [PyData.shown]; rfl
    omega
  | n _ =>
    have : shl .none = 4 := by unfold shl; simp only [PyData.shown]; rfl
    omega
  | i _ hn =>
    obtain ⟨j, hj, hw, rfl, e, _⟩ := num_some hn
    have := int_len hw
    rw [List.length_take] at this
    omega
  | @s n k1 _ hn h0 h1 =>
    obtain ⟨j, hj, hw, _, e, _⟩ := num_some hn
    have h2 := StrLaws.reprText_len (⟨((l.drop k1).take n.toNat).toArray⟩ : Str) (fun c hc => by
      have : c ∈ (l.drop k1).take n.toNat := by simpa using hc
      exact Nat.lt_of_lt_of_le (hl c (List.mem_of_mem_drop (List.mem_of_mem_take this))) (by decide))
    have h3 : (⟨((l.drop k1).take n.toNat).toArray⟩ : Str).length ≤ n.toNat := by
      show ((l.drop k1).take n.toNat).toArray.size ≤ _
      simp
      omega
    have h4 : shl (.str ⟨((l.drop k1).take n.toNat).toArray⟩) = (reprText ⟨((l.drop k1).take n.toNat).toArray⟩).length := by
      unfold shl
      simp only [PyData.shown]
    omega
structure Fact (l : List Nat) (dep k : Nat) (d : PyData) (k' : Nat) : Prop where
  lt : k < k'
  le : k' ≤ l.length
  no : noL d = true
  dp : d.depth + dep ≤ 101
  sh : (∀ c ∈ l, c < 128) → shl d + 2 ≤ 12 * (k' - k)
  ok : Runs 500 l → d.showable = true
structure FactV (l : List Nat) (dep k : Nat) (ds : List PyData) (k' : Nat) : Prop where
  lt : k < k'
  le : k' ≤ l.length
  no : noAll ds = true
  dp : PyData.depthAll ds + dep ≤ 101
  sh : (∀ c ∈ l, c < 128) → shs ds + 12 ≤ 12 * (k' - k)
  ok : Runs 500 l → PyData.showableAll ds = true
mutual
theorem val_fact {l : List Nat} : ∀ {dep k : Nat} {r : Option (PyData × Nat)}, Val l dep k r → dep ≤ 100 → ∀ (d : PyData) (k' : Nat), r = some (d, k') → Fact l dep k d k'
  | dep, k, _, .atom ht, hd, d, k', e => by
    cases e
    have h1 := tok_lt ht
    have h2 : noL d = true ∧ d.depth ≤ 1 ∧ (Runs 500 l → d.showable = true) := by
      cases tok_ways ht with
      | t _ => exact ⟨by simp only [noL], by simp only [PyData.depth]; omega, fun _ => by simp only [PyData.showable]⟩
      | f _ => exact ⟨by simp only [noL], by simp only [PyData.depth]; omega, fun _ => by simp only [PyData.showable]⟩
      | n _ => exact ⟨by simp only [noL], by simp only [PyData.depth]; omega, fun _ => by simp only [PyData.showable]⟩
      | i _ hn => exact ⟨by simp only [noL], by simp only [PyData.depth]; omega, fun hr => by simp only [PyData.showable]; exact decide_eq_true (log_small (num_runs hr hn))⟩
      | s _ _ _ _ => exact ⟨by simp only [noL], by simp only [PyData.depth]; omega, fun _ => by simp only [PyData.showable]⟩
    exact ⟨h1.1, h1.2, h2.1, by omega, fun hl => tok_len hl ht, h2.2.2⟩
  | dep, k, _, .opn hc hlt hv, hd, d, k', e => by
    obtain ⟨ds, rfl, F⟩ := vals_fact hv (by omega) d k' e
    rw [List.nil_append]
    refine ⟨Nat.lt_trans (Nat.lt_succ_self _) F.lt, F.le, by simp only [noL]; exact F.no, ?_, fun hl => ?_, fun hr => by simp only [PyData.showable]; exact F.ok hr⟩
    · have := F.dp
      simp only [PyData.depth]
      omega
    · have h1 := F.sh hl
      have h2 := tup_len ds
      have := F.lt
      omega
  | _, _, _, .bad _ _, _, _, _, e => by cases e
theorem vals_fact {l : List Nat} : ∀ {dep k : Nat} {acc : List PyData} {r : Option (PyData × Nat)}, Vals l dep k acc r → dep ≤ 100 → ∀ (d : PyData) (k' : Nat), r = some (d, k') → ∃ ds, d = .tuple (acc ++ ds) ∧ FactV l dep k ds k'
  | dep, k, acc, _, .fin hc, hd, d, k', e => by
    cases e
    have := at_lt hc
    refine ⟨[], by rw [List.append_nil], by omega, by omega, by simp only [noAll], by simp only [PyData.depthAll]; omega, fun _ => ?_, fun _ => by simp only [PyData.showableAll]⟩
    have : shs [] = 0 := rfl
    omega
  | dep, k, acc, _, .more (d := x) (k' := k1) hc hv hr, hd, d, k', e => by
    have F := val_fact hv hd x k1 rfl
    obtain ⟨ds, rfl, G⟩ := vals_fact hr hd d k' e
    refine ⟨x :: ds, by simp, Nat.lt_trans F.lt G.lt, G.le, by simp only [noAll, F.no, G.no, Bool.and_self], ?_, fun hl => ?_, fun hr => by simp only [PyData.showableAll, F.ok hr, G.ok hr, Bool.and_self]⟩
    · have h1 := F.dp
      have h2 := G.dp
      simp only [PyData.depthAll]
      omega
    · have h1 := F.sh hl
      have h2 := G.sh hl
      have h3 := F.lt
      have h4 := G.lt
      have h5 : shs (x :: ds) = shl x + 2 + shs ds := by
        unfold shs
        rw [List.map_cons, List.sum_cons]
      omega
  | _, _, _, _, .err _ _, _, _, _, e => by cases e
end
end P14

set_option maxHeartbeats 4000000
namespace P14
open PySem HG
open PySem.StrLaws (replL replL_nil replL_hit replL_miss replace_list)
def rp (c a b : Nat) : List Nat → List Nat
  | [] => []
  | x :: r => if x = c then a :: b :: rp c a b r else x :: rp c a b r
theorem rp_is {c a b : Nat} : ∀ l : List Nat, replL [c] [a, b] l = rp c a b l
  | [] => replL_nil
  | x :: r => by
    unfold rp
    split
    · rename_i h
      subst h
      rw [replL_hit (by simp) (by rfl)]
      show [a, b] ++ replL [x] [a, b] r = _
      rw [rp_is r]
      rfl
    · rename_i h
      rw [replL_miss (by simpa using h), rp_is r]
theorem rp_mem {c a b : Nat} : ∀ {l : List Nat} {x : Nat}, x ∈ rp c a b l → x ∈ l ∨ x = a ∨ x = b
  | [], x, h => by simp [rp] at h
  | y :: r, x, h => by
    unfold rp at h
    split at h
    · rcases List.mem_cons.mp h with h | h
      · exact .inr (.inl h)
      rcases List.mem_cons.mp h with h | h
      · exact .inr (.inr h)
      · rcases rp_mem h with h | h
        · exact .inl (List.mem_cons_of_mem _ h)
        · exact .inr h
    · rcases List.mem_cons.mp h with h | h
      · exact .inl (by rw [h]; exact List.mem_cons_self)
      · rcases rp_mem h with h | h
        · exact .inl (List.mem_cons_of_mem _ h)
        · exact .inr h
theorem rp_len {c a b : Nat} : ∀ l : List Nat, (rp c a b l).length ≤ 2 * l.length
  | [] => by simp [rp]
  | y :: r => by
    have := rp_len (c := c) (a := a) (b := b) r
    unfold rp
    split
    · simp only [List.length_cons]; omega
    · simp only [List.length_cons]; omega
theorem rp_pre {c a b : Nat} (hab : digit a = false ∨ digit b = false) : ∀ (l w s : List Nat), rp c a b l = w ++ s → (∀ x ∈ w, digit x = true) → ∃ w0 s0, l = w0 ++ s0 ∧ (∀ x ∈ w0, digit x = true) ∧ w.length ≤ w0.length + 1
  | [], w, s, e, _ => by
    simp [rp] at e
    exact ⟨[], [], rfl, by simp, by simp [e.1]⟩
  | x :: r, w, s, e, hw => by
    unfold rp at e
    split at e
    · refine ⟨[], x :: r, rfl, by simp, ?_⟩
      cases w with
      | nil => simp
      | cons y w =>
        cases w with
        | nil => simp
        | cons y' w =>
          exfalso
          simp at e
          have h1 := hw y (by simp)
          have h2 := hw y' (by simp)
          rw [← e.1] at h1
          rw [← e.2.1] at h2
          rcases hab with h | h
          · rw [h] at h1; cases h1
          · rw [h] at h2; cases h2
    · cases w with
      | nil => exact ⟨[], x :: r, rfl, by simp, by simp⟩
      | cons y w =>
        simp at e
        obtain ⟨w0, s0, e0, h0, hl⟩ := rp_pre hab r w s e.2 fun z hz => hw z (List.mem_cons_of_mem _ hz)
        refine ⟨x :: w0, s0, by rw [e0]; rfl, fun z hz => ?_, by simp only [List.length_cons]; omega⟩
        rcases List.mem_cons.mp hz with rfl | hz
        · rw [e.1]; exact hw y (by simp)
        · exact h0 z hz
theorem rp_runs {c a b : Nat} (hab : digit a = false ∨ digit b = false) {R : Nat} : ∀ l : List Nat, Runs R l → Runs (R + 2) (rp c a b l)
  | [], _ => Runs.len (by simp [rp])
  | x :: r, h => fun p w s e hw => by
    have hr : Runs R r := by
      have := h.drop (n := 1)
      exact this
    have ih := rp_runs (c := c) hab r hr
    have pre : ∀ {l w s : List Nat}, Runs R l → rp c a b l = w ++ s → (∀ x ∈ w, digit x = true) → w.length ≤ R + 1 := fun {l w s} hl e1 h1 => by
      obtain ⟨w0, s0, e0, h0, hh⟩ := rp_pre hab l w s e1 h1
      have := hl [] w0 s0 (by simpa using e0) h0
      omega
    cases p with
    | nil =>
      have := pre (w := w) (s := s) h (by simpa using e) hw
      omega
    | cons y p =>
      unfold rp at e
      split at e
      · simp at e
        cases p with
        | nil =>
          cases w with
          | nil => simp
          | cons z w =>
            simp at e
            have := pre hr e.2.2 fun x hx => hw x (List.mem_cons_of_mem _ hx)
            simp only [List.length_cons]
            omega
        | cons y' p =>
          simp at e
          exact ih p w s (by simpa using e.2.2) hw
      · simp at e
        exact ih p w s (by simpa using e.2) hw
/-- a text with its bounds -/
structure Tx (m R : Nat) (z : Str) : Prop where
  ok : OkS m z
  rn : Runs R (cp z)
theorem Tx.up {m R n S : Nat} {z : Str} (h : Tx m R z) (h1 : m ≤ n) (h2 : R ≤ S) : Tx n S z := ⟨h.ok.up h1, h.rn.up h2⟩
theorem Tx.app {m R n S : Nat} {a b : Str} (h : Tx m R a) (g : Tx n S b) : Tx (m + n) (R + S) (a ++ b) := ⟨h.ok.app g.ok, by rw [cp_app]; exact h.rn.app g.rn⟩
theorem Tx.cut {m R : Nat} {z : Str} (h : Tx m R z) (lo hi : Option Int) : Tx m R (L2.cutS z lo hi) := by
  refine ⟨h.ok.cut lo hi, ?_⟩
  have e : cp (L2.cutS z lo hi) = ((cp z).drop (HT.sIx z.length 0 lo)).take (HT.sIx z.length z.length hi - HT.sIx z.length 0 lo) := by
    unfold L2.cutS cp
    simp
  rw [e]
  exact h.rn.drop.take
theorem Tx.short {m : Nat} {z : Str} (h : OkS m z) : Tx m m z := ⟨h, Runs.len (by rw [cp_len]; exact h.len)⟩
theorem Tx.repl {m R c a b : Nat} {x y z : Str} (h : Tx m R x) (hy : cp y = [c]) (hz : cp z = [a, b]) (ha : a < 128) (hb : b < 128) (hab : digit a = false ∨ digit b = false) : Tx (2 * m) (R + 2) (Txt.replace x y z) := by
  have e : cp (Txt.replace x y z) = rp c a b (cp x) := by
    have hl : 1 ≤ y.length := by rw [← cp_len, hy]; exact Nat.le_refl _
    have := replace_list (x := x) (z := z) hl
    show (Txt.replace x y z).cps.toList = _
    rw [this, show y.cps.toList = [c] from hy, show z.cps.toList = [a, b] from hz]
    exact rp_is _
  refine ⟨⟨?_, fun v hv => ?_⟩, by rw [e]; exact rp_runs hab _ h.rn⟩
  · rw [← cp_len, e]
    have := rp_len (c := c) (a := a) (b := b) (cp x)
    rw [cp_len] at this
    have := h.ok.len
    omega
  · rw [e] at hv
    rcases rp_mem hv with hv | hv | hv
    · exact h.ok.cps v hv
    · omega
    · omega
end P14

set_option maxHeartbeats 4000000
namespace P14
open PySem HG
theorem vals_ex {l : List Nat} {dep : Nat} (hd : dep ≤ 100) (hv : ∀ k, ∃ r, Val l dep k r) : ∀ (m k : Nat) (acc : List PyData), l.length - k ≤ m → ∃ r, Vals l dep k acc r
  | m, k, acc, hm => by
    by_cases hc : l[k]? = some 41
    · exact ⟨_, .fin hc⟩
    obtain ⟨r, h⟩ := hv k
    cases r with
    | none => exact ⟨_, .err hc h⟩
    | some p =>
      obtain ⟨d, k'⟩ := p
      have F := val_fact h hd d k' rfl
      have h1 := F.lt
      have h2 := F.le
      cases m with
      | zero => omega
      | succ m =>
        obtain ⟨r, hr⟩ := vals_ex hd hv m k' (acc ++ [d]) (by omega)
        exact ⟨r, .more hc h hr⟩
theorem val_ex (l : List Nat) : ∀ (n dep k : Nat), dep ≤ 100 → 100 - dep ≤ n → ∃ r, Val l dep k r
  | n, dep, k, hd, hn => by
    cases ht : tok l k with
    | some r => exact ⟨_, .atom ht⟩
    | none =>
      by_cases h : l[k]? = some 40 ∧ dep < 100
      · cases n with
        | zero => omega
        | succ n =>
          obtain ⟨r, hr⟩ := vals_ex (l := l) (dep := dep + 1) (by omega) (fun k => val_ex l n (dep + 1) k (by omega) (by omega)) _ (k + 1) [] (Nat.le_refl _)
          exact ⟨r, .opn h.1 h.2 hr⟩
      · exact ⟨_, .bad ht h⟩
mutual
theorem val_asc {l : List Nat} (hl : ∀ c ∈ l, c < 128) : ∀ {dep k : Nat} {r : Option (PyData × Nat)}, Val l dep k r → ∀ (d : PyData) (k' : Nat), r = some (d, k') → asc d.shown
  | dep, k, _, .atom ht, d, k', e => by
    cases e
    cases tok_ways ht with
    | t _ => simp only [PyData.shown]; unfold asc; decide +kernel
    | f _ => simp only [PyData.shown]; unfold asc; decide +kernel
    | n _ => simp only [PyData.shown]; unfold asc; decide +kernel
    | i _ _ => simp only [PyData.shown]; exact asc_int _
    | s _ _ _ _ =>
      simp only [PyData.shown]
      refine asc_repr fun c hc => hl c ?_
      have hc' := hc
      simp only [cp] at hc'
      exact List.mem_of_mem_drop (List.mem_of_mem_take hc')
  | dep, k, _, .opn _ _ hv, d, k', e => vals_asc hl hv (fun _ h => nomatch h) d k' e
  | _, _, _, .bad _ _, _, _, e => by cases e
theorem vals_asc {l : List Nat} (hl : ∀ c ∈ l, c < 128) : ∀ {dep k : Nat} {acc : List PyData} {r : Option (PyData × Nat)}, Vals l dep k acc r → (∀ x ∈ acc, asc x.shown) → ∀ (d : PyData) (k' : Nat), r = some (d, k') → asc d.shown
  | dep, k, acc, _, .fin _, ha, d, k', e => by
    cases e
    simp only [PyData.shown]
    exact asc_tuple (asc_all ha)
  | dep, k, acc, _, .more _ hv hr, ha, d, k', e => by
    refine vals_asc hl hr (fun x hx => ?_) d k' e
    rcases List.mem_append.mp hx with h | h
    · exact ha x h
    · rw [List.mem_singleton.mp h]
      exact val_asc hl hv _ _ rfl
  | _, _, _, _, .err _ _, _, _, _, e => by cases e
end
/-- what the own reader leaves -/
theorem out_is {l : List Nat} {out : List PyData} (hm : Mrun l [] [] 0 out) : out = [] ∨ ∃ d k, Val l 0 0 (some (d, k)) ∧ out = [d] := by
  obtain ⟨r, hr⟩ := val_ex l 100 0 0 (by omega) (by omega)
  have := read_is hr hm
  cases r with
  | none => exact .inl this
  | some p =>
    obtain ⟨d, k⟩ := p
    dsimp only at this
    split at this
    · exact .inr ⟨d, k, hr, this⟩
    · exact .inl this
end P14

set_option maxHeartbeats 0
namespace K14
open PySem PySem.Spec PyProof.Rows L2 HG
def top (i : Nat) : Stmt := PySem.Challenge.pw_wholeapart_k14_strings_unpacked.main.body.getD i (.Pass ⟨0, 0, 0, 0⟩)
def dd (x : Str) (i : Nat) : He.DefD := ⟨(x, none), x, x, defArgs (top i), defBody (top i), defScope (top i), [], []⟩
def dm (C m q : Str) (i j : Nat) : He.DefD := ⟨(C, some m), m, q, defArgs (inClass (top i) j), defBody (inClass (top i) j), defScope (inClass (top i) j), [], []⟩
def fn : List He.DefD := [dd "unpack" 13, dd "_law_deck" 15, dd "_law_draw" 16, dd "_law_pick" 17, dd "_law_value" 18, dd "_law_packed" 19, dd "_law_bent" 20, dd "_law_number" 21, dd "_law_read" 22, dd "_law_heard" 23, dd "_law_right" 24, dd "law" 25, dm "Unpacker" "__init__" "Unpacker.__init__" 12 0, dm "Unpacker" "need" "Unpacker.need" 12 1, dm "Unpacker" "next_sign" "Unpacker.next_sign" 12 2, dm "Unpacker" "number" "Unpacker.number" 12 3, dm "Unpacker" "string" "Unpacker.string" 12 4, dm "Unpacker" "value" "Unpacker.value" 12 5]
def fa : List He.Fa := [.meth "Unpacker" "need", .meth "Unpacker" "next_sign", .meth "Unpacker" "number", .meth "Unpacker" "string", .meth "Unpacker" "value", .cls "Unpacker", .mkr "Unpacker", .noat "Unpacker" "text", .noat "Unpacker" "at", .str "DIGITS" "0123456789", .int "DEEPEST" 100, .int "LONGEST_NUMBER" 4300, .free "ValueError", .free "all", .free "bool", .free "int", .free "isinstance", .free "len", .free "list", .free "min", .free "range", .free "repr", .free "str", .free "super", .free "tuple", .glo "unpack", .glo "_law_deck", .glo "_law_draw", .glo "_law_pick", .glo "_law_value", .glo "_law_packed", .glo "_law_bent", .glo "_law_number", .glo "_law_read", .glo "_law_heard", .glo "_law_right", .glo "law", .glo "Unpacker", .glo "SIGNS", .glo "InvalidText", .glo "WholeError", .glo "InvalidModule", .glo "InvalidRewrite", .glo "InvalidObject", .glo "InvalidCommand"]
def ts : List He.Tab := [(fun K => He.ga K "SIGNS", ["T", "F", "N"])]
def bx (K : PySem.W.Frag) : Bool := He.valsB K (He.ga K "SIGNS") [("T", .bl true), ("F", .bl false), ("N", .non)] && (decide (PySem.W.nsIn K cStatics "sys.int_max_str_digits" = some none) && (decide (PySem.W.exmOne K (.ref (He.ga K "InvalidText")) (.ref (He.ga K "WholeError")) = some true) && (decide (PySem.W.kitOne K (.ref (He.ga K "InvalidText")) (.ref (He.ga K "InvalidText")) = some true) && (decide (PySem.W.kitOne K (.ref (He.ga K "InvalidText")) (.type "ValueError") = some true) && (decide (PySem.W.kitAny K (.ref (He.ga K "InvalidText")) [.ref (He.ga K "InvalidCommand"), .ref (He.ga K "InvalidModule"), .ref (He.ga K "InvalidObject"), .ref (He.ga K "InvalidRewrite")] = some false) && (errB K "InvalidText" [] && (true)))))))
abbrev R : PySem.W.OpenRow := PySem.W.OpenLaw.row PySem.Challenge.rw_wholeapart_k14_strings_unpacked
abbrev s_InvalidText___init__ : Stmt := inClass (top 2) 0
abbrev file : Str := PySem.Challenge.pw_wholeapart_k14_strings_unpacked.main.file
def es : List Str := ["InvalidText"]
def ev : List ErrD := [some ("InvalidText.__init__", defArgs s_InvalidText___init__, defBody s_InvalidText___init__, defScope s_InvalidText___init__)]
abbrev hk : PySem.W.Hook := hookE 5 file fa fn ts bx es ev
def ob (s : PySem.W.SharedT) : AlE := obsEG 5 file fa fn ts bx es (HandSHeadRun.getT s)
theorem ob_eq (s : PySem.W.SharedT) : ob s = hk.obs s.abs := obsEG_eq (HandSHeadRun.getT_eq s)
def loose : List Str := (["WholeError", "InvalidText", "InvalidModule", "InvalidRewrite", "InvalidObject", "InvalidCommand", "DIGITS", "DEEPEST", "LONGEST_NUMBER", "SIGNS", "Unpacker", "unpack", "_law_deck", "_law_draw", "_law_pick", "_law_value", "_law_packed", "_law_bent", "_law_number", "_law_read", "_law_heard", "_law_right"] : List Str)
theorem runF (w : World) : HandSHeadRun.RunEq R (PySem.W.view R.prog [25]) hk ob 6000 loose (w.withFollow "special-get-raises" false) := by
  intro os
  kernel_rfl
theorem runT (w : World) : HandSHeadRun.RunEq R (PySem.W.view R.prog [25]) hk ob 6000 loose (w.withFollow "special-get-raises" true) := by
  intro os
  kernel_rfl
theorem run (w : World) : HandSHeadRun.RunEq R (PySem.W.view R.prog [25]) hk ob 6000 loose w := PySem.W.byRow2 "special-get-raises" (P := fun w => HandSHeadRun.RunEq R (PySem.W.view R.prog [25]) hk ob 6000 loose w) runF runT w
abbrev FnP (K : PySem.W.Frag) (x : Str) (st : Stmt) : Prop := ∃ fd, FunD K x x (defArgs st) (defBody st) (defScope st) [] [] (He.ga K x) fd
abbrev s_unpack : Stmt := top 13
abbrev N_unpack : List Str := ["text", "unpacker", "value"]
theorem sc_unpack : FnScope N_unpack ["text"] (defScope s_unpack) := ⟨rfl, rfl, rfl, by decide +kernel, rfl, by decide +kernel, by decide +kernel⟩
abbrev s__law_deck : Stmt := top 15
abbrev N__law_deck : List Str := ["_law_script", "_law_cells", "_law_total", "_law_cell"]
theorem sc__law_deck : FnScope N__law_deck ["_law_script"] (defScope s__law_deck) := ⟨rfl, rfl, rfl, by decide +kernel, rfl, by decide +kernel, by decide +kernel⟩
abbrev s__law_draw : Stmt := top 16
abbrev N__law_draw : List Str := ["_law_deck_here", "_law_many", "_law_cell", "_law_made"]
theorem sc__law_draw : FnScope N__law_draw ["_law_deck_here", "_law_many"] (defScope s__law_draw) := ⟨rfl, rfl, rfl, by decide +kernel, rfl, by decide +kernel, by decide +kernel⟩
abbrev s__law_pick : Stmt := top 17
abbrev N__law_pick : List Str := ["_law_deck_here", "_law_items"]
theorem sc__law_pick : FnScope N__law_pick ["_law_deck_here", "_law_items"] (defScope s__law_pick) := ⟨rfl, rfl, rfl, by decide +kernel, rfl, by decide +kernel, by decide +kernel⟩
abbrev s__law_value : Stmt := top 18
abbrev N__law_value : List Str := ["_law_deck_here", "_law_deep", "_law_way", "_law_some", "_law_k"]
theorem sc__law_value : FnScope N__law_value ["_law_deck_here", "_law_deep"] (defScope s__law_value) := ⟨rfl, rfl, rfl, by decide +kernel, rfl, by decide +kernel, by decide +kernel⟩
abbrev s__law_packed : Stmt := top 19
abbrev N__law_packed : List Str := ["_law_value_here", "_law_part"]
theorem sc__law_packed : FnScope N__law_packed ["_law_value_here"] (defScope s__law_packed) := ⟨rfl, rfl, rfl, by decide +kernel, rfl, by decide +kernel, by decide +kernel⟩
abbrev s__law_bent : Stmt := top 20
abbrev N__law_bent : List Str := ["_law_deck_here", "_law_text", "_law_at", "_law_other", "_law_sign", "_law_way", "_law_some"]
theorem sc__law_bent : FnScope N__law_bent ["_law_deck_here", "_law_text"] (defScope s__law_bent) := ⟨rfl, rfl, rfl, by decide +kernel, rfl, by decide +kernel, by decide +kernel⟩
abbrev s__law_number : Stmt := top 21
abbrev N__law_number : List Str := ["_law_text", "_law_at", "_law_end", "_law_last", "_law_word", "_law_plain"]
theorem sc__law_number : FnScope N__law_number ["_law_text", "_law_at", "_law_end"] (defScope s__law_number) := ⟨rfl, rfl, rfl, by decide +kernel, rfl, by decide +kernel, by decide +kernel⟩
abbrev s__law_read : Stmt := top 22
abbrev N__law_read : List Str := ["_law_text", "_law_pile", "_law_at", "_law_sign", "_law_found", "_law_size"]
theorem sc__law_read : FnScope N__law_read ["_law_text"] (defScope s__law_read) := ⟨rfl, rfl, rfl, by decide +kernel, rfl, by decide +kernel, by decide +kernel⟩
abbrev s__law_heard : Stmt := top 23
abbrev N__law_heard : List Str := ["_law_thing", "_law_found", "e", "_law_odd"]
theorem sc__law_heard : FnScope N__law_heard ["_law_thing"] (defScope s__law_heard) := ⟨rfl, rfl, rfl, by decide +kernel, rfl, by decide +kernel, by decide +kernel⟩
abbrev s__law_right : Stmt := top 24
abbrev N__law_right : List Str := ["_law_thing", "_law_due"]
theorem sc__law_right : FnScope N__law_right ["_law_thing"] (defScope s__law_right) := ⟨rfl, rfl, rfl, by decide +kernel, rfl, by decide +kernel, by decide +kernel⟩
abbrev s_law : Stmt := top 25
abbrev N_law : List Str := ["_law_script", "_law_deck_here", "_law_some", "_law_turn", "_law_text", "_law_many", "_law_thing"]
theorem sc_law : FnScope N_law ["_law_script"] (defScope s_law) := ⟨rfl, rfl, rfl, by decide +kernel, rfl, by decide +kernel, by decide +kernel⟩
abbrev s_Unpacker___init__ : Stmt := inClass (top 12) 0
abbrev N_Unpacker___init__ : List Str := ["self", "text"]
theorem sc_Unpacker___init__ : FnScope N_Unpacker___init__ ["self", "text"] (defScope s_Unpacker___init__) := ⟨rfl, rfl, rfl, by decide +kernel, rfl, by decide +kernel, by decide +kernel⟩
abbrev s_Unpacker_need : Stmt := inClass (top 12) 1
abbrev N_Unpacker_need : List Str := ["self", "condition"]
theorem sc_Unpacker_need : FnScope N_Unpacker_need ["self", "condition"] (defScope s_Unpacker_need) := ⟨rfl, rfl, rfl, by decide +kernel, rfl, by decide +kernel, by decide +kernel⟩
abbrev s_Unpacker_next_sign : Stmt := inClass (top 12) 2
abbrev N_Unpacker_next_sign : List Str := ["self"]
theorem sc_Unpacker_next_sign : FnScope N_Unpacker_next_sign ["self"] (defScope s_Unpacker_next_sign) := ⟨rfl, rfl, rfl, by decide +kernel, rfl, by decide +kernel, by decide +kernel⟩
abbrev s_Unpacker_number : Stmt := inClass (top 12) 3
abbrev N_Unpacker_number : List Str := ["self", "end", "last", "digits", "plain", "sign"]
theorem sc_Unpacker_number : FnScope N_Unpacker_number ["self", "end"] (defScope s_Unpacker_number) := ⟨rfl, rfl, rfl, by decide +kernel, rfl, by decide +kernel, by decide +kernel⟩
abbrev s_Unpacker_string : Stmt := inClass (top 12) 4
abbrev N_Unpacker_string : List Str := ["self", "length"]
theorem sc_Unpacker_string : FnScope N_Unpacker_string ["self"] (defScope s_Unpacker_string) := ⟨rfl, rfl, rfl, by decide +kernel, rfl, by decide +kernel, by decide +kernel⟩
abbrev s_Unpacker_value : Stmt := inClass (top 12) 5
abbrev N_Unpacker_value : List Str := ["self", "depth", "sign", "parts"]
theorem sc_Unpacker_value : FnScope N_Unpacker_value ["self", "depth"] (defScope s_Unpacker_value) := ⟨rfl, rfl, rfl, by decide +kernel, rfl, by decide +kernel, by decide +kernel⟩
def gnames : List Str := ["unpack", "_law_deck", "_law_draw", "_law_pick", "_law_value", "_law_packed", "_law_bent", "_law_number", "_law_read", "_law_heard", "_law_right", "law", "Unpacker", "SIGNS", "InvalidText", "WholeError", "InvalidModule", "InvalidRewrite", "InvalidObject", "InvalidCommand"]
structure Txt (w : World) (K : PySem.W.Frag) (mg : Str → Option Value) : Prop where
  d_unpack : FnP K "unpack" s_unpack
  d__law_deck : FnP K "_law_deck" s__law_deck
  d__law_draw : FnP K "_law_draw" s__law_draw
  d__law_pick : FnP K "_law_pick" s__law_pick
  d__law_value : FnP K "_law_value" s__law_value
  d__law_packed : FnP K "_law_packed" s__law_packed
  d__law_bent : FnP K "_law_bent" s__law_bent
  d__law_number : FnP K "_law_number" s__law_number
  d__law_read : FnP K "_law_read" s__law_read
  d__law_heard : FnP K "_law_heard" s__law_heard
  d__law_right : FnP K "_law_right" s__law_right
  d_law : FnP K "law" s_law
  d_Unpacker___init__ : ∃ fd, FunD K "__init__" "Unpacker.__init__" (defArgs s_Unpacker___init__) (defBody s_Unpacker___init__) (defScope s_Unpacker___init__) [] [] (He.ma K (He.ga K "Unpacker") "__init__") fd
  d_Unpacker_need : ∃ fd, FunD K "need" "Unpacker.need" (defArgs s_Unpacker_need) (defBody s_Unpacker_need) (defScope s_Unpacker_need) [] [] (He.ma K (He.ga K "Unpacker") "need") fd
  m_Unpacker_need : Meth K (He.ga K "Unpacker") "need" (He.ma K (He.ga K "Unpacker") "need")
  d_Unpacker_next_sign : ∃ fd, FunD K "next_sign" "Unpacker.next_sign" (defArgs s_Unpacker_next_sign) (defBody s_Unpacker_next_sign) (defScope s_Unpacker_next_sign) [] [] (He.ma K (He.ga K "Unpacker") "next_sign") fd
  m_Unpacker_next_sign : Meth K (He.ga K "Unpacker") "next_sign" (He.ma K (He.ga K "Unpacker") "next_sign")
  d_Unpacker_number : ∃ fd, FunD K "number" "Unpacker.number" (defArgs s_Unpacker_number) (defBody s_Unpacker_number) (defScope s_Unpacker_number) [] [] (He.ma K (He.ga K "Unpacker") "number") fd
  m_Unpacker_number : Meth K (He.ga K "Unpacker") "number" (He.ma K (He.ga K "Unpacker") "number")
  d_Unpacker_string : ∃ fd, FunD K "string" "Unpacker.string" (defArgs s_Unpacker_string) (defBody s_Unpacker_string) (defScope s_Unpacker_string) [] [] (He.ma K (He.ga K "Unpacker") "string") fd
  m_Unpacker_string : Meth K (He.ga K "Unpacker") "string" (He.ma K (He.ga K "Unpacker") "string")
  d_Unpacker_value : ∃ fd, FunD K "value" "Unpacker.value" (defArgs s_Unpacker_value) (defBody s_Unpacker_value) (defScope s_Unpacker_value) [] [] (He.ma K (He.ga K "Unpacker") "value") fd
  m_Unpacker_value : Meth K (He.ga K "Unpacker") "value" (He.ma K (He.ga K "Unpacker") "value")
  cl_Unpacker : Cls K (He.ga K "Unpacker")
  mk_Unpacker : Mk K (He.ga K "Unpacker") (He.ma K (He.ga K "Unpacker") "__init__")
  no_Unpacker_text : NoAttr K (He.ga K "Unpacker") "text"
  no_Unpacker_at : NoAttr K (He.ga K "Unpacker") "at"
  c_DIGITS : ∃ t, mg "DIGITS" = some (.str "0123456789" t)
  c_DEEPEST : ∃ t, mg "DEEPEST" = some (.int 100 t)
  c_LONGEST_NUMBER : ∃ t, mg "LONGEST_NUMBER" = some (.int 4300 t)
  t_SIGNS : KTab K w (He.ga K "SIGNS") [("T", .bl true), ("F", .bl false), ("N", .non)]
  lim : PySem.W.nsIn K cStatics "sys.int_max_str_digits" = some none
  exm : PySem.W.exmOne K (.ref (He.ga K "InvalidText")) (.ref (He.ga K "WholeError")) = some true
  isT : PySem.W.kitOne K (.ref (He.ga K "InvalidText")) (.ref (He.ga K "InvalidText")) = some true
  isV : PySem.W.kitOne K (.ref (He.ga K "InvalidText")) (.type "ValueError") = some true
  isO : PySem.W.kitAny K (.ref (He.ga K "InvalidText")) [.ref (He.ga K "InvalidCommand"), .ref (He.ga K "InvalidModule"), .ref (He.ga K "InvalidObject"), .ref (He.ga K "InvalidRewrite")] = some false
  x_InvalidText : ErrX K "InvalidText" []
  e_InvalidText : ∀ {P : Program}, PrgOk file P → ErrC P K mg "InvalidText" "InvalidText.__init__" (defArgs s_InvalidText___init__) (defBody s_InvalidText___init__) (defScope s_InvalidText___init__) []
  n_ValueError : mg "ValueError" = none
  n_all : mg "all" = none
  n_bool : mg "bool" = none
  n_int : mg "int" = none
  n_isinstance : mg "isinstance" = none
  n_len : mg "len" = none
  n_list : mg "list" = none
  n_min : mg "min" = none
  n_range : mg "range" = none
  n_repr : mg "repr" = none
  n_str : mg "str" = none
  n_super : mg "super" = none
  n_tuple : mg "tuple" = none
  g : ∀ x ∈ gnames, mg x = some (.ref (He.ga K x))
theorem glos {K : PySem.W.Frag} {h : Heap} {mg : Str → Option Value} (X : K.In h) (G : h.Ns mainGlobals mg) : ∀ {l : List Str}, (∀ x ∈ l, (He.Fa.glo x).ok K = true) → ∀ x ∈ l, mg x = some (.ref (He.ga K x)) := fun h x hx => He.glo_ok X G (h x hx)
theorem txt0 {w : World} {K : PySem.W.Frag} {h : Heap} {mg : Str → Option Value} (X : K.In h) (G : h.Ns mainGlobals mg) (c : SaysB fa fn ts bx w K) (c0 : SaysE file fa fn ts bx es ev w K) : Txt w K mg where
  d_unpack := c.d.def_ 0 (d := dd "unpack" 13) rfl
  d__law_deck := c.d.def_ 1 (d := dd "_law_deck" 15) rfl
  d__law_draw := c.d.def_ 2 (d := dd "_law_draw" 16) rfl
  d__law_pick := c.d.def_ 3 (d := dd "_law_pick" 17) rfl
  d__law_value := c.d.def_ 4 (d := dd "_law_value" 18) rfl
  d__law_packed := c.d.def_ 5 (d := dd "_law_packed" 19) rfl
  d__law_bent := c.d.def_ 6 (d := dd "_law_bent" 20) rfl
  d__law_number := c.d.def_ 7 (d := dd "_law_number" 21) rfl
  d__law_read := c.d.def_ 8 (d := dd "_law_read" 22) rfl
  d__law_heard := c.d.def_ 9 (d := dd "_law_heard" 23) rfl
  d__law_right := c.d.def_ 10 (d := dd "_law_right" 24) rfl
  d_law := c.d.def_ 11 (d := dd "law" 25) rfl
  d_Unpacker___init__ := c.d.def_ 12 (d := dm "Unpacker" "__init__" "Unpacker.__init__" 12 0) rfl
  d_Unpacker_need := c.d.def_ 13 (d := dm "Unpacker" "need" "Unpacker.need" 12 1) rfl
  m_Unpacker_need := He.meth_ok (c.d.fact 0 (f := .meth "Unpacker" "need") rfl)
  d_Unpacker_next_sign := c.d.def_ 14 (d := dm "Unpacker" "next_sign" "Unpacker.next_sign" 12 2) rfl
  m_Unpacker_next_sign := He.meth_ok (c.d.fact 1 (f := .meth "Unpacker" "next_sign") rfl)
  d_Unpacker_number := c.d.def_ 15 (d := dm "Unpacker" "number" "Unpacker.number" 12 3) rfl
  m_Unpacker_number := He.meth_ok (c.d.fact 2 (f := .meth "Unpacker" "number") rfl)
  d_Unpacker_string := c.d.def_ 16 (d := dm "Unpacker" "string" "Unpacker.string" 12 4) rfl
  m_Unpacker_string := He.meth_ok (c.d.fact 3 (f := .meth "Unpacker" "string") rfl)
  d_Unpacker_value := c.d.def_ 17 (d := dm "Unpacker" "value" "Unpacker.value" 12 5) rfl
  m_Unpacker_value := He.meth_ok (c.d.fact 4 (f := .meth "Unpacker" "value") rfl)
  cl_Unpacker := He.cls_ok (c.d.fact 5 (f := .cls "Unpacker") rfl)
  mk_Unpacker := He.mkr_ok (c.d.fact 6 (f := .mkr "Unpacker") rfl)
  no_Unpacker_text := He.noat_ok (c.d.fact 7 (f := .noat "Unpacker" "text") rfl)
  no_Unpacker_at := He.noat_ok (c.d.fact 8 (f := .noat "Unpacker" "at") rfl)
  c_DIGITS := He.str_ok X G (c.d.fact 9 (f := .str "DIGITS" "0123456789") rfl)
  c_DEEPEST := He.int_ok X G (c.d.fact 10 (f := .int "DEEPEST" 100) rfl)
  c_LONGEST_NUMBER := He.int_ok X G (c.d.fact 11 (f := .int "LONGEST_NUMBER" 4300) rfl)
  t_SIGNS := ktab_mk c 0 (kvs := [("T", .bl true), ("F", .bl false), ("N", .non)]) rfl rfl (He.ba c.b).1
  lim := of_decide_eq_true (He.ba (He.ba c.b).2).1
  exm := of_decide_eq_true (He.ba (He.ba (He.ba c.b).2).2).1
  isT := of_decide_eq_true (He.ba (He.ba (He.ba (He.ba c.b).2).2).2).1
  isV := of_decide_eq_true (He.ba (He.ba (He.ba (He.ba (He.ba c.b).2).2).2).2).1
  isO := of_decide_eq_true (He.ba (He.ba (He.ba (He.ba (He.ba (He.ba c.b).2).2).2).2).2).1
  x_InvalidText := errX_of (He.ba (He.ba (He.ba (He.ba (He.ba (He.ba (He.ba c.b).2).2).2).2).2).2).1
  e_InvalidText := fun hP => errC_mk hP (c0.e 0 rfl rfl) (He.ba (He.ba (He.ba (He.ba (He.ba (He.ba (He.ba c.b).2).2).2).2).2).2).1 (He.glo_ok X G (c.d.fact 39 (f := .glo "InvalidText") rfl)) (He.free_ok X G (c.d.fact 23 (f := .free "super") rfl)) ⟨_, _, _, _, _, _, _, _, [], rfl, rfl, _, fun _ _ _ _ => rfl⟩ ⟨_, rfl, rfl⟩ rfl rfl rfl rfl rfl (by decide +kernel) (by decide +kernel) ⟨by decide +kernel, by decide +kernel, by decide⟩
  n_ValueError := He.free_ok X G (c.d.fact 12 (f := .free "ValueError") rfl)
  n_all := He.free_ok X G (c.d.fact 13 (f := .free "all") rfl)
  n_bool := He.free_ok X G (c.d.fact 14 (f := .free "bool") rfl)
  n_int := He.free_ok X G (c.d.fact 15 (f := .free "int") rfl)
  n_isinstance := He.free_ok X G (c.d.fact 16 (f := .free "isinstance") rfl)
  n_len := He.free_ok X G (c.d.fact 17 (f := .free "len") rfl)
  n_list := He.free_ok X G (c.d.fact 18 (f := .free "list") rfl)
  n_min := He.free_ok X G (c.d.fact 19 (f := .free "min") rfl)
  n_range := He.free_ok X G (c.d.fact 20 (f := .free "range") rfl)
  n_repr := He.free_ok X G (c.d.fact 21 (f := .free "repr") rfl)
  n_str := He.free_ok X G (c.d.fact 22 (f := .free "str") rfl)
  n_super := He.free_ok X G (c.d.fact 23 (f := .free "super") rfl)
  n_tuple := He.free_ok X G (c.d.fact 24 (f := .free "tuple") rfl)
  g := by
    refine glos X G (l := gnames) ?_
    intro x hx
    obtain ⟨i, hi⟩ := List.getElem?_of_mem hx
    have e : fa[25 + i]? = some (He.Fa.glo x) := by
      have : (gnames.map He.Fa.glo)[i]? = some (He.Fa.glo x) := by rw [List.getElem?_map, hi]; rfl
      have h2 : fa.drop 25 = gnames.map He.Fa.glo := rfl
      rw [← h2, List.getElem?_drop] at this
      exact this
    exact c.d.fact (25 + i) e
theorem txt {w : World} {K : PySem.W.Frag} {h : Heap} {mg : Str → Option Value} (X : K.In h) (G : h.Ns mainGlobals mg) (c : SaysE file fa fn ts bx es ev w K) : Txt w K mg := txt0 X G c.s c
end K14

set_option maxHeartbeats 4000000
namespace K14
open PySem PySem.Spec PyProof.Rows L2 HG K13
/-! ### the deck: a list of three -/
structure Deck (d c : Addr) (n : Nat) (H : Hp) : Prop where
  ex : ∃ (ns : List Int) (m t : Int), H d = some (.lst [.ref c, .int m, .int t]) ∧ H c = some (.lst (ns.map V.int)) ∧ 0 ≤ t ∧ t ≤ n ∧ ns.length ≤ 63
  ne : d ≠ c
theorem Deck.up {d c : Addr} {n m : Nat} {H : Hp} (D : Deck d c n H) (h : n ≤ m) : Deck d c m H := by
  obtain ⟨ns, x, t, h1, h2, h4, h5, h6⟩ := D.ex
  exact ⟨⟨ns, x, t, h1, h2, h4, by omega, h6⟩, D.ne⟩
theorem Deck.upd {d c p : Addr} {n : Nat} {H : Hp} {o : HO} (D : Deck d c n H) (h1 : p ≠ d) (h2 : p ≠ c) : Deck d c n (upd H p o) := by
  obtain ⟨ns, m, t, e1, e2, r⟩ := D.ex
  exact ⟨⟨ns, m, t, by rw [upd_ne h1.symm]; exact e1, by rw [upd_ne h2.symm]; exact e2, r⟩, D.ne⟩
theorem Deck.has {d c p : Addr} {n : Nat} {H : Hp} (D : Deck d c n H) (hp : H p = none) : p ≠ d ∧ p ≠ c := by
  obtain ⟨ns, m, t, e1, e2, r⟩ := D.ex
  exact ⟨(ne_of_none e1 hp).symm, (ne_of_none e2 hp).symm⟩
theorem Deck.new {d c p : Addr} {n : Nat} {H : Hp} {o : HO} (D : Deck d c n H) (hp : H p = none) : Deck d c n (L2.upd H p o) := D.upd (D.has hp).1 (D.has hp).2
section
variable {P : Program} {w : World} {K : PySem.W.Frag} {mg : Str → Option Value} {base : Heap}
/-! ### _law_draw -/
def spDraw : Sp := fun vs H Q _ => ∃ (d c : Addr) (n : Nat) (many : Int), vs = [.ref d, .int many] ∧ 0 < many ∧ many < 10 ^ 40 ∧ n < 2 ^ 60 ∧ Deck d c n H ∧
  ∀ (r : Int) (H' : Hp), 0 ≤ r → r < many → Deck d c (n + 1) H' → Ext d c H H' → Q (.int r) H'
theorem many_small {many : Int} (h0 : 0 < many) (h : many < 10 ^ 40) : many.natAbs < 2 ^ 200 := by
  have e : (10 : Int) ^ 40 < 2 ^ 200 := by decide
  omega
theorem mod_small (x : Int) {m : Int} (h0 : 0 < m) (hm : m < 2 ^ 63) : -(2 ^ 64) < x % m ∧ x % m < 2 ^ 64 := by
  have h1 := Int.emod_nonneg x (show m ≠ 0 by omega)
  have h2 := Int.emod_lt_of_pos x h0
  omega
theorem ok_draw (T : Txt w K mg) : ∃ fd, FnOk P w K mg base CX0 1 (He.ga K "_law_draw") fd ["_law_deck_here", "_law_many"] spDraw ∧ Binds K fd ["_law_deck_here", "_law_many"] [] := by
  obtain ⟨fd, F⟩ := T.d__law_draw
  refine ⟨fd, F.ok sc__law_draw (fun vs H Q E h => ?_) (fun cdv A outer s H vs Q E hr h => ?_), F.bindsN fun _ _ _ _ _ _ us hl => match us, hl with | [_, _], _ => rfl⟩
  · obtain ⟨d, c, n, many, rfl, _⟩ := h
    rfl
  obtain ⟨d, c, n, many, rfl, hm0, hm1, hn, D, q⟩ := h
  obtain ⟨ns, m, t, hd, hc, ht, htn, hns⟩ := D.ex
  have ndc := D.ne
  refine ⟨_, PSs.nox (pss_cons (ps_asg (pe_op op_add (pe_ix ix_list (pv 0) pe_int (fun _ _ => rfl)) pe_int) (pg_sub (pv 0) pe_int set_list))
      (pss_cons (ps_set (i := 2) sc__law_draw.nd rfl (.inl rfl) (pe_ix ix_list (pv 0) pe_int (fun _ _ => rfl)))
      (pss_cons (ps_if (pt_cmpR (op_neD hr.units) (pe_ix ix_list (pv 0) pe_int (fun _ _ => rfl)) (pe_lst pa_nil) (nomark _)) (pss_cons (ps_set (i := 2) sc__law_draw.nd rfl (.inl rfl) (pe_bm0 PySem.F.plainAttrs_list PySem.F.slot_list_pop PySem.F.type_list_pop mt_pop (pe_ix ix_list (pv 0) pe_int (fun _ _ => rfl))))
      (pss_cons (ps_if (pt_cmpR op_ge (pv 2) (pe_op op_pow pe_int pe_int) (nomark _)) (pss_cons (ps_expr (pe_bm PySem.F.plainAttrs_list PySem.F.slot_list_append PySem.F.type_list_append mt_append (pe_ix ix_list (pv 0) pe_int (fun _ _ => rfl)) (pa_cons (pe_op op_fdivW (pv 2) (pv 1)) pa_nil)))
      (pss_one (ps_ret (pe_op op_mod (pv 2) (pv 1))))) pss_nil)
      (pss_one (ps_set (i := 2) sc__law_draw.nd rfl (.inl rfl) (pe_op op_add (pv 2) (pe_ix ix_list (pv 0) pe_int (fun _ _ => rfl))))))) pss_nil)
      (pss_cons (ps_set (i := 3) sc__law_draw.nd rfl (.inl rfl) (pe_op op_mod (pe_op op_mul (pe_op op_add (pe_op op_add (pe_op op_mod (pv 2) pe_int) (pe_op op_mul (pe_op op_mul pe_int (pe_ix ix_list (pv 0) pe_int (fun _ _ => rfl))) (pe_ix ix_list (pv 0) pe_int (fun _ _ => rfl)))) pe_int) pe_int) pe_int))
      (pss_cons (ps_set (i := 3) sc__law_draw.nd rfl (.inl rfl) (pe_op op_mod (pe_op op_add (pe_op op_add (pe_op op_mul (pv 3) (pv 3)) (pe_op op_mul pe_int (pe_ix ix_list (pv 0) pe_int (fun _ _ => rfl)))) pe_int) pe_int))
      (pss_one (ps_ret (pe_op op_mod (pe_op op_fdiv (pe_op op_mod (pe_op op_mul (pv 3) pe_int) pe_int) pe_int) (pv 1))))))))), ?_⟩
  -- deck[2] = deck[2] + 1
  refine ⟨.ref d, rfl, d, _, _, .int t, rfl, rfl, .inl (.inl hd), rfl, t, 1, rfl, rfl, .ref d, rfl, d, _, _, _, rfl, rfl, hd, rfl, ?_⟩
  generalize eH1 : upd H d _ = H1
  have hd1 : H1 d = some (.lst [.ref c, .int m, .int (t + 1)]) := by rw [← eH1]; exact upd_same
  have hc1 : H1 c = some (.lst (ns.map V.int)) := by rw [← eH1, upd_ne ndc.symm]; exact hc
  have x1 : Ext d c H H1 := by rw [← eH1]; exact Ext.d
  -- cell = deck[1]
  refine ⟨.ref d, rfl, d, _, _, .int m, rfl, rfl, .inl (.inl hd1), rfl, ?_⟩
  -- if deck[0] != []
  refine ⟨.ref d, rfl, d, _, _, .ref c, rfl, rfl, .inl (.inl hd1), rfl, Nat.zero_le _, fun p hp => ?_⟩
  have hd2 := upd_get (o := .lst []) hp hd1
  have hc2 := upd_get (o := .lst []) hp hc1
  have x2 : Ext d c H (upd H1 p (.lst [])) := x1.trans (Ext.new hp)
  have hp2 : (upd H1 p (.lst [])) p = some (.lst []) := upd_same
  generalize upd H1 p (.lst []) = H2 at hd2 hc2 x2 hp2 ⊢
  refine ⟨.list (ns.map PyData.int), .list [], .lst (.inl (.inl hc2)) (dpInts ns), .lst (.inl (.inl hp2)) .nil, shaped_ints ns, shaped_ints [], _, rfl, ?_⟩
  have dk : ∀ (H3 : Hp) (ns' : List Int), H3 d = some (.lst [.ref c, .int m, .int (t + 1)]) → H3 c = some (.lst (ns'.map V.int)) → ns'.length ≤ 63 → Deck d c (n + 1) H3 :=
    fun H3 ns' a1 a2 a4 => ⟨⟨ns', m, t + 1, a1, a2, by omega, by omega, a4⟩, ndc⟩
  cases ns with
  | nil =>
    refine iteF ?_
    exact ⟨.int m, rfl, m, _, rfl, rfl, (by decide : (0 : Int) < 2147483629), .ref d, rfl, d, _, _, .int (t + 1), rfl, rfl, .inl (.inl hd2), rfl, _, _, rfl, rfl, .inl ⟨by decide, by decide⟩,
      .ref d, rfl, d, _, _, .int (t + 1), rfl, rfl, .inl (.inl hd2), rfl, _, _, rfl, rfl, .inr ⟨by omega, by omega⟩, _, _, rfl, rfl, _, _, rfl, rfl, _, _, rfl, rfl, .inr ⟨by decide, by decide⟩, _, _, rfl, rfl, (by decide : (0 : Int) < 2147483647), 
      _, rfl, _, rfl, _, _, rfl, rfl, .inl (mod_small _ (by decide) (by decide)), .ref d, rfl, d, _, _, .int (t + 1), rfl, rfl, .inl (.inl hd2), rfl, _, _, rfl, rfl, .inl ⟨by decide, by decide⟩, _, _, rfl, rfl, _, _, rfl, rfl, _, _, rfl, rfl, (by decide : (0 : Int) < 2147483587),
      _, rfl, _, _, rfl, rfl, .inr ⟨by decide, by decide⟩, _, _, rfl, rfl, (by decide : (0 : Int) < 2147483563), _, _, rfl, rfl, ⟨by decide, by decide⟩, .int many, rfl, _, _, rfl, rfl, hm0,
      q _ _ (Int.emod_nonneg _ (by omega)) (Int.emod_lt_of_pos _ hm0) (dk H2 [] hd2 hc2 hns) x2⟩
  | cons x r =>
    refine iteT ?_
    -- cell = deck[0].pop()
    obtain ⟨y, hy⟩ : ∃ y, (x :: r)[(x :: r).length - 1]? = some y := ⟨_, List.getElem?_eq_getElem (by simp)⟩
    refine ⟨.ref d, rfl, d, _, _, .ref c, rfl, rfl, .inl (.inl hd2), rfl, .inl ⟨rfl, _, .inl (.inl hc2)⟩, c, _, .int y, rfl, rfl, hc2, ?_, ?_⟩
    · rw [List.length_map, List.getElem?_map, hy]
      rfl
    have er : ((x :: r).map V.int).dropLast = ((x :: r).dropLast).map V.int := (List.map_dropLast ..).symm
    rw [er]
    have hr1 : ((x :: r).dropLast).length ≤ 62 := by rw [List.length_dropLast]; omega
    generalize (x :: r).dropLast = rs at hr1 ⊢
    generalize eH : upd H2 c (.lst (rs.map V.int)) = H3
    have hd3 : H3 d = some (.lst [.ref c, .int m, .int (t + 1)]) := by rw [← eH, upd_ne ndc]; exact hd2
    have hc3 : H3 c = some (.lst (rs.map V.int)) := by rw [← eH]; exact upd_same
    have x3 : Ext d c H H3 := by rw [← eH]; exact x2.trans Ext.c
    refine ⟨.int y, rfl, _, _, rfl, rfl, ⟨by decide, by decide, by decide⟩, _, _, rfl, rfl, _, rfl, ite2 (fun e1 => ?_) (fun e1 => ?_)⟩
    · have wx : CDivW y many := wide_div hm0 (many_small hm0 hm1) (by decide) (by decide)
      refine ⟨.ref d, rfl, d, _, _, .ref c, rfl, rfl, .inl (.inl hd3), rfl, .inl ⟨rfl, _, .inl (.inl hc3)⟩, .int y, rfl, .int many, rfl, y, many, rfl, rfl, wx, c, _, _, rfl, rfl, hc3, ?_, ?_⟩
      · rw [List.length_map]
        exact Nat.lt_of_le_of_lt hr1 (by decide)
      refine ⟨.int y, rfl, .int many, rfl, y, many, rfl, rfl, hm0, ?_⟩
      refine q _ _ (Int.emod_nonneg _ (by omega)) (Int.emod_lt_of_pos _ hm0) (dk _ (rs ++ [y / many]) ?_ ?_ ?_) (x3.trans Ext.c)
      · rw [upd_ne ndc]; exact hd3
      · rw [upd_same, List.map_append]; rfl
      · rw [List.length_append]
        show rs.length + 1 ≤ 63
        omega
    refine ⟨.int y, rfl, .ref d, rfl, d, _, _, .int m, rfl, rfl, .inl (.inl hd3), rfl, y, m, rfl, rfl, ?_⟩
    exact ⟨.int (y + m), rfl, (y + m), _, rfl, rfl, (by decide : (0 : Int) < 2147483629), .ref d, rfl, d, _, _, .int (t + 1), rfl, rfl, .inl (.inl hd3), rfl, _, _, rfl, rfl, .inl ⟨by decide, by decide⟩,
      .ref d, rfl, d, _, _, .int (t + 1), rfl, rfl, .inl (.inl hd3), rfl, _, _, rfl, rfl, .inr ⟨by omega, by omega⟩, _, _, rfl, rfl, _, _, rfl, rfl, _, _, rfl, rfl, .inr ⟨by decide, by decide⟩, _, _, rfl, rfl, (by decide : (0 : Int) < 2147483647), 
      _, rfl, _, rfl, _, _, rfl, rfl, .inl (mod_small _ (by decide) (by decide)), .ref d, rfl, d, _, _, .int (t + 1), rfl, rfl, .inl (.inl hd3), rfl, _, _, rfl, rfl, .inl ⟨by decide, by decide⟩, _, _, rfl, rfl, _, _, rfl, rfl, _, _, rfl, rfl, (by decide : (0 : Int) < 2147483587),
      _, rfl, _, _, rfl, rfl, .inr ⟨by decide, by decide⟩, _, _, rfl, rfl, (by decide : (0 : Int) < 2147483563), _, _, rfl, rfl, ⟨by decide, by decide⟩, .int many, rfl, _, _, rfl, rfl, hm0,
      q _ _ (Int.emod_nonneg _ (by omega)) (Int.emod_lt_of_pos _ hm0) (dk H3 rs hd3 hc3 (by omega)) x3⟩
end
end K14

set_option maxHeartbeats 4000000
namespace K14
open PySem PySem.Spec PyProof.Rows L2 HG K13
/-! ### tuples stay -/
def tupO : HO → Bool
  | .tup _ => true
  | .frz _ (.tup _) => true
  | _ => false
def SameT (H H' : Hp) : Prop := ∀ a o, H a = some o → tupO o = true → H' a = some o
theorem SameT.refl (H : Hp) : SameT H H := fun _ _ h _ => h
theorem SameT.trans {H H1 H2 : Hp} (a : SameT H H1) (b : SameT H1 H2) : SameT H H2 := fun x o h t => b x o (a x o h t) t
theorem Same.T {H H' : Hp} (s : Same H H') : SameT H H' := fun a o h _ => s a o h
theorem SameT.new {H : Hp} {p : Addr} {o : HO} (hp : H p = none) : SameT H (upd H p o) := fun a u h _ => upd_get hp h
theorem SameT.put {H : Hp} {p : Addr} {o u : HO} (hp : H p = some u) (hu : tupO u = false) : SameT H (upd H p o) := fun a x h t => by
  have : a ≠ p := fun z => by
    rw [z, hp] at h
    cases h
    rw [hu] at t
    cases t
  rw [upd_ne this]
  exact h
theorem Ext.T {d c : Addr} {n : Nat} {H H' : Hp} (D : Deck d c n H) (X : Ext d c H H') : SameT H H' := fun a o h t => by
  obtain ⟨ns, m, q, e1, e2, _⟩ := D.ex
  refine X.at (fun z => ?_) (fun z => ?_) h
  · rw [z, e1] at h
    cases h
    cases t
  · rw [z, e2] at h
    cases h
    cases t
mutual
theorem dp_T {K : PySem.W.Frag} {H H' : Hp} (e : SameT H H') : ∀ (d : PyData) (v : V), okD d = true → Dp K H v d → Dp K H' v d
  | .none, _, _, h => by cases h; exact .non
  | .bool b, _, _, h => by cases h; exact .bl b
  | .int i, _, _, h => by cases h; exact .int i
  | .str x, _, _, h => by cases h; exact .str x
  | .list ds, _, k, h => by simp [okD] at k
  | .tuple ds, _, k, h => by
    cases h with
    | tup s a =>
      refine .tup ?_ (dpAll_T e ds _ (by simpa [okD] using k) a)
      rcases s with (s | ⟨o, s⟩) | s
      · exact .inl (.inl (e _ _ s rfl))
      · exact .inl (.inr ⟨o, e _ _ s rfl⟩)
      · exact .inr s
  | .dict _, _, _, h => by cases h
theorem dpAll_T {K : PySem.W.Frag} {H H' : Hp} (e : SameT H H') : ∀ (ds : List PyData) (vs : List V), okAll ds = true → DpAll K H vs ds → DpAll K H' vs ds
  | [], _, _, h => by cases h; exact .nil
  | d :: ds, _, k, h => by
    cases h with
    | cons a b =>
      have k' : okD d = true ∧ okAll ds = true := by simpa [okAll] using k
      exact .cons (dp_T e d _ k'.1 a) (dpAll_T e ds _ k'.2 b)
end
open P14 (noL noAll noAll_mem)
mutual
theorem dp_N {K : PySem.W.Frag} {H H' : Hp} (e : SameT H H') : ∀ (d : PyData) (v : V), noL d = true → Dp K H v d → Dp K H' v d
  | .none, _, _, h => by cases h; exact .non
  | .bool b, _, _, h => by cases h; exact .bl b
  | .int i, _, _, h => by cases h; exact .int i
  | .str x, _, _, h => by cases h; exact .str x
  | .list ds, _, k, h => by simp [noL] at k
  | .tuple ds, _, k, h => by
    cases h with
    | tup s a =>
      refine .tup ?_ (dpAll_N e ds _ (by simpa [noL] using k) a)
      rcases s with (s | ⟨o, s⟩) | s
      · exact .inl (.inl (e _ _ s rfl))
      · exact .inl (.inr ⟨o, e _ _ s rfl⟩)
      · exact .inr s
  | .dict _, _, _, h => by cases h
theorem dpAll_N {K : PySem.W.Frag} {H H' : Hp} (e : SameT H H') : ∀ (ds : List PyData) (vs : List V), noAll ds = true → DpAll K H vs ds → DpAll K H' vs ds
  | [], _, _, h => by cases h; exact .nil
  | d :: ds, _, k, h => by
    cases h with
    | cons a b =>
      have k' : noL d = true ∧ noAll ds = true := by simpa [noAll] using k
      exact .cons (dp_N e d _ k'.1 a) (dpAll_N e ds _ k'.2 b)
end
theorem okAll_app {a b : List PyData} (ha : okAll a = true) (hb : okAll b = true) : okAll (a ++ b) = true := by
  rw [okAll_mem] at ha hb ⊢
  intro d hd
  rcases List.mem_append.mp hd with h | h
  · exact ha d h
  · exact hb d h
/-! ### sizes -/
mutual
def sz : PyData → Nat
  | .tuple ds => 1 + szAll ds
  | _ => 1
def szAll : List PyData → Nat
  | [] => 0
  | d :: ds => sz d + szAll ds
end
theorem szAll_app : ∀ a b : List PyData, szAll (a ++ b) = szAll a + szAll b
  | [], b => by simp [szAll]
  | d :: a, b => by simp only [List.cons_append, szAll, szAll_app a b]; omega
/-- what a drawn value is -/
structure Sz (m : Nat) (D : PyData) : Prop where
  ok : okD D = true
  dep : D.depth ≤ m + 1
  size : sz D ≤ 2 * 5 ^ m
theorem depthAll_le : ∀ {m : Nat} {ds : List PyData}, (∀ d ∈ ds, d.depth ≤ m) → PyData.depthAll ds ≤ m
  | m, [], _ => by simp only [PyData.depthAll]; omega
  | m, d :: ds, h => by
    have h1 := h d List.mem_cons_self
    have h2 := depthAll_le (m := m) (ds := ds) fun e he => h e (List.mem_cons_of_mem _ he)
    simp only [PyData.depthAll]
    omega
theorem one_le5 (m : Nat) : 1 ≤ 5 ^ m := Nat.one_le_pow _ _ (by decide)
theorem Sz.flat {m : Nat} {D : PyData} (h : okD D = true) (hd : D.depth ≤ 1) (hs : sz D = 1) : Sz m D := ⟨h, by omega, by have := one_le5 m; omega⟩
theorem Sz.tup {m : Nat} {ds : List PyData} (hl : ds.length ≤ 4) (h : ∀ d ∈ ds, Sz m d) : Sz (m + 1) (.tuple ds) := by
  refine ⟨?_, ?_, ?_⟩
  · simp only [okD]
    exact okAll_mem.mpr fun d hd => (h d hd).ok
  · simp only [PyData.depth]
    have := depthAll_le (m := m + 1) (ds := ds) fun d hd => (h d hd).dep
    omega
  · simp only [sz]
    have key : ∀ l : List PyData, (∀ d ∈ l, sz d ≤ 2 * 5 ^ m) → szAll l ≤ l.length * (2 * 5 ^ m) := by
      intro l
      induction l with
      | nil => intro _; simp [szAll]
      | cons d l ih =>
        intro hh
        have h1 := hh d List.mem_cons_self
        have h2 := ih fun e he => hh e (List.mem_cons_of_mem _ he)
        rw [List.length_cons, Nat.add_mul, Nat.one_mul]
        simp only [szAll]
        omega
    have h1 := key ds fun d hd => (h d hd).size
    have h2 : ds.length * (2 * 5 ^ m) ≤ 4 * (2 * 5 ^ m) := Nat.mul_le_mul_right _ hl
    have h3 := one_le5 m
    have h4 : 5 ^ (m + 1) = 5 * 5 ^ m := by rw [Nat.pow_succ, Nat.mul_comm]
    omega
theorem cut_to (xs : List V) (k : Nat) : cutV xs none (some (k : Int)) = xs.take k := by
  unfold cutV
  rw [HT.sIx_none, HT.sIx_nat, Nat.sub_zero, List.drop_zero]
  by_cases h : k ≤ xs.length
  · rw [Nat.min_eq_left h]
  · rw [Nat.min_eq_right (by omega), List.take_length, List.take_of_length_le (by omega)]
theorem cut63 {ns : List Int} (h : ns.length ≤ 63) : cutV (ns.map V.int) none (some 63) = ns.map V.int := by
  have e := cut_to (ns.map V.int) 63
  rw [List.take_of_length_le (by rw [List.length_map]; exact h)] at e
  exact e
section
variable {P : Program} {w : World} {K : PySem.W.Frag} {mg : Str → Option Value} {base : Heap}
/-! ### _law_deck -/
def spDeck (K : PySem.W.Frag) : Sp := fun vs H Q _ => ∃ (a : Addr) (ns : List Int), vs = [.ref a] ∧ SqL K H a (ns.map V.int) ∧ ns.length ≤ 63 ∧
  ∀ (d c : Addr) (H' : Hp), H d = none → H c = none → Same H H' → Deck d c 0 H' → Q (.ref d) H'
theorem ok_deck (T : Txt w K mg) : ∃ fd, FnOk P w K mg base CX0 1 (He.ga K "_law_deck") fd ["_law_script"] (spDeck K) ∧ Binds K fd ["_law_script"] [] := by
  obtain ⟨fd, F⟩ := T.d__law_deck
  refine ⟨fd, F.ok sc__law_deck (fun vs H Q E h => ?_) (fun cdv A outer s H vs Q E hr h => ?_), F.bindsN fun _ _ _ _ _ _ us hl => match us, hl with | [_], _ => rfl⟩
  · obtain ⟨a, ns, rfl, _⟩ := h
    rfl
  obtain ⟨a, ns, rfl, hS, hn, q⟩ := h
  refine ⟨_, PSs.nox (pss_cons (ps_par (i := 1) (j := 2) rfl sc__law_deck.nd rfl rfl (by decide) rfl rfl (pa_cons (pe_callTy call_list_of (by rfl) T.n_list (by decide +kernel) (pa_cons (pe_slice sl_list (pv 0) po_none (po_some pe_int)) pa_nil)) (pa_cons pe_int pa_nil)) (by rfl))
      (pss_cons (ps_for PassesOwn.never rfl (pi_list (pv 1)) (pg_name (i := 3) sc__law_deck.nd rfl (.inl rfl)) (pss_one (ps_set (i := 2) sc__law_deck.nd rfl (.inl rfl) (pe_op op_mod (pe_op op_add (pe_op op_add (pe_op op_mul (pv 2) pe_int) (pe_op op_mod (pv 3) pe_int)) pe_int) pe_int))))
      (pss_one (ps_ret (pe_lst (pa_cons (pe_revL (pv 1)) (pa_cons (pv 2) (pa_cons pe_int pa_nil)))))))), ?_⟩
  refine ⟨.ref a, rfl, 63, rfl, a, _, rfl, hS, fun p hp => ?_⟩
  rw [cut63 hn]
  have s1 : Same H (upd H p (.lst (ns.map V.int))) := fun b o h => upd_get hp h
  have h1 : (upd H p (.lst (ns.map V.int))) p = some (.lst (ns.map V.int)) := upd_same
  generalize upd H p (.lst (ns.map V.int)) = H1 at s1 h1 ⊢
  refine ⟨p, _, rfl, .inl (.inl (.inl h1)), fun l hl => ?_⟩
  have s2 : Same H1 (upd H1 l (.lst (ns.map V.int))) := fun b o h => upd_get hl h
  have h2 : (upd H1 l (.lst (ns.map V.int))) l = some (.lst (ns.map V.int)) := upd_same
  generalize upd H1 l (.lst (ns.map V.int)) = H2 at s2 h2 ⊢
  refine ⟨_, _, rfl, .ref l, rfl, l, rfl, ⟨_, .inl (.inl h2)⟩, for_list (xs := ns.map V.int) (fun i σ H3 => ∃ m y, σ = [some (.ref a), some (.ref l), some (.int m), y] ∧ -(2 ^ 64) < m ∧ m < 2 ^ 64 ∧ H3 = H2) ⟨70014, none, rfl, by decide, by decide, rfl⟩ ?_ ?_ ?_⟩
  · rintro i σ H3 _ ⟨m, y, rfl, _, _, rfl⟩
    exact .inl (.inl h2)
  · rintro i x σ H3 hx ⟨m, y, rfl, hm1, hm2, rfl⟩
    obtain ⟨z, rfl⟩ : ∃ z : Int, x = .int z := by
      rw [List.getElem?_map] at hx
      cases e : ns[i]? with
      | none => rw [e] at hx; cases hx
      | some z => rw [e] at hx; cases hx; exact ⟨z, rfl⟩
    refine ⟨.int m, rfl, _, _, rfl, rfl, .inl ⟨hm1, hm2⟩, .int z, rfl, _, _, rfl, rfl, (by decide : (0 : Int) < 2147483563), _, _, rfl, rfl, _, _, rfl, rfl, _, _, rfl, rfl, (by decide : (0 : Int) < 2147483579), ?_⟩
    have hs := mod_small (m * 48271 + z % 2147483563 + 61) (m := 2147483579) (by decide) (by decide)
    exact ⟨_, some (.int z), rfl, hs.1, hs.2, rfl⟩
  · rintro σ H3 ⟨m, y, rfl, hm1, hm2, rfl⟩
    refine ⟨.ref l, rfl, l, _, rfl, .inl (.inl h2), fun c hc => ?_⟩
    rw [← List.map_reverse]
    have s3 : Same H3 (upd H3 c (.lst (ns.reverse.map V.int))) := fun b o h => upd_get hc h
    have h3 : (upd H3 c (.lst (ns.reverse.map V.int))) c = some (.lst (ns.reverse.map V.int)) := upd_same
    generalize upd H3 c (.lst (ns.reverse.map V.int)) = H4 at s3 h3 ⊢
    refine ⟨.int m, rfl, (by show 3 ≤ sizeLine; decide), fun d hd => ?_⟩
    have ndc : d ≠ c := (ne_of_none h3 hd).symm
    refine q d c _ (s1.free (s2.free (s3.free hd))) (s1.free (s2.free hc)) (fun b o h => upd_get hd (s3 _ _ (s2 _ _ (s1 _ _ h)))) ⟨⟨ns.reverse, m, 0, upd_same, ?_, by decide, by decide, by rw [List.length_reverse]; exact hn⟩, ndc⟩
    rw [upd_ne ndc.symm]
    exact h3
/-! ### _law_pick -/
def spPick (K : PySem.W.Frag) : Sp := fun vs H Q _ => ∃ (d c : Addr) (n : Nat) (x : V), vs = [.ref d, x] ∧ n < 2 ^ 60 ∧ Deck d c n H ∧
  ((∃ z : Str, x = .str z ∧ 0 < z.length ∧ z.length ≤ 1000 ∧ ∀ (ch : Nat) (H' : Hp), ch ∈ cp z → Deck d c (n + 1) H' → Ext d c H H' → Q (.str ⟨#[ch]⟩) H') ∨
   ∃ (a : Addr) (xs : List V), x = .ref a ∧ SqL K (off d c H) a xs ∧ 0 < xs.length ∧ xs.length ≤ 1000 ∧ ∀ (y : V) (H' : Hp), y ∈ xs → Deck d c (n + 1) H' → Ext d c H H' → Q y H')
theorem c_draw (T : Txt w K mg) : Cal P w K mg base "_law_draw" 1 ["_law_deck_here", "_law_many"] spDraw := ⟨ok_draw T, T.g _ (by decide), by obtain ⟨fd, F⟩ := T.d__law_draw; exact F.kp⟩
theorem ok_pick (T : Txt w K mg) : ∃ fd, FnOk P w K mg base CX0 2 (He.ga K "_law_pick") fd ["_law_deck_here", "_law_items"] (spPick K) ∧ Binds K fd ["_law_deck_here", "_law_items"] [] := by
  obtain ⟨fd, F⟩ := T.d__law_pick
  have C__law_draw := c_draw (P := P) (w := w) (base := base) T
  refine ⟨fd, F.ok sc__law_pick (fun vs H Q E h => ?_) (fun cdv A outer s H vs Q E hr h => ?_), F.bindsN fun _ _ _ _ _ _ us hl => match us, hl with | [_, _], _ => rfl⟩
  · obtain ⟨d, c, n, x, rfl, _⟩ := h
    rfl
  obtain ⟨d, c, n, x, rfl, hn, D, h⟩ := h
  refine ⟨_, PSs.nox (pss_one (ps_ret (pe_ix ix_seq (pv 1) (pe_cal C__law_draw (hr.mono (by omega)) (by rfl) (pa_cons (pv 0) (pa_cons (pe_callB call_len (by rfl) T.n_len (by decide +kernel) (pa_cons (pv 1) pa_nil)) pa_nil))) (fun _ _ => rfl)))), ?_⟩
  rcases h with ⟨z, rfl, h0, h1, q⟩ | ⟨a, xs, rfl, hS, h0, h1, q⟩
  · have hz : z.length ≤ sizeLine := Nat.le_trans h1 (by decide)
    refine ⟨.str z, rfl, .ref d, rfl, .str z, rfl, .str z, z.length, rfl, ⟨hz, rfl⟩, d, c, n, z.length, rfl, by omega, ?_, hn, D, fun r H' r0 r1 D' X => ?_⟩
    · have : (1000 : Int) < 10 ^ 40 := by decide
      omega
    · obtain ⟨j, rfl⟩ := Int.eq_ofNat_of_zero_le r0
      have hj : j < (cp z).length := by rw [cp_len]; omega
      exact .inr (.inr ⟨z, j, (cp z)[j], rfl, rfl, hz, atI_nat (List.getElem?_eq_getElem hj), q _ _ (List.getElem_mem hj) D' X⟩)
  · refine ⟨.ref a, rfl, .ref d, rfl, .ref a, rfl, .ref a, xs.length, rfl, .inl ⟨xs, offL hS, rfl⟩, d, c, n, xs.length, rfl, by omega, ?_, hn, D, fun r H' r0 r1 D' X => ?_⟩
    · have : (1000 : Int) < 10 ^ 40 := by decide
      omega
    · obtain ⟨j, rfl⟩ := Int.eq_ofNat_of_zero_le r0
      have hj : j < xs.length := by omega
      exact .inl ⟨a, xs, j, xs[j], rfl, rfl, offL (X.sqL hS), atI_nat (List.getElem?_eq_getElem hj), q _ _ (List.getElem_mem hj) D' X⟩
theorem c_pick (T : Txt w K mg) : Cal P w K mg base "_law_pick" 2 ["_law_deck_here", "_law_items"] (spPick K) := ⟨ok_pick T, T.g _ (by decide), by obtain ⟨fd, F⟩ := T.d__law_pick; exact F.kp⟩
end
end K14

set_option maxHeartbeats 4000000
namespace K14
open PySem PySem.Spec PyProof.Rows L2 HG K13
theorem grow {d c p : Addr} {n : Nat} {H H' : Hp} (X : Ext d c H H') (D : Deck d c n H') (h : H' p = none) : H p = none := by
  have nd := D.has h
  cases e : H p with
  | none => rfl
  | some o =>
    have := X.at nd.1 nd.2 e
    rw [h] at this
    cases this
section
variable {P : Program} {w : World} {K : PySem.W.Frag} {mg : Str → Option Value} {base : Heap}
/-! ### _law_value -/
def spValue (K : PySem.W.Frag) : Nat → Sp
  | 0 => fun _ _ _ _ => False
  | m + 1 => fun vs H Q _ => ∃ (d c : Addr) (n k : Nat), vs = [.ref d, .int k] ∧ k ≤ m ∧ n + 60 * 5 ^ m < 2 ^ 60 ∧ Deck d c n H ∧
    ∀ (v : V) (D : PyData) (H' : Hp), Dp K H' v D → Sz m D → Deck d c (n + 60 * 5 ^ m) H' → Ext d c H H' → Q v H'
theorem ok_value (T : Txt w K mg) : ∀ m : Nat, ∃ fd, FnOk P w K mg base CX0 (5 + m) (He.ga K "_law_value") fd ["_law_deck_here", "_law_deep"] (spValue K m) ∧ Binds K fd ["_law_deck_here", "_law_deep"] []
  | 0 => by
    obtain ⟨fd, F⟩ := T.d__law_value
    exact ⟨fd, ⟨fun _ _ _ _ h => h.elim, fun _ _ _ _ _ _ _ _ _ _ _ _ _ h => h.elim⟩, F.bindsN fun _ _ _ _ _ _ us hl => match us, hl with | [_, _], _ => rfl⟩
  | m + 1 => by
    have C__law_value : Cal P w K mg base "_law_value" (5 + m) ["_law_deck_here", "_law_deep"] (spValue K m) := ⟨ok_value T m, T.g _ (by decide), by obtain ⟨fd, F⟩ := T.d__law_value; exact F.kp⟩
    have C__law_draw := c_draw (P := P) (w := w) (base := base) T
    have C__law_pick := c_pick (P := P) (w := w) (base := base) T
    obtain ⟨fd, F⟩ := T.d__law_value
    refine ⟨fd, F.ok (k := 5 + m) sc__law_value (fun vs H Q E h => ?_) (fun cdv A outer s H vs Q E hr h => ?_), F.bindsN fun _ _ _ _ _ _ us hl => match us, hl with | [_, _], _ => rfl⟩
    · obtain ⟨d, c, n, k, rfl, _⟩ := h
      rfl
    obtain ⟨d, c, n, k, rfl, hk, hn, dk, q⟩ := h
    have p5 := one_le5 m
    refine ⟨_, PSs.nox (pss_cons (ps_set (i := 2) sc__law_value.nd rfl (.inl rfl) (pe_cal C__law_draw (hr.mono (by omega)) (by rfl) (pa_cons (pv 0) (pa_cons pe_int pa_nil))))
      (pss_cons (ps_if (PW.pt (pw_and (pt_cmpR op_lt (pv 2) pe_int (nomark _)) (pw_and1 (pt_cmpR op_gt (pv 1) pe_int (nomark _))))) (pss_one (ps_ret (pe_callTy call_tuple_of (by rfl) T.n_tuple (by decide +kernel) (pa_cons (pe_lc (own := [("_law_k", 4)]) (by rfl) sc__law_value.nd (pi_range1 (by rfl) T.n_range (pa_cons (pe_cal C__law_draw (hr.mono (by omega)) (by rfl) (pa_cons (pv 0) (pa_cons pe_int pa_nil))) pa_nil)) (blkOk_by (own := [("_law_k", 4)]) (N := N__law_value) (sc := defScope s__law_value) (by decide +kernel)) (fun _ _ _ _ _ => (pg_name (i := 4) sc__law_value.nd rfl (.inl rfl))) (fun _ _ _ _ _ => pts_nil) (fun _ _ _ _ _ => (pe_cal C__law_value (hr.mono (by omega)) (by rfl) (pa_cons (pv 0) (pa_cons (pe_op op_sub (pv 1) pe_int) pa_nil))))) pa_nil)))) pss_nil)
      (pss_cons (ps_if (pt_cmpR op_lt (pv 2) pe_int (nomark _)) (pss_one (ps_ret (pe_cal C__law_pick (hr.mono (by omega)) (by rfl) (pa_cons (pv 0) (pa_cons (pe_lst (pa_cons pe_int (pa_cons pe_int (pa_cons pe_int (pa_cons (pe_un un_neg pe_int) (pa_cons pe_int (pa_cons (pe_op op_pow pe_int pe_int) (pa_cons (pe_un un_neg (pe_op op_pow pe_int pe_int)) pa_nil)))))))) pa_nil))))) pss_nil)
      (pss_cons (ps_set (i := 3) sc__law_value.nd rfl (.inl rfl) (pe_lst (pa_cons pe_bl (pa_cons pe_bl (pa_cons pe_non (pa_cons pe_str (pa_cons pe_str (pa_cons pe_str (pa_cons pe_str (pa_cons pe_str (pa_cons pe_str (pa_cons pe_str (pa_cons pe_str pa_nil)))))))))))))
      (pss_one (ps_ret (pe_cal C__law_pick (hr.mono (by omega)) (by rfl) (pa_cons (pv 0) (pa_cons (pv 3) pa_nil))))))))), ?_⟩
    refine ⟨.ref d, rfl, d, c, n, 8, rfl, by decide, by decide, by omega, dk, fun x H1 x0 x1 dk1 X1 => ?_⟩
    have rest : ∀ {A : Prop}, A → (A → A) := fun a _ => a
    refine ⟨.int x, rfl, _, _, rfl, rfl, _, rfl, ite2 (fun e3 => ⟨.int k, rfl, _, _, rfl, rfl, _, rfl, ite2 (fun ek => ?_) (fun ek => ?_)⟩) (fun e3 => ?_)⟩
    · -- a tuple
      have hk0 : 0 < k := by
        have := of_decide_eq_true ek
        omega
      obtain ⟨m', rfl⟩ : ∃ m', m = m' + 1 := ⟨m - 1, by omega⟩
      have e5 : 5 ^ (m' + 1) = 5 * 5 ^ m' := by rw [Nat.pow_succ, Nat.mul_comm]
      have p5' := one_le5 m'
      refine ⟨.ref d, rfl, d, c, n + 1, 4, rfl, by decide, by decide, by omega, dk1, fun r H2 r0 r1 dk2 X2 => ⟨r, rfl, by omega, by omega, fun D hD => ?_⟩⟩
      have X12 := X1.trans X2
      have nd := dk2.has hD
      have hDH : H D = none := grow X12 dk2 hD
      refine lc_range (lo := 0) (n := r.toNat) (fun i H3 => ∃ vs ds, vs.length = i ∧ H3 D = some (.lst vs) ∧ DpAll K H3 vs ds ∧ (∀ e ∈ ds, Sz m' e) ∧ Deck d c (n + 2 + i * (60 * 5 ^ m')) H3 ∧ Ext d c H H3) ?_ ?_ ?_
      · exact ⟨[], [], rfl, upd_same, .nil, (fun _ h => nomatch h), by rw [Nat.zero_mul]; exact dk2.new hD, X12.trans (Ext.new hD)⟩
      · rintro i H3 hi ⟨vs, ds, hl, hD3, hA, hsz, dk3, X3⟩
        have hi4 : i < 4 := by omega
        have hib : i * (60 * 5 ^ m') ≤ 3 * (60 * 5 ^ m') := Nat.mul_le_mul_right _ (by omega)
        refine ⟨rfl, tyes ⟨.ref d, rfl, .int k, rfl, k, 1, rfl, rfl, d, c, n + 2 + i * (60 * 5 ^ m'), k - 1, ?_, by omega, by omega, dk3, fun v D2 H4 hv hz dk4 X4 => ?_⟩⟩
        · show [V.ref d, V.int ((k : Int) - 1)] = _
          have ek : ((k : Nat) : Int) - 1 = ((k - 1 : Nat) : Int) := by omega
          rw [ek]
        have hD4 := X4.at nd.1 nd.2 hD3
        have sT : SameT H4 (upd H4 D (.lst (vs ++ [v]))) := SameT.put hD4 rfl
        have okA : okAll ds = true := okAll_mem.mpr fun e he => (hsz e he).ok
        refine ⟨vs, hD4, small1000 (by omega), vs ++ [v], ds ++ [D2], by rw [List.length_append, hl]; rfl, upd_same, dpAll_app (dpAll_T ((Ext.T dk3 X4).trans sT) _ _ okA hA) (.cons (dp_T sT _ _ hz.ok hv) .nil), fun e he => ?_, ?_, (X3.trans X4).mut hDH⟩
        · rcases List.mem_append.mp he with z | z
          · exact hsz e z
          · rw [List.mem_singleton.mp z]
            exact hz
        · rw [Nat.add_mul, Nat.one_mul, ← Nat.add_assoc]
          exact dk4.upd nd.1 nd.2
      · rintro H3 ⟨vs, ds, hl, hD3, hA, hsz, dk3, X3⟩
        have hr2 : r.toNat ≤ 4 := by omega
        have hib : r.toNat * (60 * 5 ^ m') ≤ 4 * (60 * 5 ^ m') := Nat.mul_le_mul_right _ hr2
        have hdl : ds.length ≤ 4 := by rw [← dpAll_len hA, hl]; exact hr2
        refine ⟨D, vs, rfl, .inl ⟨.inl (.inl hD3), fun l hl1 => ?_⟩⟩
        refine q (.ref l) (.tuple ds) _ (.tup (.inl (.inl upd_same)) (dpAll_T (SameT.new hl1) _ _ (okAll_mem.mpr fun e he => (hsz e he).ok) hA)) (Sz.tup hdl hsz) ((dk3.new hl1).up (by omega)) (X3.trans (Ext.new hl1))
    all_goals
      refine ⟨.int x, rfl, _, _, rfl, rfl, _, rfl, ite2 (fun e => ?_) (fun e5 => ?_)⟩
      · refine ⟨.ref d, rfl, _, rfl, _, _, rfl, rfl, ⟨by decide, by decide, by decide⟩, _, _, rfl, rfl, ⟨by decide, by decide, by decide⟩, _, rfl, (by show 7 ≤ sizeLine; decide), fun a ha => ?_⟩
        have hs := dk1.has ha
        refine ⟨d, c, n + 1, .ref a, rfl, by omega, dk1.new ha, .inr ⟨a, _, rfl, .inl (.inl ((off_get hs.1 hs.2).trans upd_same)), (by show 0 < 7; decide), (by show 7 ≤ 1000; decide), fun y H' hy dk' X' => ?_⟩⟩
        have X := (X1.trans (Ext.new ha)).trans X'
        have hd : Deck d c (n + 60 * 5 ^ m) H' := dk'.up (by omega)
        simp only [List.mem_cons, List.not_mem_nil, or_false] at hy
        rcases hy with rfl | rfl | rfl | rfl | rfl | rfl | rfl
        all_goals exact q _ _ _ (.int _) (Sz.flat (by decide) (by decide) (by simp only [sz])) hd X
      refine ⟨(by show 11 ≤ sizeLine; decide), fun a ha => ?_⟩
      have hs := dk1.has ha
      refine ⟨.ref d, rfl, .ref a, rfl, d, c, n + 1, .ref a, rfl, by omega, dk1.new ha, .inr ⟨a, _, rfl, .inl (.inl ((off_get hs.1 hs.2).trans upd_same)), (by show 0 < 11; decide), (by show 11 ≤ 1000; decide), fun y H' hy dk' X' => ?_⟩⟩
      have X := (X1.trans (Ext.new ha)).trans X'
      have hd : Deck d c (n + 60 * 5 ^ m) H' := dk'.up (by omega)
      simp only [List.mem_cons, List.not_mem_nil, or_false] at hy
      rcases hy with rfl | rfl | rfl | rfl | rfl | rfl | rfl | rfl | rfl | rfl | rfl
      · exact q _ _ _ (.bl _) (Sz.flat (by decide) (by decide) (by simp only [sz])) hd X
      · exact q _ _ _ (.bl _) (Sz.flat (by decide) (by decide) (by simp only [sz])) hd X
      · exact q _ _ _ .non (Sz.flat (by decide) (by decide) (by simp only [sz])) hd X
      all_goals exact q _ _ _ (.str _) (Sz.flat (by decide +kernel) (by decide) (by simp only [sz])) hd X
end
end K14

set_option maxHeartbeats 4000000
namespace K14
open PySem PySem.Spec PyProof.Rows L2 HG K13
open TL (numL tl_num numL_digits numL_ne numL_inj numL_val numL_len)
theorem numI_len {i : Int} (h : i.natAbs < 10 ^ 41) : (numI i).length ≤ 42 := by
  have := numL_len (n := i.natAbs) (k := 41) (by decide) h
  unfold numI
  split
  · rw [List.length_cons]; omega
  · omega
theorem log_small {i : Int} (h : i.natAbs < 10 ^ 41) : i.natAbs.log2 < 1920 := by
  by_cases h0 : i.natAbs = 0
  · rw [h0]; decide
  · have h1 : 10 ^ 41 < 2 ^ 200 := by decide
    have := (Nat.log2_lt h0 (k := 200)).mpr (by omega)
    omega
theorem ok_str {z : Str} (h : okD (.str z) = true) : z.length ≤ 100 ∧ ∀ c ∈ cp z, goodC c = true := by
  have : z.length ≤ 100 ∧ (cp z).all goodC = true := by simpa [okD] using h
  exact ⟨this.1, List.all_eq_true.mp this.2⟩
theorem ok_int {i : Int} (h : okD (.int i) = true) : i.natAbs < 10 ^ 41 := by
  simp only [okD] at h
  exact of_decide_eq_true h
mutual
theorem pk_len : ∀ {d : PyData}, okD d = true → (pk d).length ≤ 200 * sz d
  | .none, _ => by simp only [pk, sz]; decide
  | .bool b, _ => by cases b <;> (simp only [pk, sz]; decide)
  | .int i, h => by
    have := numI_len (ok_int h)
    simp only [pk, sz, List.length_cons, List.length_append, List.length_nil]
    omega
  | .str z, h => by
    have h1 := (ok_str h).1
    have h2 := numL_len (n := z.length) (k := 3) (by decide) (by omega)
    have h3 := cp_len z
    simp only [pk, sz, List.length_cons, List.length_append]
    omega
  | .tuple ds, h => by
    have := pkAll_len (ds := ds) (by simpa [okD] using h)
    simp only [pk, sz, List.length_cons, List.length_append, List.length_nil]
    omega
  | .list _, h => by simp [okD] at h
  | .dict _, h => by simp [okD] at h
theorem pkAll_len : ∀ {ds : List PyData}, okAll ds = true → (pkAll ds).length ≤ 200 * szAll ds
  | [], _ => by simp [pkAll, szAll]
  | d :: ds, h => by
    have h' : okD d = true ∧ okAll ds = true := by simpa [okAll] using h
    have h1 := pk_len h'.1
    have h2 := pkAll_len h'.2
    simp only [pkAll, szAll, List.length_append]
    omega
end
theorem sz_mem : ∀ {ds : List PyData} {d : PyData}, d ∈ ds → sz d ≤ szAll ds
  | e :: ds, d, h => by
    simp only [szAll]
    rcases List.mem_cons.mp h with rfl | h
    · omega
    · have := sz_mem h
      omega
theorem dep_mem : ∀ {ds : List PyData} {d : PyData}, d ∈ ds → d.depth ≤ PyData.depthAll ds
  | e :: ds, d, h => by
    simp only [PyData.depthAll]
    rcases List.mem_cons.mp h with rfl | h
    · omega
    · have := dep_mem h
      omega
theorem len_szAll : ∀ ds : List PyData, ds.length ≤ szAll ds
  | [] => Nat.le_refl _
  | d :: ds => by
    have := len_szAll ds
    have h1 : 1 ≤ sz d := by cases d <;> simp only [sz] <;> omega
    simp only [szAll, List.length_cons]
    omega
theorem sqT_mono {K : PySem.W.Frag} {H H' : Hp} {a : Addr} {xs : List V} (e : Same H H') (s : SqT K H a xs) : SqT K H' a xs := by
  rcases s with (s | ⟨o, s⟩) | s
  · exact .inl (.inl (e _ _ s))
  · exact .inl (.inr ⟨o, e _ _ s⟩)
  · exact .inr s
/-- the texts of the parts -/
def Parts (ds : List PyData) (zs : List Str) : Prop := zs.length = ds.length ∧ ∀ i (h : i < zs.length) (g : i < ds.length), cp zs[i] = pk ds[i]
theorem pkAll_flat : ∀ {ds : List PyData} {zs : List Str}, zs.map cp = ds.map pk → (zs.map cp).flatten = pkAll ds
  | [], [], _ => rfl
  | d :: ds, z :: zs, h => by
    rw [List.map_cons, List.map_cons] at h
    injection h with h1 h2
    rw [List.map_cons, List.flatten_cons, pkAll_flat h2, h1]
    simp only [pkAll]
  | [], z :: zs, h => by simp at h
  | d :: ds, [], h => by simp at h
theorem sum_len : ∀ zs : List Str, (zs.map (·.length)).sum = ((zs.map cp).flatten).length
  | [] => rfl
  | z :: zs => by
    rw [List.map_cons, List.sum_cons, List.map_cons, List.flatten_cons, List.length_append, sum_len zs, cp_len]
section
variable {P : Program} {w : World} {K : PySem.W.Frag} {mg : Str → Option Value} {base : Heap}
def spPack (K : PySem.W.Frag) : Nat → Sp
  | 0 => fun _ _ _ _ => False
  | m + 1 => fun vs H Q _ => ∃ (v : V) (D : PyData), vs = [v] ∧ Dp K H v D ∧ okD D = true ∧ D.depth ≤ m ∧ sz D ≤ 5000 ∧ ∀ (z : Str) (H' : Hp), cp z = pk D → Same H H' → Q (.str z) H'
theorem len_of {z : Str} {D : PyData} (h : cp z = pk D) (ok : okD D = true) (hs : sz D ≤ 5000) : z.length ≤ 1000000 := by
  have h1 := pk_len ok
  have h2 := cp_len z
  rw [h] at h2
  omega
theorem add_le {a b : Str} {n : Nat} (h : a.length + b.length ≤ n) (hn : n ≤ 2000000) : a.length + b.length ≤ sizeLine := Nat.le_trans (Nat.le_trans h hn) (by decide)
theorem num_cp (n : Nat) : cp (Str.ofString (toString ((n : Nat) : Int))) = numL n := tl_num n
theorem nat_log {n : Nat} (h : n ≤ 100) : ((n : Nat) : Int).natAbs.log2 < 1920 := log_small (by
  have : 100 < 10 ^ 41 := by decide
  omega)
theorem ok_packed (T : Txt w K mg) : ∀ m : Nat, ∃ fd, FnOk P w K mg base CX0 m (He.ga K "_law_packed") fd ["_law_value_here"] (spPack K m) ∧ Binds K fd ["_law_value_here"] []
  | 0 => by
    obtain ⟨fd, F⟩ := T.d__law_packed
    exact ⟨fd, ⟨fun _ _ _ _ h => h.elim, fun _ _ _ _ _ _ _ _ _ _ _ _ _ h => h.elim⟩, F.bindsN fun _ _ _ _ _ _ us hl => match us, hl with | [_], _ => rfl⟩
  | m + 1 => by
    have C__law_packed : Cal P w K mg base "_law_packed" m ["_law_value_here"] (spPack K m) := ⟨ok_packed T m, T.g _ (by decide), by obtain ⟨fd, F⟩ := T.d__law_packed; exact F.kp⟩
    obtain ⟨fd, F⟩ := T.d__law_packed
    refine ⟨fd, F.ok (k := m) sc__law_packed (fun vs H Q E h => ?_) (fun cdv A outer s H vs Q E hr h => ?_), F.bindsN fun _ _ _ _ _ _ us hl => match us, hl with | [_], _ => rfl⟩
    · obtain ⟨v, D, rfl, _⟩ := h
      rfl
    obtain ⟨v, D, rfl, hv, ok, dep, hs, q⟩ := h
    refine ⟨_, PSs.nox (pss_cons (ps_if (PW.pt (pw_or (pt_cmpR op_isN (pv 0) pe_non (nomark _)) (pw_or1 (pt_val (pe_callB call_isi (by rfl) T.n_isinstance (by decide +kernel) (pa_cons (pv 0) (pa_cons (pe_bltn (v := .ty "bool") (u := .type "bool") (by rfl) T.n_bool (by decide +kernel) rfl) pa_nil))))))) (pss_one (ps_ret (pe_nb3 (pv 0) (fun _ _ => rfl)))) pss_nil)
      (pss_cons (ps_if (pt_val (pe_callB call_isi (by rfl) T.n_isinstance (by decide +kernel) (pa_cons (pv 0) (pa_cons (pe_bltn (v := .ty "int") (u := .type "int") (by rfl) T.n_int (by decide +kernel) rfl) pa_nil)))) (pss_one (ps_ret (pe_op op_add_str (pe_op op_add_str pe_str (pe_callTy call_str_int (by rfl) T.n_str (by decide +kernel) (pa_cons (pv 0) pa_nil))) pe_str))) pss_nil)
      (pss_cons (ps_if (pt_val (pe_callB call_isi (by rfl) T.n_isinstance (by decide +kernel) (pa_cons (pv 0) (pa_cons (pe_bltn (v := .ty "str") (u := .type "str") (by rfl) T.n_str (by decide +kernel) rfl) pa_nil)))) (pss_one (ps_ret (pe_op op_add_str (pe_op op_add_str (pe_op op_add_str pe_str (pe_callTy call_str_int (by rfl) T.n_str (by decide +kernel) (pa_cons (pe_callB call_len (by rfl) T.n_len (by decide +kernel) (pa_cons (pv 0) pa_nil)) pa_nil))) pe_str) (pv 0)))) pss_nil)
      (pss_one (ps_ret (pe_op op_add_str (pe_op op_add_str pe_str (pe_join pe_str (pe_lc (own := [("_law_part", 1)]) (by rfl) sc__law_packed.nd (pi_tup (pv 0)) (blkOk_by (own := [("_law_part", 1)]) (N := N__law_packed) (sc := defScope s__law_packed) (by decide +kernel)) (fun _ _ _ _ _ => (pg_name (i := 1) sc__law_packed.nd rfl (.inl rfl))) (fun _ _ _ _ _ => pts_nil) (fun _ _ _ _ _ => (pe_cal C__law_packed (hr.mono (by omega)) (by rfl) (pa_cons (pv 1) pa_nil)))))) pe_str)))))), ?_⟩
    cases hv with
    | non => exact ⟨.non, rfl, rfl, _, rfl, iteT fun p o hp => ⟨.non, rfl, upd_same, none, rfl, q _ _ (by decide +kernel) (fun b u h => upd_get hp h)⟩⟩
    | bl b =>
      refine ⟨.bl b, rfl, rfl, _, rfl, iteF ⟨.bl b, rfl, .bl b, .ty "bool", _, _, _, rfl, .ty _, dp_ty (.bl b), kit_ty (kit_bool (.bool b)), _, rfl, iteT fun p o hp => ⟨.bl b, rfl, upd_same, some b, rfl, ?_⟩⟩⟩
      cases b with
      | true => exact q _ _ (by decide +kernel) (fun b u h => upd_get hp h)
      | false => exact q _ _ (by decide +kernel) (fun b u h => upd_get hp h)
    | int i =>
      have hi := ok_int ok
      refine ⟨.int i, rfl, rfl, _, rfl, iteF ⟨.int i, rfl, .int i, .ty "bool", _, _, _, rfl, .ty _, dp_ty (.int i), kit_ty (kit_bool (.int i)), _, rfl, iteF ?_⟩⟩
      refine ⟨.int i, rfl, .int i, .ty "int", _, _, _, rfl, .ty _, dp_ty (.int i), kit_ty (kit_int (.int i)), _, rfl, iteT ?_⟩
      have ec : cp ("i" ++ Str.ofString (toString i) ++ ";" : Str) = pk (.int i) := by
        rw [cp_app, cp_app, cp_num]
        have e2 : cp ("i" : Str) = [105] := by decide +kernel
        have e3 : cp (";" : Str) = [59] := by decide +kernel
        rw [e2, e3]
        simp only [pk]
        simp
      have el := len_of ec ok hs
      rw [Str.length_append, Str.length_append] at el
      refine ⟨.int i, rfl, i, rfl, log_small hi, _, _, rfl, rfl, add_le (n := 1000000) (by omega) (by decide), _, _, rfl, rfl, ?_, q _ _ ec (Same.refl _)⟩
      rw [Str.length_append]
      exact Nat.le_trans el (by decide)
    | str z =>
      have hz := ok_str ok
      have hzs : z.length ≤ sizeLine := Nat.le_trans hz.1 (by decide)
      refine ⟨.str z, rfl, rfl, _, rfl, iteF ⟨.str z, rfl, .str z, .ty "bool", _, _, _, rfl, .ty _, dp_ty (.str z), kit_ty (kit_bool (.str z)), _, rfl, iteF ?_⟩⟩
      refine ⟨.str z, rfl, .str z, .ty "int", _, _, _, rfl, .ty _, dp_ty (.str z), kit_ty (kit_int (.str z)), _, rfl, iteF ?_⟩
      refine ⟨.str z, rfl, .str z, .ty "str", _, _, _, rfl, .ty _, dp_ty (.str z), kit_ty (kit_str (.str z)), _, rfl, iteT ?_⟩
      have ec : cp ("s" ++ Str.ofString (toString ((z.length : Nat) : Int)) ++ ":" ++ z : Str) = pk (.str z) := by
        rw [cp_app, cp_app, cp_app, num_cp]
        have e2 : cp ("s" : Str) = [115] := by decide +kernel
        have e3 : cp (":" : Str) = [58] := by decide +kernel
        rw [e2, e3]
        simp only [pk]
        simp
      have el := len_of ec ok hs
      rw [Str.length_append, Str.length_append, Str.length_append] at el
      refine ⟨.str z, rfl, .str z, z.length, rfl, ⟨hzs, rfl⟩, z.length, rfl, nat_log hz.1, _, _, rfl, rfl, add_le (n := 1000000) (by omega) (by decide), _, _, rfl, rfl, ?_, .str z, rfl, _, _, rfl, rfl, ?_, q _ _ ec (Same.refl _)⟩
      · rw [Str.length_append]
        exact Nat.le_trans (show _ ≤ 1000000 by omega) (by decide)
      · rw [Str.length_append, Str.length_append]
        exact Nat.le_trans el (by decide)
    | @tup a vs ds sq ha =>
      refine ⟨.ref a, rfl, rfl, _, rfl, iteF ⟨.ref a, rfl, .ref a, .ty "bool", _, _, _, rfl, .ty _, dp_ty (.tup sq ha), kit_ty (kit_bool (.tuple ds)), _, rfl, iteF ?_⟩⟩
      refine ⟨.ref a, rfl, .ref a, .ty "int", _, _, _, rfl, .ty _, dp_ty (.tup sq ha), kit_ty (kit_int (.tuple ds)), _, rfl, iteF ?_⟩
      refine ⟨.ref a, rfl, .ref a, .ty "str", _, _, _, rfl, .ty _, dp_ty (.tup sq ha), kit_ty (kit_str (.tuple ds)), _, rfl, iteF ?_⟩
      have okA : okAll ds = true := by simpa [okD] using ok
      have szA : szAll ds ≤ 4999 := by simp only [sz] at hs; omega
      obtain ⟨m', rfl⟩ : ∃ m', m = m' + 1 := by
        simp only [PyData.depth] at dep
        exact ⟨m - 1, by omega⟩
      have depA : PyData.depthAll ds ≤ m' := by simp only [PyData.depth] at dep; omega
      have hvl := dpAll_len ha
      have hdl := len_szAll ds
      · refine ⟨⟨_, rfl⟩, .ref a, rfl, a, rfl, ⟨vs, sq⟩, fun D hD => ?_⟩
        refine lc_tup (xs := vs) (fun i H2 => ∃ zs : List Str, zs.map cp = (ds.take i).map pk ∧ H2 D = some (.lst (zs.map V.str)) ∧ Same H H2) ⟨[], rfl, upd_same, fun b o h => upd_get hD h⟩ ?_ ?_ ?_
        · rintro i H2 _ ⟨zs, _, _, s2⟩
          exact sqT_mono s2 sq
        · rintro i x H2 hx ⟨zs, ez, hD2, s2⟩
          obtain ⟨d, hd, hxd⟩ := dpAll_get ha hx
          have hm := List.mem_of_getElem? hd
          refine ⟨rfl, tyes ⟨x, rfl, x, d, rfl, dp_mono s2 _ _ hxd, okAll_mem.mp okA d hm, Nat.le_trans (dep_mem hm) depA, Nat.le_trans (sz_mem hm) (by omega), fun z H3 hz s3 => ?_⟩⟩
          have hlen : zs.length ≤ i := by
            have e := congrArg List.length ez
            rw [List.length_map, List.length_map, List.length_take] at e
            omega
          have hi : i < vs.length := (List.getElem?_eq_some_iff.mp hx).1
          refine ⟨_, s3 _ _ hD2, ?_, zs ++ [z], ?_, ?_, ?_⟩
          · rw [List.length_map]
            exact Nat.lt_of_le_of_lt (show zs.length ≤ 5000 by omega) (by decide)
          · rw [List.map_append, ez, List.take_add_one, hd, List.map_append, List.map_cons, List.map_nil, hz]
            rfl
          · rw [upd_same, List.map_append]
            rfl
          · intro b o h
            rw [upd_ne (ne_of_none h hD)]
            exact s3 _ _ (s2 _ _ h)
        · rintro H2 ⟨zs, ez, hD2, s2⟩
          rw [hvl, List.take_length] at ez
          have ef := pkAll_flat ez
          have esum := sum_len zs
          rw [ef] at esum
          have hpl := pkAll_len okA
          refine ⟨"", D, zs, rfl, rfl, .inl (.inl (.inl hD2)), ?_, ?_⟩
          · rw [esum]
            show _ + zs.length * 0 ≤ 16777216
            omega
          have ej : cp (Txt.join "" zs) = pkAll ds := (cp_joinT zs).trans ef
          have ec : cp ("(" ++ Txt.join "" zs ++ ")" : Str) = pk (.tuple ds) := by
            rw [cp_app, cp_app, ej]
            have e2 : cp ("(" : Str) = [40] := by decide +kernel
            have e3 : cp (")" : Str) = [41] := by decide +kernel
            rw [e2, e3]
            simp only [pk]
            simp
          have el := len_of ec ok hs
          rw [Str.length_append, Str.length_append] at el
          refine ⟨_, _, rfl, rfl, add_le (n := 1000000) (by omega) (by decide), _, _, rfl, rfl, ?_, q _ _ ec s2⟩
          rw [Str.length_append]
          exact Nat.le_trans el (by decide)
    | lst _ _ => simp [okD] at ok
end
end K14

set_option maxHeartbeats 4000000
namespace K14
open PySem PySem.Spec PyProof.Rows L2 HG K13 CwR
open P14 (Tx Runs digit)
section
variable {P : Program} {w : World} {K : PySem.W.Frag} {mg : Str → Option Value} {base : Heap}
def spBent (K : PySem.W.Frag) : Sp := fun vs H Q _ => ∃ (d c : Addr) (n m R : Nat) (z : Str), vs = [.ref d, .str z] ∧ n + 10 < 2 ^ 60 ∧ Deck d c n H ∧ Tx m R z ∧ m ≤ 600000 ∧
  ∀ (z' : Str) (H' : Hp), Tx (2 * m + 2) (2 * R + 2) z' → Deck d c (n + 4) H' → Ext d c H H' → Q (.str z') H'
theorem sl_le {a b : Str} {m n : Nat} (h1 : a.length ≤ m) (h2 : b.length ≤ n) (h : m + n ≤ 10000000) : a.length + b.length ≤ sizeLine := Nat.le_trans (Nat.add_le_add h1 h2) (Nat.le_trans h (by decide))
theorem sg_all : ∀ ch ∈ cp ("()TFNis:;-0123456789 a_" : Str), ch < 128 := by decide +kernel
theorem c58 : cp (":" : Str) = [58] := by decide +kernel
theorem c105 : cp ("i" : Str) = [105] := by decide +kernel
theorem c1050 : cp ("i0" : Str) = [105, 48] := by decide +kernel
theorem cutS2 {z : Str} {a : Int} (h : 0 ≤ a) : (cutS z (some a) (some (a + 2))).length ≤ 2 := by
  obtain ⟨k, rfl⟩ := Int.eq_ofNat_of_zero_le h
  have e : cp (cutS z (some (k : Int)) (some ((k : Int) + 2))) = ((cp z).drop (HT.sIx z.length 0 (some (k : Int)))).take (HT.sIx z.length z.length (some ((k : Int) + 2)) - HT.sIx z.length 0 (some (k : Int))) := by
    unfold cutS cp
    simp
  rw [← cp_len, e, List.length_take]
  have e2 : ((k : Int) + 2) = ((k + 2 : Nat) : Int) := by omega
  rw [e2, HT.sIx_nat, HT.sIx_nat]
  omega
set_option pp.maxSteps 600 in
theorem ok_bent (T : Txt w K mg) : ∃ fd, FnOk P w K mg base CX0 3 (He.ga K "_law_bent") fd ["_law_deck_here", "_law_text"] (spBent K) ∧ Binds K fd ["_law_deck_here", "_law_text"] [] := by
  obtain ⟨fd, F⟩ := T.d__law_bent
  have C__law_draw := c_draw (P := P) (w := w) (base := base) T
  have C__law_pick := c_pick (P := P) (w := w) (base := base) T
  refine ⟨fd, F.ok sc__law_bent (fun vs H Q E h => ?_) (fun cdv A outer s H vs Q E hr h => ?_), F.bindsN fun _ _ _ _ _ _ us hl => match us, hl with | [_, _], _ => rfl⟩
  · obtain ⟨d, c, n, m, R, z, rfl, _⟩ := h
    rfl
  obtain ⟨d, c, n, m, R, z, rfl, hn, D, tz, hm, q⟩ := h
  have hz0 := tz.ok.len
  have hz : z.length ≤ sizeLine := Nat.le_trans hz0 (Nat.le_trans hm (by decide))
  refine ⟨_, PSs.nox (pss_cons (ps_par (i := 2) (j := 3) rfl sc__law_bent.nd rfl rfl (by decide) rfl rfl (pa_cons (pe_cal C__law_draw (hr.mono (by omega)) (by rfl) (pa_cons (pv 0) (pa_cons (pe_op op_add (pe_callB call_len (by rfl) T.n_len (by decide +kernel) (pa_cons (pv 1) pa_nil)) pe_int) pa_nil))) (pa_cons (pe_cal C__law_draw (hr.mono (by omega)) (by rfl) (pa_cons (pv 0) (pa_cons (pe_op op_add (pe_callB call_len (by rfl) T.n_len (by decide +kernel) (pa_cons (pv 1) pa_nil)) pe_int) pa_nil))) pa_nil)) (by rfl))
      (pssa_cons (psa_par (i := 4) (j := 5) rfl sc__law_bent.nd rfl rfl (by decide) rfl rfl (paa_head (pea_cal C__law_pick (hr.mono (by omega)) (by rfl) (paa_cons (pv 0) (paa_last pea_str))) (pa_cons (pe_cal C__law_draw (hr.mono (by omega)) (by rfl) (pa_cons (pv 0) (pa_cons pe_int pa_nil))) pa_nil)) (by rfl))
      (psst_cons (PST.of (ps_set (i := 6) sc__law_bent.nd rfl (.inl rfl) (pe_lst (pa_cons (pe_op op_add_str (pe_op op_add_str (pe_slice sl_str (pv 1) po_none (po_some (pv 2))) (pv 4)) (pe_slice sl_str (pv 1) (po_some (pv 2)) po_none)) (pa_cons (pe_op op_add_str (pe_slice sl_str (pv 1) po_none (po_some (pv 2))) (pe_slice sl_str (pv 1) (po_some (pe_op op_add (pv 2) pe_int)) po_none)) (pa_cons (pe_op op_add_str (pe_op op_add_str (pe_slice sl_str (pv 1) po_none (po_some (pv 2))) (pv 4)) (pe_slice sl_str (pv 1) (po_some (pe_op op_add (pv 2) pe_int)) po_none)) pa_nil))))))
      (psst_cons (PST.of (ps_set (i := 6) sc__law_bent.nd rfl (.inl rfl) (pe_op op_cat (pv 6) (pe_lst (pa_cons (pe_op op_add_str (pe_op op_add_str (pe_slice sl_str (pv 1) po_none (po_some (pv 2))) (pe_revS (pe_slice sl_str (pv 1) (po_some (pv 2)) (po_some (pe_op op_add (pv 2) pe_int))))) (pe_slice sl_str (pv 1) (po_some (pe_op op_add (pv 2) pe_int)) po_none)) (pa_cons (pe_op op_add_str (pe_slice sl_str (pv 1) po_none (po_some (pv 2))) (pe_slice sl_str (pv 1) (po_some (pe_callB (call_min2 rfl) (by rfl) T.n_min (by decide +kernel) (pa_cons (pv 2) (pa_cons (pv 3) pa_nil)))) po_none)) pa_nil))))))
      (psst_cons (pst_set (i := 6) sc__law_bent.nd rfl (.inl rfl) (pet_op op_cat (PET.of (pv 6)) (pet_lst (pat_cons (pet_replC (pv 1)) (pat_cons (pet_replA (pv 1) (pv 4)) pat_nil)))))
      (psst_one (PST.of (ps_ret (pe_ix ix_list (pv 6) (pv 5) (fun _ _ => rfl)))))))))), ?_⟩
  have hmany : ((z.length : Int) + 1) < 10 ^ 40 := by
    have : (1000000 : Int) < 10 ^ 40 := by decide
    omega
  refine ⟨.ref d, rfl, .str z, rfl, .str z, z.length, rfl, ⟨hz, rfl⟩, _, _, rfl, rfl, d, c, n, _, rfl, by omega, hmany, by omega, D, fun a H1 a0 a1 D1 X1 => ?_⟩
  refine ⟨.ref d, rfl, .str z, rfl, .str z, z.length, rfl, ⟨hz, rfl⟩, _, _, rfl, rfl, d, c, n + 1, _, rfl, by omega, hmany, by omega, D1, fun b H2 b0 b1 D2 X2 => ?_⟩
  refine ⟨_, _, rfl, ?_⟩
  refine ⟨.ref d, rfl, d, c, n + 2, _, rfl, by omega, D2, .inl ⟨_, rfl, (by decide +kernel), (by decide +kernel), fun ch H3 hch D3 X3 => ?_⟩⟩
  refine ⟨.ref d, rfl, d, c, n + 3, 7, rfl, by decide, by decide, by omega, D3, fun wy H4 w0 w1 D4 X4 => ?_⟩
  refine ⟨_, _, rfl, ?_⟩
  have tg : Tx 1 1 (⟨#[ch]⟩ : Str) := Tx.short (OkS.one (sg_all ch hch))
  have hg := tg.ok.len
  have cutT : ∀ lo hi, Tx m R (cutS z lo hi) := fun lo hi => tz.cut lo hi
  have cutL : ∀ lo hi, (cutS z lo hi).length ≤ m := fun lo hi => (tz.cut lo hi).ok.len
  -- the first three
  refine ⟨.str z, rfl, .int a, rfl, _, rfl, z, rfl, hz, .str ⟨#[ch]⟩, rfl, _, _, rfl, rfl, sl_le (cutL _ _) hg (by omega), .str z, rfl, .int a, rfl, _, rfl, z, rfl, hz, _, _, rfl, rfl, sl_le ((cutT _ _).app tg).ok.len (cutL _ _) (by omega), ?_⟩
  refine ⟨.str z, rfl, .int a, rfl, _, rfl, z, rfl, hz, .str z, rfl, .int a, rfl, _, _, rfl, rfl, _, rfl, z, rfl, hz, _, _, rfl, rfl, sl_le (cutL _ _) (cutL _ _) (by omega), ?_⟩
  refine ⟨.str z, rfl, .int a, rfl, _, rfl, z, rfl, hz, .str ⟨#[ch]⟩, rfl, _, _, rfl, rfl, sl_le (cutL _ _) hg (by omega), .str z, rfl, .int a, rfl, _, _, rfl, rfl, _, rfl, z, rfl, hz, _, _, rfl, rfl, sl_le ((cutT _ _).app tg).ok.len (cutL _ _) (by omega), ?_⟩
  have g1 : Tx (2 * m + 2) (2 * R + 2) (cutS z none (some a) ++ ⟨#[ch]⟩ ++ cutS z (some a) none) := (((cutT _ _).app tg).app (cutT _ _)).up (by omega) (by omega)
  have g2 : Tx (2 * m + 2) (2 * R + 2) (cutS z none (some a) ++ cutS z (some (a + 1)) none) := ((cutT _ _).app (cutT _ _)).up (by omega) (by omega)
  have g3 : Tx (2 * m + 2) (2 * R + 2) (cutS z none (some a) ++ ⟨#[ch]⟩ ++ cutS z (some (a + 1)) none) := (((cutT _ _).app tg).app (cutT _ _)).up (by omega) (by omega)
  generalize cutS z none (some a) ++ ⟨#[ch]⟩ ++ cutS z (some a) none = z1 at g1 ⊢
  generalize cutS z none (some a) ++ cutS z (some (a + 1)) none = z2 at g2 ⊢
  generalize cutS z none (some a) ++ ⟨#[ch]⟩ ++ cutS z (some (a + 1)) none = z3 at g3 ⊢
  refine ⟨(by show 3 ≤ sizeLine; decide), fun p1 hp1 => ?_⟩
  have l1 : (upd H4 p1 (.lst [.str z1, .str z2, .str z3])) p1 = some (.lst [.str z1, .str z2, .str z3]) := upd_same
  have D5 := D4.new (o := .lst [.str z1, .str z2, .str z3]) hp1
  have X5 := (((X1.trans X2).trans X3).trans X4).trans (Ext.new (o := .lst [.str z1, .str z2, .str z3]) hp1)
  generalize upd H4 p1 (.lst [.str z1, .str z2, .str z3]) = H5 at l1 D5 X5 ⊢
  -- the next two
  have tr : Tx 2 2 (revT (cutS z (some a) (some (a + 2)))) := Tx.short (rev_ok (cutT _ _).ok (cutS2 a0))
  have hrv := tr.ok.len
  refine ⟨.ref p1, rfl, .str z, rfl, .int a, rfl, _, rfl, z, rfl, hz, .str z, rfl, .int a, rfl, _, rfl, .int a, rfl, _, _, rfl, rfl, _, rfl, z, rfl, hz, _, rfl, Nat.le_trans hrv (by decide), _, _, rfl, rfl, sl_le (cutL _ _) hrv (by omega), .str z, rfl, .int a, rfl, _, _, rfl, rfl, _, rfl, z, rfl, hz, _, _, rfl, rfl, sl_le ((cutT _ _).app tr).ok.len (cutL _ _) (by omega), ?_⟩
  refine ⟨.str z, rfl, .int a, rfl, _, rfl, z, rfl, hz, .str z, rfl, .int a, rfl, .int b, rfl, _, _, rfl, _, rfl, z, rfl, hz, _, _, rfl, rfl, sl_le (cutL _ _) (cutL _ _) (by omega), ?_⟩
  have g4 : Tx (2 * m + 2) (2 * R + 2) (cutS z none (some a) ++ revT (cutS z (some a) (some (a + 2))) ++ cutS z (some (a + 2)) none) := (((cutT _ _).app tr).app (cutT _ _)).up (by omega) (by omega)
  have g5 : Tx (2 * m + 2) (2 * R + 2) (cutS z none (some a) ++ cutS z (some (if b < a then b else a)) none) := ((cutT _ _).app (cutT _ _)).up (by omega) (by omega)
  generalize cutS z none (some a) ++ revT (cutS z (some a) (some (a + 2))) ++ cutS z (some (a + 2)) none = z4 at g4 ⊢
  generalize cutS z none (some a) ++ cutS z (some (if b < a then b else a)) none = z5 at g5 ⊢
  refine ⟨(by show 2 ≤ sizeLine; decide), fun p2 hp2 => ?_⟩
  have l1 := upd_get (o := .lst [.str z4, .str z5]) hp2 l1
  have l2 : (upd H5 p2 (.lst [.str z4, .str z5])) p2 = some (.lst [.str z4, .str z5]) := upd_same
  have D6 := D5.new (o := .lst [.str z4, .str z5]) hp2
  have X6 := X5.trans (Ext.new (o := .lst [.str z4, .str z5]) hp2)
  generalize upd H5 p2 (.lst [.str z4, .str z5]) = H6 at l1 l2 D6 X6 ⊢
  refine ⟨p1, p2, _, _, rfl, rfl, l1, l2, (by show 5 ≤ sizeLine; decide), fun p3 hp3 => ?_⟩
  have l3 : (upd H6 p3 (.lst ([.str z1, .str z2, .str z3] ++ [.str z4, .str z5]))) p3 = some (.lst [.str z1, .str z2, .str z3, .str z4, .str z5]) := upd_same
  have D7 := D6.new (o := .lst ([.str z1, .str z2, .str z3] ++ [.str z4, .str z5])) hp3
  have X7 := X6.trans (Ext.new (o := .lst ([.str z1, .str z2, .str z3] ++ [.str z4, .str z5])) hp3)
  generalize upd H6 p3 (.lst ([.str z1, .str z2, .str z3] ++ [.str z4, .str z5])) = H7 at l3 D7 X7 ⊢
  -- the last two
  have hi0 : ("i0" : Str).length = 2 := rfl
  have hcl : ((⟨#[ch]⟩ : Str) ++ ":").length = 2 := rfl
  refine ⟨.ref p3, rfl, .str z, rfl, z, rfl, by rw [hi0]; omega, .str z, rfl, z, rfl, .str ⟨#[ch]⟩, rfl, ⟨#[ch]⟩, rfl, (by show 1 ≠ 0; decide), by rw [hcl]; omega, (by show 1 ≤ 1000; decide), ?_⟩
  have g6 : Tx (2 * m + 2) (2 * R + 2) (Txt.replace z "i" "i0") := (tz.repl c105 c1050 (by decide) (by decide) (.inl (by decide))).up (by omega) (by omega)
  have g7 : Tx (2 * m + 2) (2 * R + 2) (Txt.replace z ":" (⟨#[ch]⟩ ++ ":")) := (tz.repl (a := ch) (b := 58) c58 (by rw [cp_app, c58]; rfl) (sg_all ch hch) (by decide) (.inr (by decide))).up (by omega) (by omega)
  generalize Txt.replace z "i" "i0" = z6 at g6 ⊢
  generalize Txt.replace z ":" (⟨#[ch]⟩ ++ ":") = z7 at g7 ⊢
  refine ⟨(by show 2 ≤ sizeLine; decide), fun p4 hp4 => ?_⟩
  have l3 := upd_get (o := .lst [.str z6, .str z7]) hp4 l3
  have l4 : (upd H7 p4 (.lst [.str z6, .str z7])) p4 = some (.lst [.str z6, .str z7]) := upd_same
  have D8 := D7.new (o := .lst [.str z6, .str z7]) hp4
  have X8 := X7.trans (Ext.new (o := .lst [.str z6, .str z7]) hp4)
  generalize upd H7 p4 (.lst [.str z6, .str z7]) = H8 at l3 l4 D8 X8 ⊢
  refine ⟨p3, p4, _, _, rfl, rfl, l3, l4, (by show 7 ≤ sizeLine; decide), fun p5 hp5 => ?_⟩
  obtain ⟨j, rfl⟩ := Int.eq_ofNat_of_zero_le w0
  have hj : j < 7 := by omega
  obtain ⟨y, hy, gy⟩ : ∃ y : Str, ([V.str z1, .str z2, .str z3, .str z4, .str z5] ++ [.str z6, .str z7])[j]? = some (V.str y) ∧ Tx (2 * m + 2) (2 * R + 2) y := by
    match j, hj with
    | 0, _ => exact ⟨z1, rfl, g1⟩
    | 1, _ => exact ⟨z2, rfl, g2⟩
    | 2, _ => exact ⟨z3, rfl, g3⟩
    | 3, _ => exact ⟨z4, rfl, g4⟩
    | 4, _ => exact ⟨z5, rfl, g5⟩
    | 5, _ => exact ⟨z6, rfl, g6⟩
    | 6, _ => exact ⟨z7, rfl, g7⟩
  exact ⟨.ref p5, rfl, .int _, rfl, p5, _, _, .str y, rfl, rfl, .inl (.inl upd_same), atI_nat hy, q y _ gy (D8.new hp5) (X8.trans (Ext.new hp5))⟩
end
end K14

set_option maxHeartbeats 4000000
namespace K14
open PySem PySem.Spec PyProof.Rows L2 HG K13
open P14 (num fnd okW plainW worth digit Runs fnd_some fnd_none okW_ways plain_part strv)
abbrev CU (K : PySem.W.Frag) : Addr := He.ga K "Unpacker"
abbrev CI (K : PySem.W.Frag) : Value := .ref (He.ga K "InvalidText")
def UnO (K : PySem.W.Frag) (dx : Addr) (z : Str) (k : Nat) : HO := .ins (CU K) dx [("text", .str z), ("at", .int (k : Int))]
/-- all but u stays -/
def Ux (u : Addr) (H H' : Hp) : Prop := ∀ b o, b ≠ u → H b = some o → H' b = some o
theorem Ux.refl (u : Addr) (H : Hp) : Ux u H H := fun _ _ _ h => h
theorem Ux.trans {u : Addr} {H H1 H2 : Hp} (a : Ux u H H1) (b : Ux u H1 H2) : Ux u H H2 := fun x o n h => b x o n (a x o n h)
theorem Ux.put {u : Addr} {H : Hp} {o : HO} : Ux u H (upd H u o) := fun b x n h => by rw [upd_ne n]; exact h
theorem Ux.new {u p : Addr} {H : Hp} {o : HO} (hp : H p = none) : Ux u H (upd H p o) := fun b x n h => upd_get hp h
theorem Ux.mut {u p : Addr} {H H' : Hp} {o : HO} (e : Ux u H H') (hp : H p = none) : Ux u H (upd H' p o) := fun b x n h => by
  rw [upd_ne (ne_of_none h hp)]
  exact e b x n h
theorem Ux.T {u : Addr} {H H' : Hp} {o : HO} (e : Ux u H H') (hu : H u = some o) (ho : tupO o = false) : SameT H H' := fun b x h t => e b x (fun z => by
  rw [z, hu] at h
  cases h
  rw [ho] at t
  cases t) h
/-- a text that may be read -/
structure Rd (z : Str) : Prop where
  len : z.length ≤ 2000000
  asc : ∀ c ∈ cp z, c < 128
  run : Runs 4000 (cp z)
theorem Rd.sz {z : Str} (h : Rd z) : z.length ≤ sizeLine := Nat.le_trans h.len (by decide)
theorem dig_is (c : Nat) : decide (c ∈ cp ("0123456789" : Str)) = digit c := by
  have e : cp ("0123456789" : Str) = [48, 49, 50, 51, 52, 53, 54, 55, 56, 57] := by decide +kernel
  rw [e]
  unfold digit
  by_cases h : 48 ≤ c ∧ c ≤ 57
  · rw [decide_eq_true h.1, decide_eq_true h.2]
    refine decide_eq_true ?_
    have : c = 48 ∨ c = 49 ∨ c = 50 ∨ c = 51 ∨ c = 52 ∨ c = 53 ∨ c = 54 ∨ c = 55 ∨ c = 56 ∨ c = 57 := by omega
    simpa using this
  · have h2 : (decide (48 ≤ c) && decide (c ≤ 57)) = false := by
      rw [← Bool.decide_and]
      exact decide_eq_false h
    rw [h2]
    refine decide_eq_false fun q => h ?_
    simp at q
    omega
/-- find from a place on -/
theorem find_is (z : Str) (e k : Nat) : Txt.find3 z ⟨#[e]⟩ (k : Int) = match fnd e ((cp z).drop k) with | none => -1 | some j => ((k + j : Nat) : Int) := by
  have key : ∀ v, k ≤ v → v < z.length → (z.cps.getD v 0 = e ↔ ((cp z).drop k)[v - k]? = some e) := fun v h1 h2 => by
    rw [getD_cp, List.getElem?_drop, show k + (v - k) = v by omega]
    have hv : v < (cp z).length := by rw [cp_len]; exact h2
    rw [List.getElem?_eq_getElem hv]
    simp
  rcases StrLaws.find3_spec z e (k : Int) with ⟨h1, hn⟩ | ⟨v, h1, h2, h3, h4, h5⟩
  · rw [from_nat] at hn
    rw [h1]
    cases hf : fnd e ((cp z).drop k) with
    | none => rfl
    | some j =>
      exfalso
      have hj := (fnd_some hf).1
      have hl := (List.getElem?_eq_some_iff.mp hj).1
      rw [List.length_drop, cp_len] at hl
      refine hn (k + j) (by omega) (by omega) ((key (k + j) (by omega) (by omega)).mpr ?_)
      rw [Nat.add_sub_cancel_left]
      exact hj
  · rw [from_nat] at h2 h5
    rw [h1]
    have hv : v < z.length := by omega
    have hkv : k ≤ v := by omega
    have hat := (key v hkv hv).mp h4
    cases hf : fnd e ((cp z).drop k) with
    | none => exact absurd hat (fnd_none hf _)
    | some j =>
      have hs := fnd_some hf
      have : j = v - k := by
        rcases Nat.lt_trichotomy j (v - k) with q | q | q
        · exfalso
          refine h5 (k + j) (by omega) (by omega) ((key (k + j) (by omega) (by omega)).mpr ?_)
          rw [Nat.add_sub_cancel_left]
          exact hs.1
        · exact q
        · exact absurd hat (hs.2 _ q)
      show (v : Int) = ((k + j : Nat) : Int)
      rw [this, Nat.add_sub_cancel' hkv]
theorem cut_dt {z : Str} {k j : Nat} (h : k + j ≤ z.length) : cp (cutS z (some (k : Int)) (some ((k + j : Nat) : Int))) = ((cp z).drop k).take j := by
  have e : cp (cutS z (some (k : Int)) (some ((k + j : Nat) : Int))) = ((cp z).drop (HT.sIx z.length 0 (some (k : Int)))).take (HT.sIx z.length z.length (some ((k + j : Nat) : Int)) - HT.sIx z.length 0 (some (k : Int))) := by
    unfold cutS cp
    simp
  rw [e, sIx_at (k := k) (by omega), sIx_at (k := k + j) h, Nat.add_sub_cancel_left]
theorem head_is (z : Str) : decide (V.str (cutS z none (some 1)) = V.str "-") = decide ((cp z).head? = some 45) := by
  cases h : cp z with
  | nil =>
    have hz : z = "" := cp_ext h
    subst hz
    decide +kernel
  | cons c r =>
    rw [cut_head h]
    show _ = decide (some c = some 45)
    by_cases hc : c = 45
    · subst hc
      decide +kernel
    · rw [decide_eq_false (show ¬ some c = some 45 from fun q => hc (Option.some.inj q))]
      refine decide_eq_false fun q => hc ?_
      have h1 : (⟨#[c]⟩ : Str) = "-" := V.str.inj q
      have h2 := congrArg cp h1
      have h3 : cp ("-" : Str) = [45] := by decide +kernel
      rw [h3] at h2
      injection h2
theorem one_is (c : Nat) (x : Str) (d : Nat) (h : cp x = [d]) : decide (V.str ⟨#[c]⟩ = V.str x) = decide (c = d) := by
  by_cases hc : c = d
  · subst hc
    rw [decide_eq_true rfl]
    refine decide_eq_true ?_
    congr 1
    exact cp_ext h.symm
  · rw [decide_eq_false hc]
    refine decide_eq_false fun q => hc ?_
    have h1 : (⟨#[c]⟩ : Str) = x := V.str.inj q
    have h2 := congrArg cp h1
    rw [h] at h2
    injection h2
theorem text_is (x y : Str) : decide (V.str x = V.str y) = decide (cp x = cp y) := by
  by_cases h : cp x = cp y
  · rw [decide_eq_true h, cp_ext h]
    exact decide_eq_true rfl
  · rw [decide_eq_false h]
    exact decide_eq_false fun q => h (by rw [V.str.inj q])
theorem c0 : cp ("0" : Str) = [48] := by decide +kernel
theorem ce : cp ("" : Str) = [] := by decide +kernel
theorem worth_text {x : Str} (h : okW (cp x) = true) (hl : x.length ≤ 4300) : PySem.intText? x = some (worth (cp x)) := by
  obtain ⟨h1, _, h3, _⟩ := okW_ways h
  have h4 : ∀ c ∈ plainW (cp x), 48 ≤ c ∧ c ≤ 57 := fun c hc => by
    have := List.all_eq_true.mp h3 c hc
    unfold digit at this
    simpa using this
  unfold worth
  unfold plainW at h1 h4
  split
  · rename_i hh
    rw [if_pos hh] at h1 h4
    cases e : cp x with
    | nil => rw [e] at hh; cases hh
    | cons c r =>
      rw [e] at hh h1 h4
      have hc : c = 45 := Option.some.inj hh
      subst hc
      exact intText_neg (x := x) (cs := r) e h4 h1 hl
  · rename_i hh
    rw [if_neg hh] at h1 h4
    exact intText_digits (x := x) h4 h1 hl
theorem signs_text {x : Str} (h : okW (cp x) = true) : ∀ c ∈ cp x, c = 45 ∨ (48 ≤ c ∧ c ≤ 57) := by
  obtain ⟨_, _, h3, _⟩ := okW_ways h
  intro c hc
  have h4 : ∀ c ∈ plainW (cp x), 48 ≤ c ∧ c ≤ 57 := fun c hc => by
    have := List.all_eq_true.mp h3 c hc
    unfold digit at this
    simpa using this
  unfold plainW at h4
  split at h4
  · rename_i hh
    cases e : cp x with
    | nil => rw [e] at hc; cases hc
    | cons a r =>
      rw [e] at hh h4 hc
      have ha : a = 45 := Option.some.inj hh
      rcases List.mem_cons.mp hc with q | q
      · exact .inl (by omega)
      · exact .inr (h4 c q)
  · exact .inr (h4 c hc)
section
variable {P : Program} {w : World} {K : PySem.W.Frag} {mg : Str → Option Value} {base : Heap}
/-! ### need -/
def spNeed (K : PySem.W.Frag) : Sp := fun vs H Q E => ∃ (u : V) (b : Bool), vs = [u, .bl b] ∧ (b = true → Q .non H) ∧ (b = false → E (CI K) none H)
theorem m_need (T : Txt w K mg) (hP : PrgOk file P) : MetX P w K mg base 2 (CU K) "need" (spNeed K) := by
  obtain ⟨fd, F⟩ := T.d_Unpacker_need
  refine ⟨_, fd, ["self", "condition"], T.cl_Unpacker, T.m_Unpacker_need, okX F sc_Unpacker_need (fun vs H Q E h => ?_) (fun cdv A outer s H vs Q E hr h => ?_), F.bindsN fun _ _ _ _ _ _ us hl => match us, hl with | [_, _], _ => rfl⟩
  · obtain ⟨u, b, rfl, _⟩ := h
    rfl
  obtain ⟨u, b, rfl, q1, q2⟩ := h
  refine ⟨_, (pss_one (ps_if (pt_not (pt_val (pv 1))) (pss_one (ps_raise0 rfl (T.e_InvalidText hP) T.x_InvalidText.ex T.x_InvalidText.ty (hr.mono (by omega)) (takes_of rfl rfl rfl rfl) (by rfl) (fun _ _ _ _ _ _ _ => rfl))) pss_nil)), ?_⟩
  cases b with
  | true => exact ⟨.bl true, rfl, _, rfl, iteF (q1 rfl)⟩
  | false => exact ⟨.bl false, rfl, _, rfl, iteT (q2 rfl)⟩
/-! ### next_sign -/
def spNext (K : PySem.W.Frag) : Sp := fun vs H Q E => ∃ (u dx : Addr) (z : Str) (k : Nat), vs = [.ref u] ∧ H u = some (UnO K dx z k) ∧ Rd z ∧
  (∀ c, (cp z)[k]? = some c → ∀ H', Ux u H H' → H' u = some (UnO K dx z (k + 1)) → Q (.str ⟨#[c]⟩) H') ∧ ((cp z)[k]? = none → E (CI K) none H)
theorem m_next (T : Txt w K mg) (hP : PrgOk file P) : MetX P w K mg base 3 (CU K) "next_sign" (spNext K) := by
  obtain ⟨fd, F⟩ := T.d_Unpacker_next_sign
  have M_Unpacker_need := m_need (P := P) (base := base) T hP
  refine ⟨_, fd, ["self"], T.cl_Unpacker, T.m_Unpacker_next_sign, okX F sc_Unpacker_next_sign (fun vs H Q E h => ?_) (fun cdv A outer s H vs Q E hr h => ?_), F.bindsN fun _ _ _ _ _ _ us hl => match us, hl with | [_], _ => rfl⟩
  · obtain ⟨u, dx, z, k, rfl, _⟩ := h
    rfl
  obtain ⟨u, dx, z, k, rfl, hu, hz, q1, q2⟩ := h
  have hzs := hz.sz
  refine ⟨_, (pss_cons (ps_expr (pe_mtX M_Unpacker_need hr (by omega) (takes_of rfl rfl rfl rfl) (pv 0) (pa_cons (pe_cmpR op_lt (pe_fld (pv 0) rfl) (pe_callB call_len (by rfl) T.n_len (by decide +kernel) (pa_cons (pe_fld (pv 0) rfl) pa_nil)) (nomark _)) pa_nil)))
      (pss_cons (ps_fldaug (pv 0) pe_int in_add)
      (pss_one (ps_ret (pe_ix ix_str (pe_fld (pv 0) rfl) (pe_op op_sub (pe_fld (pv 0) rfl) pe_int) (fun _ _ => rfl)))))), ?_⟩
  refine ⟨.ref u, rfl, u, dx, _, rfl, hu, rfl, .ref u, rfl, u, CU K, dx, _, .int k, rfl, hu, T.cl_Unpacker, T.no_Unpacker_at, rfl, .ref u, rfl, u, CU K, dx, _, .str z, rfl, hu, T.cl_Unpacker, T.no_Unpacker_text, rfl,
    .str z, z.length, rfl, ⟨hzs, rfl⟩, k, z.length, rfl, rfl, .ref u, _, rfl, fun hb => ?_, fun hb => q2 ?_⟩
  rotate_left
  · have := of_decide_eq_false hb
    rw [List.getElem?_eq_none_iff, cp_len]
    omega
  have hk : k < (cp z).length := by
    have := of_decide_eq_true hb
    rw [cp_len]
    omega
  have hc := List.getElem?_eq_getElem hk
  refine ⟨.ref u, rfl, u, CU K, dx, _, .int k, rfl, hu, T.cl_Unpacker, T.no_Unpacker_at, rfl, k, 1, rfl, rfl, dx, _, hu, (by show 2 < 1000; decide), ?_⟩
  have eo : HO.ins (CU K) dx (putF "at" (.int ((k : Int) + 1)) [("text", .str z), ("at", .int (k : Int))]) = UnO K dx z (k + 1) := rfl
  have hu2 : (upd H u (UnO K dx z (k + 1))) u = some (UnO K dx z (k + 1)) := upd_same
  have x2 : Ux u H (upd H u (UnO K dx z (k + 1))) := Ux.put
  rw [eo]
  generalize upd H u (UnO K dx z (k + 1)) = H2 at hu2 x2 ⊢
  have e1 : (((k + 1 : Nat) : Int) - 1) = (k : Int) := by omega
  refine ⟨.ref u, rfl, u, CU K, dx, _, .str z, rfl, hu2, T.cl_Unpacker, T.no_Unpacker_text, rfl, .ref u, rfl, u, CU K, dx, _, .int ((k + 1 : Nat) : Int), rfl, hu2, T.cl_Unpacker, T.no_Unpacker_at, rfl, _, _, rfl, rfl, z, _, _, rfl, rfl, hzs, ?_, q1 _ hc _ x2 hu2⟩
  rw [e1]
  exact atI_nat hc
/-! ### number -/
def spNumber (K : PySem.W.Frag) : Sp := fun vs H Q E => ∃ (u dx : Addr) (z : Str) (k e : Nat), vs = [.ref u, .str ⟨#[e]⟩] ∧ H u = some (UnO K dx z k) ∧ Rd z ∧
  (∀ i k', num (cp z) k e = some (i, k') → ∀ H', Ux u H H' → H' u = some (UnO K dx z k') → Q (.int i) H') ∧ (num (cp z) k e = none → ∀ H', Ux u H H' → E (CI K) none H')
set_option pp.maxSteps 600 in
theorem m_number (T : Txt w K mg) (hP : PrgOk file P) : MetX P w K mg base 3 (CU K) "number" (spNumber K) := by
  obtain ⟨fd, F⟩ := T.d_Unpacker_number
  have M_Unpacker_need := m_need (P := P) (base := base) T hP
  refine ⟨_, fd, ["self", "end"], T.cl_Unpacker, T.m_Unpacker_number, okX F sc_Unpacker_number (fun vs H Q E h => ?_) (fun cdv A outer s H vs Q E hr h => ?_), F.bindsN fun _ _ _ _ _ _ us hl => match us, hl with | [_, _], _ => rfl⟩
  · obtain ⟨u, dx, z, k, e, rfl, _⟩ := h
    rfl
  obtain ⟨u, dx, z, k, e, rfl, hu, hz, q1, q2⟩ := h
  have hzs := hz.sz
  refine ⟨_, (pss_cons (ps_set (i := 2) sc_Unpacker_number.nd rfl (.inl rfl) (pe_bm PySem.F.plainAttrs_str PySem.F.slot_str_find PySem.F.type_str_find mt_find3 (pe_fld (pv 0) rfl) (pa_cons (pv 1) (pa_cons (pe_fld (pv 0) rfl) pa_nil))))
      (pss_cons (ps_expr (pe_mtX M_Unpacker_need hr (by omega) (takes_of rfl rfl rfl rfl) (pv 0) (pa_cons (pe_cmpR op_ge (pv 2) pe_int (nomark _)) pa_nil)))
      (pss_cons (ps_set (i := 3) sc_Unpacker_number.nd rfl (.inl rfl) (pe_slice sl_str (pe_fld (pv 0) rfl) (po_some (pe_fld (pv 0) rfl)) (po_some (pv 2))))
      (pss_cons (ps_fld (pv 0) (pe_op op_add (pv 2) pe_int) (by rfl))
      (pss_cons (ps_set (i := 4) sc_Unpacker_number.nd rfl (.inl rfl) (pe_ifExp (pt_cmpR op_eq (pe_slice sl_str (pv 3) po_none (po_some pe_int)) pe_str (nomark _)) (pe_slice sl_str (pv 3) (po_some pe_int) po_none) (pv 3)))
      (pss_cons (ps_expr (pe_mtX M_Unpacker_need hr (by omega) (takes_of rfl rfl rfl rfl) (pv 0) (pa_cons (pe_and (pe_cmpR op_ne (pv 4) pe_str (nomark _)) (pe_and (pe_cmpR op_le (pe_callB call_len (by rfl) T.n_len (by decide +kernel) (pa_cons (pv 4) pa_nil)) (pe_globI T.c_LONGEST_NUMBER rfl) (nomark _)) (pe_one (pe_callB (cr_all rfl) (by rfl) T.n_all (by decide +kernel) (pa_cons (pe_lc (own := [("sign", 5)]) (by rfl) sc_Unpacker_number.nd (pi_str (pv 4)) (blkOk_by (own := [("sign", 5)]) (N := N_Unpacker_number) (sc := defScope s_Unpacker_number) (by decide +kernel)) (fun _ _ _ _ _ => (pg_name (i := 5) sc_Unpacker_number.nd rfl (.inl rfl))) (fun _ _ _ _ _ => pts_nil) (fun _ _ _ _ _ => (pe_cmpR op_in_sign (pv 5) (pe_globS T.c_DIGITS rfl) (by rfl)))) pa_nil))))) pa_nil)))
      (pss_cons (ps_expr (pe_mtX M_Unpacker_need hr (by omega) (takes_of rfl rfl rfl rfl) (pv 0) (pa_cons (pe_or (pe_cmpR op_ne (pe_ix ix_str (pv 4) pe_int (fun _ _ => rfl)) pe_str (nomark _)) (pe_one (pe_cmpR op_eq (pv 3) pe_str (nomark _)))) pa_nil)))
      (pss_one (ps_ret (pe_callTy (call_int_any rfl T.lim) (by rfl) T.n_int (by decide +kernel) (pa_cons (pv 3) pa_nil))))))))))), ?_⟩
  -- last = self.text.find(end, self.at)
  refine ⟨.ref u, rfl, u, CU K, dx, _, .str z, rfl, hu, T.cl_Unpacker, T.no_Unpacker_text, rfl, rfl, .str ⟨#[e]⟩, rfl, .ref u, rfl, u, CU K, dx, _, .int k, rfl, hu, T.cl_Unpacker, T.no_Unpacker_at, rfl, z, _, _, rfl, rfl, ?_⟩
  rw [find_is]
  cases hf : fnd e ((cp z).drop k) with
  | none =>
    have hn : num (cp z) k e = none := by unfold num; rw [hf]
    exact ⟨.ref u, rfl, u, dx, _, rfl, hu, rfl, .int (-1), rfl, _, _, rfl, rfl, .ref u, _, rfl, fun hb => absurd hb (by decide), fun _ => q2 hn H (Ux.refl u H)⟩
  | some j =>
  have hn : num (cp z) k e = if okW (((cp z).drop k).take j) = true then some (worth (((cp z).drop k).take j), k + j + 1) else none := by unfold num; rw [hf]
  have hj := (List.getElem?_eq_some_iff.mp (fnd_some hf).1).1
  rw [List.length_drop, cp_len] at hj
  have hkj : k + j ≤ z.length := by omega
  -- need(last >= 0)
  refine ⟨.ref u, rfl, u, dx, _, rfl, hu, rfl, .int _, rfl, _, _, rfl, rfl, .ref u, _, rfl, fun _ => ?_, fun hb => absurd hb (by rw [decide_eq_true (show (0 : Int) ≤ ((k + j : Nat) : Int) by omega)]; decide)⟩
  -- digits = self.text[self.at:last]
  refine ⟨.ref u, rfl, u, CU K, dx, _, .str z, rfl, hu, T.cl_Unpacker, T.no_Unpacker_text, rfl, .ref u, rfl, u, CU K, dx, _, .int k, rfl, hu, T.cl_Unpacker, T.no_Unpacker_at, rfl, _, rfl, .int _, rfl, _, rfl, z, rfl, hzs, ?_⟩
  have ed := cut_dt hkj
  generalize cutS z (some (k : Int)) (some ((k + j : Nat) : Int)) = dg at ed ⊢
  rw [← ed] at hn
  have hdl : dg.length ≤ 2000000 := by
    rw [← cp_len, ed, List.length_take, List.length_drop, cp_len]
    have := hz.len
    omega
  have hds : dg.length ≤ sizeLine := Nat.le_trans hdl (by decide)
  have hrun : Runs 4000 (cp dg) := by rw [ed]; exact hz.run.drop.take
  -- self.at = last + 1
  refine ⟨.int _, rfl, _, _, rfl, rfl, .ref u, rfl, u, CU K, dx, _, rfl, hu, T.cl_Unpacker, T.no_Unpacker_at, (by show 2 < 1000; decide), ?_⟩
  have eo : HO.ins (CU K) dx (putF "at" (.int (((k + j : Nat) : Int) + 1)) [("text", .str z), ("at", .int (k : Int))]) = UnO K dx z (k + j + 1) := rfl
  have hu2 : (upd H u (UnO K dx z (k + j + 1))) u = some (UnO K dx z (k + j + 1)) := upd_same
  have x2 : Ux u H (upd H u (UnO K dx z (k + j + 1))) := Ux.put
  rw [eo]
  generalize upd H u (UnO K dx z (k + j + 1)) = H2 at hu2 x2 ⊢
  have bad : okW (cp dg) ≠ true → ∀ H', Ux u H H' → E (CI K) none H' := fun h => q2 (by rw [hn, if_neg h])
  -- plain
  refine ⟨.str dg, rfl, 1, rfl, dg, rfl, hds, rfl, ?_⟩
  rw [head_is]
  refine ⟨_, rfl, ?_⟩
  cases hh : decide ((cp dg).head? = some 45) with
  | true =>
    refine iteT ⟨.str dg, rfl, 1, rfl, dg, rfl, hds, ?_⟩
    have hp : cp (cutS dg (some 1) none) = plainW (cp dg) := by
      have h1 := of_decide_eq_true hh
      unfold plainW
      rw [if_pos h1]
      cases e0 : cp dg with
      | nil => rw [e0] at h1; cases h1
      | cons c r => rw [cut_tail e0]; rfl
    generalize cutS dg (some 1) none = pl at hp ⊢
    have hpl : pl.length ≤ 2000000 := by
      rw [← cp_len, hp]
      obtain ⟨p, e1, _⟩ := plain_part (cp dg)
      have := congrArg List.length e1
      rw [List.length_append, cp_len] at this
      omega
    have hps : pl.length ≤ sizeLine := Nat.le_trans hpl (by decide)
    -- need(plain != '' and len(plain) <= LONGEST_NUMBER and all(..))
    refine ⟨.ref u, rfl, u, dx, _, rfl, hu2, rfl, .str pl, rfl, rfl, _, rfl, ite2 (fun h1 => ?_) (fun h1 => ⟨.ref u, _, rfl, fun hb => absurd hb Bool.false_ne_true, fun _ => bad (fun ok => ?_) H2 x2⟩)⟩
    rotate_left
    · refine h1 ?_
      rw [text_is, ce, hp]
      simpa using (okW_ways ok).1
    have hne : plainW (cp dg) ≠ [] := fun h => by
      rw [text_is, ce, hp, h] at h1
      exact absurd h1 (by decide)
    refine ⟨.str pl, rfl, .str pl, pl.length, rfl, ⟨hps, rfl⟩, _, _, rfl, rfl, _, rfl, ite2 (fun h2 => ?_) (fun h2 => ⟨.ref u, _, rfl, fun hb => absurd hb Bool.false_ne_true, fun _ => bad (fun ok => ?_) H2 x2⟩)⟩
    rotate_left
    · refine h2 (decide_eq_true ?_)
      have := (okW_ways ok).2.1
      rw [← hp, cp_len] at this
      omega
    have hlen : pl.length ≤ 4300 := by
      have := of_decide_eq_true h2
      omega
    refine ⟨.str pl, rfl, pl, rfl, fun D hD => ?_⟩
    refine lc_it walk_str (fun j' H3 => H3 D = some (.lst ((((cp pl).take j').map fun c => decide (c ∈ cp ("0123456789" : Str))).map V.bl)) ∧ H3 u = some (UnO K dx z (k + j + 1)) ∧ Ux u H H3) ⟨upd_same, upd_get hD hu2, x2.trans (Ux.new hD)⟩ (fun _ _ _ _ => trivial) ?_ ?_
    · rintro j' x H3 H4 hj' ⟨hD3, hu3, x3⟩ ⟨rfl, ch, hch, rfl⟩
      have nD : D ≠ u := fun h => by rw [h, hu2] at hD; cases hD
      refine ⟨rfl, tyes ⟨.str ⟨#[ch]⟩, rfl, ch, _, rfl, rfl, _, hD3, ?_, ?_, ?_, ?_⟩⟩
      · rw [List.length_map, List.length_map]
        refine Nat.lt_of_le_of_lt (Nat.le_trans (List.length_take_le' _ _) (by rw [cp_len]; exact hlen)) (by decide)
      · rw [upd_same]
        have e : (cp pl)[j']? = some ch := by
          show pl.cps.toList[j']? = some ch
          rw [Array.getElem?_toList]
          exact hch
        rw [List.take_add_one, e, List.map_append, List.map_append]
        rfl
      · rw [upd_ne nD.symm]
        exact hu3
      · intro b o n h
        have nb : b ≠ D := fun hb => by rw [hb] at h n; rw [x2 D o n h] at hD; cases hD
        rw [upd_ne nb]
        exact x3 b o n h
    rintro H3 ⟨hD3, hu3, x3⟩
    have eall : (cp pl).take pl.cps.size = cp pl := List.take_of_length_le (by rw [cp_len]; exact Nat.le_refl _)
    rw [eall] at hD3
    have ealld : (((cp pl).map fun c => decide (c ∈ cp ("0123456789" : Str))).all id) = (plainW (cp dg)).all digit := by
      rw [List.all_map]
      have e0 : (id ∘ fun c => decide (c ∈ cp ("0123456789" : Str))) = digit := funext fun c => dig_is c
      rw [e0]
      exact congrArg (fun l => l.all digit) hp
    refine ⟨D, _, rfl, .inl (.inl hD3), .ref u, _, rfl, fun hb => ?_, fun hb => bad (fun ok => ?_) H3 x3⟩
    rotate_left
    · have e1 := (okW_ways ok).2.2.1
      rw [← ealld] at e1
      have e2 : (((cp pl).map fun c => decide (c ∈ cp ("0123456789" : Str))).all id) = false := hb
      rw [e2] at e1
      cases e1
    have hall : (plainW (cp dg)).all digit = true := by rw [← ealld]; exact hb
    -- need(plain[0] != '0' or digits == '0')
    obtain ⟨p0, pr, ep⟩ : ∃ c r, cp pl = c :: r := by
      cases h : cp pl with
      | nil => rw [hp] at h; exact absurd h hne
      | cons c r => exact ⟨c, r, rfl⟩
    have at0 : atI (cp pl) 0 = some p0 := by
      rw [ep]
      exact atI_nat (j := 0) rfl
    have fin : okW (cp dg) = true → ∃ a n, [V.str dg] = [V.str a] ∧ PySem.intText? a = some n ∧ a.length ≤ sizeLine ∧ (∀ c ∈ cp a, c = 45 ∨ (48 ≤ c ∧ c ≤ 57)) ∧ Q (.int n) H3 := fun ok => by
      have hl : dg.length ≤ 4300 := by
        obtain ⟨p, e1, e2⟩ := plain_part (cp dg)
        have h1 := hrun.all (p := p) (s := []) (by rw [List.append_nil]; exact e1) hall
        have h2 := congrArg List.length e1
        rw [List.length_append, cp_len] at h2
        omega
      exact ⟨dg, _, rfl, worth_text ok hl, hds, signs_text ok, q1 _ _ (by rw [hn, if_pos ok]) H3 x3 hu3⟩
    have okIs : okW (cp dg) = (decide (p0 ≠ 48) || decide (cp dg = [48])) := by
      unfold okW
      rw [decide_eq_true hne, hall, ← hp, decide_eq_true (show (cp pl).length ≤ 4300 by rw [cp_len]; exact hlen), ep]
      simp
    refine ⟨.ref u, rfl, u, dx, _, rfl, hu3, rfl, .str pl, rfl, pl, 0, p0, rfl, rfl, hps, at0, rfl, _, rfl, ite2 (fun h => ⟨.ref u, _, rfl, fun _ => ⟨.str dg, rfl, fin ?_⟩, fun hb => (by first | exact absurd hb (by decide) | exact absurd (h.symm.trans hb) (by decide))⟩) (fun h => ⟨.str dg, rfl, rfl, .ref u, _, rfl, fun hb => ⟨.str dg, rfl, fin ?_⟩, fun hb => bad (fun ok => ?_) H3 x3⟩)⟩
    · rw [okIs]
      rw [one_is p0 "0" 48 c0] at h
      simp at h
      simp [h]
    · rw [okIs]
      rw [text_is, c0] at hb
      rw [hb]
      simp
    · rw [okIs] at ok
      rw [text_is, c0] at hb
      rw [one_is p0 "0" 48 c0] at h
      rw [hb] at ok
      simp at ok h
      exact ok h
  | false =>
    refine iteF ⟨.str dg, rfl, ?_⟩
    have hp : cp dg = plainW (cp dg) := by
      unfold plainW
      rw [if_neg (of_decide_eq_false hh)]
    have hpl : dg.length ≤ 2000000 := by
      rw [← cp_len, hp]
      obtain ⟨p, e1, _⟩ := plain_part (cp dg)
      have := congrArg List.length e1
      rw [List.length_append, cp_len] at this
      omega
    have hps : dg.length ≤ sizeLine := Nat.le_trans hpl (by decide)
    -- need(plain != '' and len(plain) <= LONGEST_NUMBER and all(..))
    refine ⟨.ref u, rfl, u, dx, _, rfl, hu2, rfl, .str dg, rfl, rfl, _, rfl, ite2 (fun h1 => ?_) (fun h1 => ⟨.ref u, _, rfl, fun hb => absurd hb Bool.false_ne_true, fun _ => bad (fun ok => ?_) H2 x2⟩)⟩
    rotate_left
    · refine h1 ?_
      rw [text_is, ce, hp]
      simpa using (okW_ways ok).1
    have hne : plainW (cp dg) ≠ [] := fun h => by
      rw [text_is, ce, hp, h] at h1
      exact absurd h1 (by decide)
    refine ⟨.str dg, rfl, .str dg, dg.length, rfl, ⟨hps, rfl⟩, _, _, rfl, rfl, _, rfl, ite2 (fun h2 => ?_) (fun h2 => ⟨.ref u, _, rfl, fun hb => absurd hb Bool.false_ne_true, fun _ => bad (fun ok => ?_) H2 x2⟩)⟩
    rotate_left
    · refine h2 (decide_eq_true ?_)
      have := (okW_ways ok).2.1
      rw [← hp, cp_len] at this
      omega
    have hlen : dg.length ≤ 4300 := by
      have := of_decide_eq_true h2
      omega
    refine ⟨.str dg, rfl, dg, rfl, fun D hD => ?_⟩
    refine lc_it walk_str (fun j' H3 => H3 D = some (.lst ((((cp dg).take j').map fun c => decide (c ∈ cp ("0123456789" : Str))).map V.bl)) ∧ H3 u = some (UnO K dx z (k + j + 1)) ∧ Ux u H H3) ⟨upd_same, upd_get hD hu2, x2.trans (Ux.new hD)⟩ (fun _ _ _ _ => trivial) ?_ ?_
    · rintro j' x H3 H4 hj' ⟨hD3, hu3, x3⟩ ⟨rfl, ch, hch, rfl⟩
      have nD : D ≠ u := fun h => by rw [h, hu2] at hD; cases hD
      refine ⟨rfl, tyes ⟨.str ⟨#[ch]⟩, rfl, ch, _, rfl, rfl, _, hD3, ?_, ?_, ?_, ?_⟩⟩
      · rw [List.length_map, List.length_map]
        refine Nat.lt_of_le_of_lt (Nat.le_trans (List.length_take_le' _ _) (by rw [cp_len]; exact hlen)) (by decide)
      · rw [upd_same]
        have e : (cp dg)[j']? = some ch := by
          show dg.cps.toList[j']? = some ch
          rw [Array.getElem?_toList]
          exact hch
        rw [List.take_add_one, e, List.map_append, List.map_append]
        rfl
      · rw [upd_ne nD.symm]
        exact hu3
      · intro b o n h
        have nb : b ≠ D := fun hb => by rw [hb] at h n; rw [x2 D o n h] at hD; cases hD
        rw [upd_ne nb]
        exact x3 b o n h
    rintro H3 ⟨hD3, hu3, x3⟩
    have eall : (cp dg).take dg.cps.size = cp dg := List.take_of_length_le (by rw [cp_len]; exact Nat.le_refl _)
    rw [eall] at hD3
    have ealld : (((cp dg).map fun c => decide (c ∈ cp ("0123456789" : Str))).all id) = (plainW (cp dg)).all digit := by
      rw [List.all_map]
      have e0 : (id ∘ fun c => decide (c ∈ cp ("0123456789" : Str))) = digit := funext fun c => dig_is c
      rw [e0]
      exact congrArg (fun l => l.all digit) hp
    refine ⟨D, _, rfl, .inl (.inl hD3), .ref u, _, rfl, fun hb => ?_, fun hb => bad (fun ok => ?_) H3 x3⟩
    rotate_left
    · have e1 := (okW_ways ok).2.2.1
      rw [← ealld] at e1
      have e2 : (((cp dg).map fun c => decide (c ∈ cp ("0123456789" : Str))).all id) = false := hb
      rw [e2] at e1
      cases e1
    have hall : (plainW (cp dg)).all digit = true := by rw [← ealld]; exact hb
    -- need(plain[0] != '0' or digits == '0')
    obtain ⟨p0, pr, ep⟩ : ∃ c r, cp dg = c :: r := by
      cases h : cp dg with
      | nil => rw [hp] at h; exact absurd h hne
      | cons c r => exact ⟨c, r, rfl⟩
    have at0 : atI (cp dg) 0 = some p0 := by
      rw [ep]
      exact atI_nat (j := 0) rfl
    have fin : okW (cp dg) = true → ∃ a n, [V.str dg] = [V.str a] ∧ PySem.intText? a = some n ∧ a.length ≤ sizeLine ∧ (∀ c ∈ cp a, c = 45 ∨ (48 ≤ c ∧ c ≤ 57)) ∧ Q (.int n) H3 := fun ok => by
      have hl : dg.length ≤ 4300 := by
        obtain ⟨p, e1, e2⟩ := plain_part (cp dg)
        have h1 := hrun.all (p := p) (s := []) (by rw [List.append_nil]; exact e1) hall
        have h2 := congrArg List.length e1
        rw [List.length_append, cp_len] at h2
        omega
      exact ⟨dg, _, rfl, worth_text ok hl, hds, signs_text ok, q1 _ _ (by rw [hn, if_pos ok]) H3 x3 hu3⟩
    have okIs : okW (cp dg) = (decide (p0 ≠ 48) || decide (cp dg = [48])) := by
      unfold okW
      rw [decide_eq_true hne, hall, ← hp, decide_eq_true (show (cp dg).length ≤ 4300 by rw [cp_len]; exact hlen), ep]
      simp
    refine ⟨.ref u, rfl, u, dx, _, rfl, hu3, rfl, .str dg, rfl, dg, 0, p0, rfl, rfl, hps, at0, rfl, _, rfl, ite2 (fun h => ⟨.ref u, _, rfl, fun _ => ⟨.str dg, rfl, fin ?_⟩, fun hb => (by first | exact absurd hb (by decide) | exact absurd (h.symm.trans hb) (by decide))⟩) (fun h => ⟨.str dg, rfl, rfl, .ref u, _, rfl, fun hb => ⟨.str dg, rfl, fin ?_⟩, fun hb => bad (fun ok => ?_) H3 x3⟩)⟩
    · rw [okIs]
      rw [one_is p0 "0" 48 c0] at h
      simp at h
      simp [h]
    · rw [okIs]
      rw [text_is, c0] at hb
      rw [hb]
      simp
    · rw [okIs] at ok
      rw [text_is, c0] at hb
      rw [one_is p0 "0" 48 c0] at h
      rw [hb] at ok
      simp at ok h
      exact ok h
end
end K14

set_option maxHeartbeats 4000000
namespace K14
open PySem PySem.Spec PyProof.Rows L2 HG K13
open P14 (num strv tok Val Vals noL noAll Runs num_some tok_lt val_fact vals_fact)
theorem upd_upd {H : Hp} {p : Addr} {a b : HO} : upd (upd H p a) p b = upd H p b := by
  funext x
  by_cases e : x = p
  · subst e; rw [upd_same, upd_same]
  · rw [upd_ne e, upd_ne e, upd_ne e]
theorem cut1_is (z : Str) (k : Nat) : decide (V.str (cutS z (some (k : Int)) (some ((k : Int) + 1))) = V.str ")") = decide ((cp z)[k]? = some 41) := by
  have c41 : cp (")" : Str) = [41] := by decide +kernel
  by_cases hk : k < z.length
  · have e : cp (cutS z (some (k : Int)) (some ((k + 1 : Nat) : Int))) = ((cp z).drop k).take 1 := cut_dt (j := 1) (by omega)
    have e2 : ((k + 1 : Nat) : Int) = (k : Int) + 1 := by omega
    rw [e2] at e
    rw [text_is, e, c41]
    have hk' : k < (cp z).length := by rw [cp_len]; exact hk
    rw [List.drop_eq_getElem_cons hk', List.getElem?_eq_getElem hk']
    simp
  · have e : cp (cutS z (some (k : Int)) (some ((k : Int) + 1))) = [] := by
      have e0 : cp (cutS z (some (k : Int)) (some ((k : Int) + 1))) = ((cp z).drop (HT.sIx z.length 0 (some (k : Int)))).take (HT.sIx z.length z.length (some ((k : Int) + 1)) - HT.sIx z.length 0 (some (k : Int))) := by
        unfold cutS cp
        simp
      rw [e0, HT.sIx_nat, Nat.min_eq_right (by omega), List.drop_of_length_le (by rw [cp_len]; exact Nat.le_refl _)]
      simp
    rw [text_is, e, c41, List.getElem?_eq_none_iff.mpr (by rw [cp_len]; omega)]
    decide
/-! ### a sign in the table -/
abbrev kvs : List (Str × V) := [("T", .bl true), ("F", .bl false), ("N", .non)]
theorem cT : cp ("T" : Str) = [84] := by decide +kernel
theorem cF : cp ("F" : Str) = [70] := by decide +kernel
theorem cN : cp ("N" : Str) = [78] := by decide +kernel
theorem ci : cp ("i" : Str) = [105] := by decide +kernel
theorem cs : cp ("s" : Str) = [115] := by decide +kernel
theorem co : cp ("(" : Str) = [40] := by decide +kernel
theorem str1 {c d : Nat} {x : Str} (h : cp x = [d]) : decide (x = (⟨#[c]⟩ : Str)) = decide (c = d) := by
  by_cases hc : c = d
  · subst hc
    rw [decide_eq_true rfl]
    exact decide_eq_true (cp_ext h)
  · rw [decide_eq_false hc]
    refine decide_eq_false fun q => hc ?_
    rw [q] at h
    injection h
theorem tab_is (c : Nat) : tabGet kvs ⟨#[c]⟩ = if c = 84 then some (.bl true) else if c = 70 then some (.bl false) else if c = 78 then some .non else none := by
  unfold tabGet kvs
  rw [List.find?_cons]
  show Option.map _ (match decide (("T" : Str) = ⟨#[c]⟩) with | true => _ | false => _) = _
  rw [str1 cT]
  by_cases h1 : c = 84
  · rw [decide_eq_true h1, if_pos h1]; rfl
  rw [decide_eq_false h1, if_neg h1]
  show Option.map _ (List.find? _ _) = _
  rw [List.find?_cons]
  show Option.map _ (match decide (("F" : Str) = ⟨#[c]⟩) with | true => _ | false => _) = _
  rw [str1 cF]
  by_cases h2 : c = 70
  · rw [decide_eq_true h2, if_pos h2]; rfl
  rw [decide_eq_false h2, if_neg h2]
  show Option.map _ (List.find? _ _) = _
  rw [List.find?_cons]
  show Option.map _ (match decide (("N" : Str) = ⟨#[c]⟩) with | true => _ | false => _) = _
  rw [str1 cN]
  by_cases h3 : c = 78
  · rw [decide_eq_true h3, if_pos h3]; rfl
  rw [decide_eq_false h3, if_neg h3]
  rfl
section
variable {P : Program} {w : World} {K : PySem.W.Frag} {mg : Str → Option Value} {base : Heap}
/-! ### string -/
def spString (K : PySem.W.Frag) : Sp := fun vs H Q E => ∃ (u dx : Addr) (z : Str) (k : Nat), vs = [.ref u] ∧ H u = some (UnO K dx z k) ∧ Rd z ∧
  (∀ y k', strv (cp z) k = some (y, k') → ∀ H', Ux u H H' → H' u = some (UnO K dx z k') → Q (.str y) H') ∧ (strv (cp z) k = none → ∀ H', Ux u H H' → E (CI K) none H')
set_option pp.maxSteps 600 in
theorem m_string (T : Txt w K mg) (hP : PrgOk file P) : MetX P w K mg base 4 (CU K) "string" (spString K) := by
  obtain ⟨fd, F⟩ := T.d_Unpacker_string
  have M_Unpacker_need := m_need (P := P) (base := base) T hP
  have M_Unpacker_number := m_number (P := P) (base := base) T hP
  refine ⟨_, fd, ["self"], T.cl_Unpacker, T.m_Unpacker_string, okX F sc_Unpacker_string (fun vs H Q E h => ?_) (fun cdv A outer s H vs Q E hr h => ?_), F.bindsN fun _ _ _ _ _ _ us hl => match us, hl with | [_], _ => rfl⟩
  · obtain ⟨u, dx, z, k, rfl, _⟩ := h
    rfl
  obtain ⟨u, dx, z, k, rfl, hu, hz, q1, q2⟩ := h
  have hzs := hz.sz
  refine ⟨_, (pss_cons (ps_set (i := 1) sc_Unpacker_string.nd rfl (.inl rfl) (pe_mtX M_Unpacker_number hr (by omega) (takes_of rfl rfl rfl rfl) (pv 0) (pa_cons pe_str pa_nil)))
      (pss_cons (ps_expr (pe_mtX M_Unpacker_need hr (by omega) (takes_of rfl rfl rfl rfl) (pv 0) (pa_cons (pe_chain op_le op_le pe_int (pv 1) (pe_op op_sub (pe_callB call_len (by rfl) T.n_len (by decide +kernel) (pa_cons (pe_fld (pv 0) rfl) pa_nil)) (pe_fld (pv 0) rfl))) pa_nil)))
      (pss_cons (ps_fldaug (pv 0) (pv 1) in_add)
      (pss_one (ps_ret (pe_slice sl_str (pe_fld (pv 0) rfl) (po_some (pe_op op_sub (pe_fld (pv 0) rfl) (pv 1))) (po_some (pe_fld (pv 0) rfl)))))))), ?_⟩
  refine ⟨.ref u, rfl, u, dx, _, rfl, hu, rfl, u, dx, z, k, 58, rfl, hu, hz, fun n k' hn H1 x1 hu1 => ?_, fun hn H1 x1 => q2 (by unfold strv; rw [hn]) H1 x1⟩
  obtain ⟨_, _, _, _, _, hk'⟩ := num_some hn
  rw [cp_len] at hk'
  have hs : strv (cp z) k = if 0 ≤ n ∧ n ≤ ((cp z).length : Int) - k' then some (⟨(((cp z).drop k').take n.toNat).toArray⟩, k' + n.toNat) else none := by unfold strv; rw [hn]
  rw [cp_len] at hs
  -- need(0 <= length <= len(self.text) - self.at)
  refine ⟨.ref u, rfl, u, dx, _, rfl, hu1, rfl, .int n, rfl, _, _, rfl, rfl, _, rfl, ite2 (fun h1 => ?_) (fun h1 => ⟨.ref u, _, rfl, fun hb => absurd hb Bool.false_ne_true, fun _ => q2 (by rw [hs, if_neg (fun z => h1 (decide_eq_true z.1))]) H1 x1⟩)⟩
  refine ⟨.ref u, rfl, u, CU K, dx, _, .str z, rfl, hu1, T.cl_Unpacker, T.no_Unpacker_text, rfl, .str z, z.length, rfl, ⟨hzs, rfl⟩, .ref u, rfl, u, CU K, dx, _, .int (k' : Int), rfl, hu1, T.cl_Unpacker, T.no_Unpacker_at, rfl, _, _, rfl, rfl, _, _, rfl, rfl, .ref u, _, rfl, fun hb => ?_,
    fun hb => q2 (by rw [hs, if_neg (fun z => (of_decide_eq_false hb) z.2)]) H1 x1⟩
  have hn0 := of_decide_eq_true h1
  have hn1 := of_decide_eq_true hb
  obtain ⟨m, rfl⟩ := Int.eq_ofNat_of_zero_le hn0
  have hs2 := hs.trans (if_pos ⟨hn0, hn1⟩)
  rw [Int.toNat_natCast] at hs2
  have hkm : k' + m ≤ z.length := by omega
  -- self.at += length
  refine ⟨.ref u, rfl, u, CU K, dx, _, .int (k' : Int), rfl, hu1, T.cl_Unpacker, T.no_Unpacker_at, rfl, .int (m : Nat), rfl, _, _, rfl, rfl, dx, _, hu1, (by show 2 < 1000; decide), ?_⟩
  have eo : HO.ins (CU K) dx (putF "at" (.int ((k' : Int) + (m : Int))) [("text", .str z), ("at", .int (k' : Int))]) = UnO K dx z (k' + m) := rfl
  have hu2 : (upd H1 u (UnO K dx z (k' + m))) u = some (UnO K dx z (k' + m)) := upd_same
  have x2 : Ux u H (upd H1 u (UnO K dx z (k' + m))) := x1.trans Ux.put
  rw [eo]
  generalize upd H1 u (UnO K dx z (k' + m)) = H2 at hu2 x2 ⊢
  -- return self.text[self.at - length:self.at]
  refine ⟨.ref u, rfl, u, CU K, dx, _, .str z, rfl, hu2, T.cl_Unpacker, T.no_Unpacker_text, rfl, .ref u, rfl, u, CU K, dx, _, .int ((k' + m : Nat) : Int), rfl, hu2, T.cl_Unpacker, T.no_Unpacker_at, rfl, .int (m : Nat), rfl, _, _, rfl, rfl, _, rfl,
    .ref u, rfl, u, CU K, dx, _, .int ((k' + m : Nat) : Int), rfl, hu2, T.cl_Unpacker, T.no_Unpacker_at, rfl, _, rfl, z, rfl, hzs, ?_⟩
  have e1 : (((k' + m : Nat) : Int) - (m : Int)) = (k' : Int) := by omega
  rw [e1]
  have ey : cutS z (some (k' : Int)) (some ((k' + m : Nat) : Int)) = ⟨(((cp z).drop k').take m).toArray⟩ := cp_ext ((cut_dt hkm).trans rfl)
  rw [ey]
  exact q1 _ _ hs2 H2 x2 hu2
/-! ### value -/
def spVal (K : PySem.W.Frag) : Nat → Sp
  | 0 => fun _ _ _ _ => False
  | m + 1 => fun vs H Q E => ∃ (u dx : Addr) (z : Str) (k dep : Nat), vs = [.ref u, .int dep] ∧ H u = some (UnO K dx z k) ∧ Rd z ∧ dep ≤ 100 ∧ 100 ≤ m + dep ∧
    (∀ (d : PyData) (k' : Nat) (v : V) (H' : Hp), Val (cp z) dep k (some (d, k')) → Dp K H' v d → Ux u H H' → H' u = some (UnO K dx z k') → Q v H') ∧ (Val (cp z) dep k none → ∀ H', Ux u H H' → E (CI K) none H')
set_option pp.maxSteps 600 in
theorem m_value (T : Txt w K mg) (hP : PrgOk file P) : ∀ m : Nat, MetX P w K mg base (5 + m) (CU K) "value" (spVal K m)
  | 0 => by
    obtain ⟨fd, F⟩ := T.d_Unpacker_value
    exact ⟨_, fd, ["self", "depth"], T.cl_Unpacker, T.m_Unpacker_value, ⟨fun _ _ _ _ h => h.elim, fun _ _ _ _ _ _ _ _ _ _ _ _ _ h => h.elim⟩, F.bindsN fun _ _ _ _ _ _ us hl => match us, hl with | [_, _], _ => rfl⟩
  | m + 1 => by
    have M_Unpacker_value := m_value T hP m
    have M_Unpacker_need := m_need (P := P) (base := base) T hP
    have M_Unpacker_number := m_number (P := P) (base := base) T hP
    have M_Unpacker_string := m_string (P := P) (base := base) T hP
    have M_Unpacker_next_sign := m_next (P := P) (base := base) T hP
    obtain ⟨fd, F⟩ := T.d_Unpacker_value
    refine ⟨_, fd, ["self", "depth"], T.cl_Unpacker, T.m_Unpacker_value, okX (k := 5 + m) F sc_Unpacker_value (fun vs H Q E h => ?_) (fun cdv A outer s H vs Q E hr h => ?_), F.bindsN fun _ _ _ _ _ _ us hl => match us, hl with | [_, _], _ => rfl⟩
    · obtain ⟨u, dx, z, k, dep, rfl, _⟩ := h
      rfl
    obtain ⟨u, dx, z, k, dep, rfl, hu, hz, hd1, hd2, q1, q2⟩ := h
    have hzs := hz.sz
    refine ⟨_, (pss_cons (ps_set (i := 2) sc_Unpacker_value.nd rfl (.inl rfl) (pe_mt0X M_Unpacker_next_sign hr (by omega) (takes_of rfl rfl rfl rfl) (pv 0)))
      (pss_cons (ps_if (pt_cmpR (op_in_tab T.t_SIGNS) (pv 2) (pe_glob (v := .ref _) (by rfl) (T.g "SIGNS" (by decide)) rfl) (by rfl)) (pss_one (ps_ret (pe_ix (ix_tab T.t_SIGNS) (pe_glob (v := .ref _) (by rfl) (T.g "SIGNS" (by decide)) rfl) (pv 2) (fun _ _ => rfl)))) pss_nil)
      (pss_cons (ps_if (pt_cmpR op_eq (pv 2) pe_str (nomark _)) (pss_one (ps_ret (pe_mtX M_Unpacker_number hr (by omega) (takes_of rfl rfl rfl rfl) (pv 0) (pa_cons pe_str pa_nil)))) pss_nil)
      (pss_cons (ps_if (pt_cmpR op_eq (pv 2) pe_str (nomark _)) (pss_one (ps_ret (pe_mt0X M_Unpacker_string hr (by omega) (takes_of rfl rfl rfl rfl) (pv 0)))) pss_nil)
      (pss_cons (ps_expr (pe_mtX M_Unpacker_need hr (by omega) (takes_of rfl rfl rfl rfl) (pv 0) (pa_cons (pe_and (pe_cmpR op_eq (pv 2) pe_str (nomark _)) (pe_one (pe_cmpR op_lt (pv 1) (pe_globI T.c_DEEPEST rfl) (nomark _)))) pa_nil)))
      (pss_cons (ps_set (i := 3) sc_Unpacker_value.nd rfl (.inl rfl) (pe_lst pa_nil))
      (pss_cons (ps_while (passes_of rfl) (pt_cmpR op_ne (pe_slice sl_str (pe_fld (pv 0) rfl) (po_some (pe_fld (pv 0) rfl)) (po_some (pe_op op_add (pe_fld (pv 0) rfl) pe_int))) pe_str (nomark _)) (pss_one (ps_expr (pe_bm PySem.F.plainAttrs_list PySem.F.slot_list_append PySem.F.type_list_append mt_append (pv 3) (pa_cons (pe_mtX M_Unpacker_value hr (by omega) (takes_of rfl rfl rfl rfl) (pv 0) (pa_cons (pe_op op_add (pv 1) pe_int) pa_nil)) pa_nil)))))
      (pss_cons (ps_fldaug (pv 0) pe_int in_add)
      (pss_one (ps_ret (pe_callTy call_tuple_of (by rfl) T.n_tuple (by decide +kernel) (pa_cons (pv 3) pa_nil)))))))))))), ?_⟩
    refine ⟨.ref u, rfl, u, dx, _, rfl, hu, rfl, u, dx, z, k, rfl, hu, hz, fun c hc H1 x1 hu1 => ?_, fun hc => q2 (.bad (by unfold tok; rw [hc]; simp) (fun y => by rw [hc] at y; cases y.1)) H (Ux.refl u H)⟩
    refine ⟨.str ⟨#[c]⟩, rfl, ⟨#[c]⟩, rfl, rfl, _, rfl, ?_⟩
    have tb := tab_is c
    by_cases h84 : c = 84
    · subst h84
      refine iteT ⟨.str ⟨#[84]⟩, rfl, ⟨#[84]⟩, .bl true, rfl, rfl, tb, q1 _ (k + 1) _ H1 (.atom (by unfold tok; rw [hc]; simp)) (.bl true) x1 hu1⟩
    by_cases h70 : c = 70
    · subst h70
      refine iteT ⟨.str ⟨#[70]⟩, rfl, ⟨#[70]⟩, .bl false, rfl, rfl, tb, q1 _ (k + 1) _ H1 (.atom (by unfold tok; rw [hc]; simp)) (.bl false) x1 hu1⟩
    by_cases h78 : c = 78
    · subst h78
      refine iteT ⟨.str ⟨#[78]⟩, rfl, ⟨#[78]⟩, .non, rfl, rfl, tb, q1 _ (k + 1) _ H1 (.atom (by unfold tok; rw [hc]; simp)) .non x1 hu1⟩
    rw [if_neg h84, if_neg h70, if_neg h78] at tb
    have tn : (tabGet [("T", V.bl true), ("F", V.bl false), ("N", V.non)] ⟨#[c]⟩).isSome = false := by
      have : tabGet [("T", V.bl true), ("F", V.bl false), ("N", V.non)] (⟨#[c]⟩ : Str) = none := tb
      rw [this]
      rfl
    rw [tn]
    refine iteF ⟨.str ⟨#[c]⟩, rfl, rfl, _, rfl, ?_⟩
    rw [one_is c "i" 105 ci]
    have tk : tok (cp z) k = if c = 105 then (num (cp z) (k + 1) 59).map (fun p => (PyData.int p.1, p.2)) else if c = 115 then (strv (cp z) (k + 1)).map (fun p => (PyData.str p.1, p.2)) else none := by
      unfold tok
      rw [hc]
      simp [h84, h70, h78]
    by_cases h105 : c = 105
    · subst h105
      refine iteT ?_
      refine ⟨.ref u, rfl, u, dx, _, rfl, hu1, rfl, u, dx, z, k + 1, 59, rfl, hu1, hz, fun i k' hn H2 x2 hu2 => ?_, fun hn H2 x2 => ?_⟩
      · exact q1 _ k' _ H2 (.atom (by rw [tk, if_pos rfl, hn]; rfl)) (.int i) (x1.trans x2) hu2
      · exact q2 (.bad (by rw [tk, if_pos rfl, hn]; rfl) (fun y => by rw [hc] at y; cases y.1)) H2 (x1.trans x2)
    rw [decide_eq_false h105]
    refine iteF ⟨.str ⟨#[c]⟩, rfl, rfl, _, rfl, ?_⟩
    rw [one_is c "s" 115 cs]
    rw [if_neg h105] at tk
    by_cases h115 : c = 115
    · subst h115
      refine iteT ?_
      refine ⟨.ref u, rfl, u, dx, _, rfl, hu1, rfl, u, dx, z, k + 1, rfl, hu1, hz, fun y k' hn H2 x2 hu2 => ?_, fun hn H2 x2 => ?_⟩
      · exact q1 _ k' _ H2 (.atom (by rw [tk, if_pos rfl, hn]; rfl)) (.str y) (x1.trans x2) hu2
      · exact q2 (.bad (by rw [tk, if_pos rfl, hn]; rfl) (fun y => by rw [hc] at y; cases y.1)) H2 (x1.trans x2)
    rw [decide_eq_false h115]
    rw [if_neg h115] at tk
    refine iteF ?_
    -- need(sign == '(' and depth < DEEPEST)
    refine ⟨.ref u, rfl, u, dx, _, rfl, hu1, rfl, .str ⟨#[c]⟩, rfl, rfl, _, rfl, ?_⟩
    rw [one_is c "(" 40 co]
    by_cases h40 : c = 40
    rotate_left
    · rw [decide_eq_false h40]
      refine iteF ⟨.ref u, _, rfl, fun hb => absurd hb Bool.false_ne_true, fun _ => q2 (.bad tk (fun y => by rw [hc] at y; exact h40 (Option.some.inj y.1))) H1 x1⟩
    subst h40
    refine iteT ⟨.int dep, rfl, _, _, rfl, rfl, .ref u, _, rfl, fun hb => ?_, fun hb => q2 (.bad tk (fun y => by have := of_decide_eq_false hb; omega)) H1 x1⟩
    have hlt : dep < 100 := by
      have := of_decide_eq_true hb
      omega
    -- parts = []
    refine ⟨Nat.zero_le _, fun p hp => ?_⟩
    have np : p ≠ u := fun h => by rw [h, hu1] at hp; cases hp
    have hpH : H p = none := by
      cases e : H p with
      | none => rfl
      | some o => rw [x1 p o np e] at hp; cases hp
    refine ⟨fun mm σ H2 => ∃ (ki : Nat) (vs : List V) (ds : List PyData), mm = z.length + 1 - ki ∧ σ = [some (.ref u), some (.int dep), some (.str ⟨#[40]⟩), some (.ref p)] ∧ H2 p = some (.lst vs) ∧ DpAll K H2 vs ds ∧ noAll ds = true ∧ ds.length ≤ ki ∧ ki ≤ z.length ∧
      H2 u = some (UnO K dx z ki) ∧ Ux u H H2 ∧ (∀ r, Vals (cp z) (dep + 1) ki ds r → Val (cp z) dep k r),
      ⟨_, k + 1, [], [], rfl, rfl, upd_same, .nil, (by simp only [noAll]), Nat.zero_le _, (by have := P14.at_lt hc; rw [cp_len] at this; omega), upd_get hp hu1, (x1.trans (Ux.new hp)), fun r hr => .opn hc hlt hr⟩, ?_⟩
    rintro mm σ H2 ⟨ki, vs, ds, rfl, rfl, hp2, hA, hno, hdl, hki, hu2, x2, hv⟩
    have hvl := dpAll_len hA
    refine ⟨.ref u, rfl, u, CU K, dx, _, .str z, rfl, hu2, T.cl_Unpacker, T.no_Unpacker_text, rfl, .ref u, rfl, u, CU K, dx, _, .int (ki : Int), rfl, hu2, T.cl_Unpacker, T.no_Unpacker_at, rfl, _, rfl,
      .ref u, rfl, u, CU K, dx, _, .int (ki : Int), rfl, hu2, T.cl_Unpacker, T.no_Unpacker_at, rfl, _, _, rfl, rfl, _, rfl, z, rfl, hzs, rfl, _, rfl, ?_⟩
    rw [cut1_is]
    by_cases h41 : (cp z)[ki]? = some 41
    · -- the end
      rw [decide_eq_true h41]
      refine iteF ?_
      refine ⟨.ref u, rfl, u, CU K, dx, _, .int (ki : Int), rfl, hu2, T.cl_Unpacker, T.no_Unpacker_at, rfl, _, _, rfl, rfl, dx, _, hu2, (by show 2 < 1000; decide), ?_⟩
      have eo : HO.ins (CU K) dx (putF "at" (.int ((ki : Int) + 1)) [("text", .str z), ("at", .int (ki : Int))]) = UnO K dx z (ki + 1) := rfl
      have hu3 : (upd H2 u (UnO K dx z (ki + 1))) u = some (UnO K dx z (ki + 1)) := upd_same
      have hp3 : (upd H2 u (UnO K dx z (ki + 1))) p = some (.lst vs) := by rw [upd_ne np]; exact hp2
      have x3 : Ux u H (upd H2 u (UnO K dx z (ki + 1))) := x2.trans Ux.put
      have hA3 := dpAll_N (SameT.put (o := UnO K dx z (ki + 1)) hu2 rfl) _ _ hno hA
      rw [eo]
      generalize upd H2 u (UnO K dx z (ki + 1)) = H3 at hu3 hp3 x3 hA3 ⊢
      refine ⟨.ref p, rfl, p, vs, rfl, .inl ⟨.inl (.inl hp3), fun l hl => ?_⟩⟩
      exact q1 (.tuple ds) (ki + 1) (.ref l) _ (hv _ (.fin h41)) (.tup (.inl (.inl upd_same)) (dpAll_N (SameT.new hl) _ _ hno hA3)) (x3.trans (Ux.new hl)) (upd_get hl hu3)
    · -- one more
      rw [decide_eq_false h41]
      refine iteT ⟨fun σ' H' => ∃ m', m' < z.length + 1 - ki ∧ ∃ (kj : Nat) (vs : List V) (ds : List PyData), m' = z.length + 1 - kj ∧ σ' = [some (.ref u), some (.int dep), some (.str ⟨#[40]⟩), some (.ref p)] ∧ H' p = some (.lst vs) ∧ DpAll K H' vs ds ∧ noAll ds = true ∧ ds.length ≤ kj ∧ kj ≤ z.length ∧
        H' u = some (UnO K dx z kj) ∧ Ux u H H' ∧ (∀ r, Vals (cp z) (dep + 1) kj ds r → Val (cp z) dep k r), fun σ' H' h => h, ?_⟩
      obtain ⟨m', rfl⟩ : ∃ m', m = m' + 1 := ⟨m - 1, by omega⟩
      refine ⟨.ref p, rfl, .inl ⟨rfl, _, .inl (.inl hp2)⟩, .ref u, rfl, u, dx, _, rfl, hu2, rfl, .int dep, rfl, _, _, rfl, rfl, u, dx, z, ki, dep + 1, rfl, hu2, hz, by omega, by omega, fun d kj v H3 hval hv3 x3 hu3 => ?_, fun hval H3 x3 => q2 (hv _ (.err h41 hval)) H3 (x2.trans x3)⟩
      have F := val_fact hval (by omega) d kj rfl
      have hp3 := x3 p _ np hp2
      have sT : SameT H2 H3 := x3.T hu2 rfl
      have sP : SameT H3 (upd H3 p (.lst (vs ++ [v]))) := SameT.put hp3 rfl
      have hle := F.le
      rw [cp_len] at hle
      have hlt2 := F.lt
      refine ⟨p, vs, v, rfl, rfl, hp3, Nat.lt_of_le_of_lt (show vs.length ≤ 2000000 by have := hz.len; omega) (by decide), z.length + 1 - kj, by omega, kj, vs ++ [v], ds ++ [d], rfl, rfl, upd_same, ?_, P14.noAll_app hno (by simp only [noAll, F.no, Bool.and_self]), ?_, hle, ?_, ?_, fun r hr => hv r (.more h41 hval hr)⟩
      · exact dpAll_app (dpAll_N (sT.trans sP) _ _ hno hA) (.cons (dp_N sP _ _ F.no hv3) .nil)
      · rw [List.length_append, List.length_singleton]
        omega
      · rw [upd_ne np.symm]
        exact hu3
      · exact (x2.trans x3).mut hpH
/-! ### unpack -/
def spInit (K : PySem.W.Frag) : Sp := fun vs H Q _ => ∃ (u dx : Addr) (z : Str), vs = [.ref u, .str z] ∧ H u = some (.ins (CU K) dx []) ∧ Q .non (upd H u (UnO K dx z 0))
theorem k_unpacker (T : Txt w K mg) : MkC P w K mg base "Unpacker" 1 (spInit K) := by
  obtain ⟨fd, F⟩ := T.d_Unpacker___init__
  refine ⟨⟨_, fd, ["self", "text"], T.mk_Unpacker, F.ok sc_Unpacker___init__ (fun vs H Q E h => ?_) (fun cdv A outer s H vs Q E hr h => ?_), F.bindsN fun _ _ _ _ _ _ us hl => match us, hl with | [_, _], _ => rfl⟩, T.g _ (by decide)⟩
  · obtain ⟨u, dx, z, rfl, _⟩ := h
    rfl
  obtain ⟨u, dx, z, rfl, hu, q⟩ := h
  refine ⟨_, PSs.nox (pss_cons (ps_fld (pv 0) (pv 1) (by rfl))
      (pss_one (ps_fld (pv 0) pe_int (by rfl)))), ?_⟩
  refine ⟨.str z, rfl, .ref u, rfl, u, CU K, dx, _, rfl, hu, T.cl_Unpacker, T.no_Unpacker_text, (by show 0 < 1000; decide), ?_⟩
  refine ⟨.ref u, rfl, u, CU K, dx, _, rfl, upd_same, T.cl_Unpacker, T.no_Unpacker_at, (by show 1 < 1000; decide), ?_⟩
  rw [upd_upd]
  exact q
/-- what unpack finds: a value over the whole text, or none -/
def Found (z : Str) (r : Option PyData) : Prop := ∃ r0, Val (cp z) 0 0 r0 ∧ r = match r0 with | some (d, k) => if k = (cp z).length then some d else none | none => none
def spUnpack (K : PySem.W.Frag) : Sp := fun vs H Q E => ∃ (x : V) (D : PyData), vs = [x] ∧ Dp K H x D ∧
  ((∃ z, x = .str z ∧ Rd z ∧ (∀ d v H', Found z (some d) → Dp K H' v d → Same H H' → Q v H') ∧ (Found z none → ∀ H', Same H H' → E (CI K) none H')) ∨ (isS D = false ∧ E (CI K) none H))
set_option pp.maxSteps 600 in
theorem c_unpack (T : Txt w K mg) (hP : PrgOk file P) : CalX P w K mg base "unpack" 110 ["text"] (spUnpack K) := by
  obtain ⟨fd, F⟩ := T.d_unpack
  have K_Unpacker := k_unpacker (P := P) (base := base) T
  have M_Unpacker_value := m_value (P := P) (base := base) T hP 101
  have M_Unpacker_need := m_need (P := P) (base := base) T hP
  refine ⟨⟨fd, okX (k := 109) F sc_unpack (fun vs H Q E h => ?_) (fun cdv A outer s H vs Q E hr h => ?_), F.bindsN fun _ _ _ _ _ _ us hl => match us, hl with | [_], _ => rfl⟩, T.g _ (by decide), F.kp⟩
  · obtain ⟨x, D, rfl, _⟩ := h
    rfl
  obtain ⟨x, D, rfl, hx, h⟩ := h
  refine ⟨_, (pss_cons (ps_if (pt_not (pt_val (pe_callB call_isi (by rfl) T.n_isinstance (by decide +kernel) (pa_cons (pv 0) (pa_cons (pe_bltn (v := .ty "str") (u := .type "str") (by rfl) T.n_str (by decide +kernel) rfl) pa_nil))))) (pss_one (ps_raise0 rfl (T.e_InvalidText hP) T.x_InvalidText.ex T.x_InvalidText.ty (hr.mono (by omega)) (takes_of rfl rfl rfl rfl) (by rfl) (fun _ _ _ _ _ _ _ => rfl))) pss_nil)
      (pss_cons (ps_set (i := 1) sc_unpack.nd rfl (.inl rfl) (pe_mk K_Unpacker (hr.mono (by omega)) (by rfl) (pa_cons (pv 0) pa_nil)))
      (pss_cons (ps_set (i := 2) sc_unpack.nd rfl (.inl rfl) (pe_mtX M_Unpacker_value hr (by omega) (takes_of rfl rfl rfl rfl) (pv 1) (pa_cons pe_int pa_nil)))
      (pss_cons (ps_expr (pe_mtX M_Unpacker_need hr (by omega) (takes_of rfl rfl rfl rfl) (pv 1) (pa_cons (pe_cmpR op_eq (pe_fld (pv 1) rfl) (pe_callB call_len (by rfl) T.n_len (by decide +kernel) (pa_cons (pv 0) pa_nil)) (nomark _)) pa_nil)))
      (pss_one (ps_ret (pv 2))))))), ?_⟩
  refine ⟨x, rfl, x, .ty "str", _, _, _, rfl, .ty _, dp_ty hx, kit_ty (kit_str D), _, rfl, ?_⟩
  rcases h with ⟨z, rfl, hz, q1, q2⟩ | ⟨hD, q2⟩
  rotate_left
  · rw [hD]
    exact iteT q2
  cases hx
  have hzs := hz.sz
  refine iteF ?_
  refine ⟨.str z, rfl, fun u dx hu hdx ne => ⟨u, dx, z, rfl, upd_same, rfl, ?_⟩⟩
  rw [upd_upd]
  have hu1 : (upd (upd H dx (.own u)) u (UnO K dx z 0)) u = some (UnO K dx z 0) := upd_same
  have s1 : Same H (upd (upd H dx (.own u)) u (UnO K dx z 0)) := fun b o h => by
    rw [upd_ne (ne_of_none h hu), upd_ne (ne_of_none h hdx)]
    exact h
  generalize upd (upd H dx (.own u)) u (UnO K dx z 0) = H1 at hu1 s1 ⊢
  have sm : ∀ {H2 : Hp}, Ux u H1 H2 → Same H H2 := fun x2 b o h => x2 b o (ne_of_none h hu) (s1 b o h)
  refine ⟨.ref u, rfl, u, dx, _, rfl, hu1, rfl, u, dx, z, 0, 0, rfl, hu1, hz, Nat.zero_le _, Nat.le_refl _, fun d k' v H2 hval hv x2 hu2 => ?_, fun hval H2 x2 => q2 ⟨_, hval, rfl⟩ H2 (sm x2)⟩
  refine ⟨.ref u, rfl, u, dx, _, rfl, hu2, rfl, .ref u, rfl, u, CU K, dx, _, .int (k' : Int), rfl, hu2, T.cl_Unpacker, T.no_Unpacker_at, rfl, .str z, rfl, .str z, z.length, rfl, ⟨hzs, rfl⟩, rfl, .ref u, _, rfl, fun hb => ?_, fun hb => q2 ⟨_, hval, ?_⟩ H2 (sm x2)⟩
  · have e : V.int (k' : Int) = V.int (z.length : Int) := of_decide_eq_true hb
    have e2 : k' = z.length := by injection e with e; omega
    exact ⟨v, rfl, q1 d v H2 ⟨_, hval, (by dsimp only; rw [cp_len, if_pos e2])⟩ hv (sm x2)⟩
  · have e : ¬ V.int (k' : Int) = V.int (z.length : Int) := of_decide_eq_false hb
    dsimp only
    rw [cp_len, if_neg (fun e2 => e (by rw [e2]))]
end
end K14

set_option maxHeartbeats 4000000
namespace K14
open PySem PySem.Spec PyProof.Rows L2 HG K13
open P14 (num fnd okW plainW worth digit Runs fnd_some fnd_none okW_ways plain_part strv)
section
variable {P : Program} {w : World} {K : PySem.W.Frag} {mg : Str → Option Value} {base : Heap}
theorem strip_is (x : Str) : (!decide (V.str (Txt.stripChars x "0123456789") = V.str "")) = !((cp x).all digit) := by
  congr 1
  rw [text_is, ce]
  have e0 : (fun c => decide (c ∈ cp ("0123456789" : Str))) = digit := funext fun c => dig_is c
  have h := strip_nil x "0123456789"
  rw [e0] at h
  cases hb : (cp x).all digit with
  | true =>
    refine decide_eq_true ?_
    have h1 := h.mpr hb
    rw [← cp_len] at h1
    exact List.length_eq_zero_iff.mp h1
  | false =>
    refine decide_eq_false fun z => ?_
    have h1 := h.mp (by rw [← cp_len, z]; rfl)
    rw [hb] at h1
    cases h1
def spLNum (K : PySem.W.Frag) : Sp := fun vs H Q _ => ∃ (z : Str) (k e : Nat), vs = [.str z, .int k, .str ⟨#[e]⟩] ∧ Rd z ∧ (num (cp z) k e = none → Q .non H) ∧
  (∀ i k' t, num (cp z) k e = some (i, k') → H t = none → Q (.ref t) (upd H t (.tup [.int i, .int (k' : Nat)])))
set_option pp.maxSteps 600 in
theorem c_number (T : Txt w K mg) : Cal P w K mg base "_law_number" 1 ["_law_text", "_law_at", "_law_end"] (spLNum K) := by
  obtain ⟨fd, F⟩ := T.d__law_number
  refine ⟨⟨fd, F.ok sc__law_number (fun vs H Q E h => ?_) (fun cdv A outer s H vs Q E hr h => ?_), F.bindsN fun _ _ _ _ _ _ us hl => match us, hl with | [_, _, _], _ => rfl⟩, T.g _ (by decide), F.kp⟩
  · obtain ⟨z, k, e, rfl, _⟩ := h
    rfl
  obtain ⟨z, k, e, rfl, hz, q2, q1⟩ := h
  have hzs := hz.sz
  refine ⟨_, PSs.nox (pss_cons (ps_set (i := 3) sc__law_number.nd rfl (.inl rfl) (pe_bm PySem.F.plainAttrs_str PySem.F.slot_str_find PySem.F.type_str_find mt_find3 (pv 0) (pa_cons (pv 2) (pa_cons (pv 1) pa_nil))))
      (pss_cons (ps_if (pt_cmpR op_lt (pv 3) pe_int (nomark _)) (pss_one (ps_ret pe_non)) pss_nil)
      (pss_cons (ps_set (i := 4) sc__law_number.nd rfl (.inl rfl) (pe_slice sl_str (pv 0) (po_some (pv 1)) (po_some (pv 3))))
      (pss_cons (ps_set (i := 5) sc__law_number.nd rfl (.inl rfl) (pe_ifExp (pt_cmpR op_eq (pe_slice sl_str (pv 4) po_none (po_some pe_int)) pe_str (nomark _)) (pe_slice sl_str (pv 4) (po_some pe_int) po_none) (pv 4)))
      (pss_cons (ps_if (PW.pt (pw_or (pt_cmpR op_eq (pv 5) pe_str (nomark _)) (pw_or (pt_cmpR op_ne (pe_bm PySem.F.plainAttrs_str PySem.F.slot_str_strip PySem.F.type_str_strip mt_stripChars (pv 5) (pa_cons pe_str pa_nil)) pe_str (nomark _)) (pw_or1 (pt_cmpR op_gt (pe_callB call_len (by rfl) T.n_len (by decide +kernel) (pa_cons (pv 5) pa_nil)) pe_int (nomark _)))))) (pss_one (ps_ret pe_non)) pss_nil)
      (pss_cons (ps_if (PW.pt (pw_and (pt_cmpR op_eq (pe_ix ix_str (pv 5) pe_int (fun _ _ => rfl)) pe_str (nomark _)) (pw_and1 (pt_cmpR op_ne (pv 4) pe_str (nomark _))))) (pss_one (ps_ret pe_non)) pss_nil)
      (pss_one (ps_ret (pe_tup (pa_cons (pe_callTy (call_int_any rfl T.lim) (by rfl) T.n_int (by decide +kernel) (pa_cons (pv 4) pa_nil)) (pa_cons (pe_op op_add (pv 3) pe_int) pa_nil))))))))))), ?_⟩
  refine ⟨.str z, rfl, rfl, .str ⟨#[e]⟩, rfl, .int k, rfl, z, _, _, rfl, rfl, ?_⟩
  rw [find_is]
  cases hf : fnd e ((cp z).drop k) with
  | none =>
    have hn : num (cp z) k e = none := by unfold num; rw [hf]
    exact ⟨.int (-1), rfl, _, _, rfl, rfl, _, rfl, iteT (q2 hn)⟩
  | some j =>
  have hn : num (cp z) k e = if okW (((cp z).drop k).take j) = true then some (worth (((cp z).drop k).take j), k + j + 1) else none := by unfold num; rw [hf]
  have hj := (List.getElem?_eq_some_iff.mp (fnd_some hf).1).1
  rw [List.length_drop, cp_len] at hj
  have hkj : k + j ≤ z.length := by omega
  refine ⟨.int ((k + j : Nat) : Int), rfl, _, _, rfl, rfl, _, rfl, ?_⟩
  rw [decide_eq_false (show ¬ ((k + j : Nat) : Int) < 0 by omega)]
  refine iteF ?_
  refine ⟨.str z, rfl, .int k, rfl, _, rfl, .int _, rfl, _, rfl, z, rfl, hzs, ?_⟩
  have ed := cut_dt hkj
  generalize cutS z (some (k : Int)) (some ((k + j : Nat) : Int)) = dg at ed ⊢
  rw [← ed] at hn
  have hdl : dg.length ≤ 2000000 := by
    rw [← cp_len, ed, List.length_take, List.length_drop, cp_len]
    have := hz.len
    omega
  have hds : dg.length ≤ sizeLine := Nat.le_trans hdl (by decide)
  have hrun : Runs 4000 (cp dg) := by rw [ed]; exact hz.run.drop.take
  have bad : okW (cp dg) ≠ true → Q .non H := fun h => q2 (by rw [hn, if_neg h])
  refine ⟨.str dg, rfl, 1, rfl, dg, rfl, hds, rfl, ?_⟩
  rw [head_is]
  refine ⟨_, rfl, ?_⟩
  cases hh : decide ((cp dg).head? = some 45) with
  | true =>
    refine iteT ⟨.str dg, rfl, 1, rfl, dg, rfl, hds, ?_⟩
    have hp : cp (cutS dg (some 1) none) = plainW (cp dg) := by
      have h1 := of_decide_eq_true hh
      unfold plainW
      rw [if_pos h1]
      cases e0 : cp dg with
      | nil => rw [e0] at h1; cases h1
      | cons c r => rw [cut_tail e0]; rfl
    generalize cutS dg (some 1) none = pl at hp ⊢
    have hpl : pl.length ≤ 2000000 := by
      rw [← cp_len, hp]
      obtain ⟨p, e1, _⟩ := plain_part (cp dg)
      have := congrArg List.length e1
      rw [List.length_append, cp_len] at this
      omega
    have hps : pl.length ≤ sizeLine := Nat.le_trans hpl (by decide)
    refine ⟨.str pl, rfl, rfl, _, rfl, ite2 (fun h1 => iteT (bad fun ok => ?_)) (fun h1 => ?_)⟩
    · rw [text_is, ce, hp] at h1
      exact (okW_ways ok).1 (of_decide_eq_true h1)
    have hne : plainW (cp dg) ≠ [] := fun h => by
      rw [text_is, ce, hp] at h1
      exact h1 (decide_eq_true h)
    refine ⟨.str pl, rfl, rfl, pl, _, rfl, rfl, hps, rfl, _, rfl, ite2 (fun h2 => iteT (bad fun ok => ?_)) (fun h2 => ?_)⟩
    · rw [strip_is] at h2
      have e1 := (okW_ways ok).2.2.1
      rw [← hp] at e1
      rw [e1] at h2
      exact absurd h2 (by decide)
    have hall : (plainW (cp dg)).all digit = true := by
      rw [strip_is] at h2
      rw [← hp]
      cases hb : (cp pl).all digit with
      | true => rfl
      | false => rw [hb] at h2; exact absurd rfl h2
    refine ⟨.str pl, rfl, .str pl, pl.length, rfl, ⟨hps, rfl⟩, _, _, rfl, rfl, _, rfl, ite2 (fun h3 => bad fun ok => ?_) (fun h3 => ?_)⟩
    · have e1 := (okW_ways ok).2.1
      rw [← hp, cp_len] at e1
      have := of_decide_eq_true h3
      omega
    have hlen : pl.length ≤ 4300 := by
      have : ¬ (4300 : Int) < (pl.length : Int) := fun z => h3 (decide_eq_true z)
      omega
    obtain ⟨p0, pr, ep⟩ : ∃ c r, cp pl = c :: r := by
      cases h : cp pl with
      | nil => rw [hp] at h; exact absurd h hne
      | cons c r => exact ⟨c, r, rfl⟩
    have at0 : atI (cp pl) 0 = some p0 := by
      rw [ep]
      exact atI_nat (j := 0) rfl
    have okIs : okW (cp dg) = (decide (p0 ≠ 48) || decide (cp dg = [48])) := by
      unfold okW
      rw [decide_eq_true hne, hall, ← hp, decide_eq_true (show (cp pl).length ≤ 4300 by rw [cp_len]; exact hlen), ep]
      simp
    have fin : okW (cp dg) = true → ∃ v, some (some (V.str dg)) = some (some v) ∧ ∃ a n, [v] = [V.str a] ∧ PySem.intText? a = some n ∧ a.length ≤ sizeLine ∧ (∀ c ∈ cp a, c = 45 ∨ (48 ≤ c ∧ c ≤ 57)) ∧ n = worth (cp dg) := fun ok => by
      have hl : dg.length ≤ 4300 := by
        obtain ⟨p, e1, e2⟩ := plain_part (cp dg)
        have h1 := hrun.all (p := p) (s := []) (by rw [List.append_nil]; exact e1) hall
        have h2 := congrArg List.length e1
        rw [List.length_append, cp_len] at h2
        omega
      exact ⟨_, rfl, dg, _, rfl, worth_text ok hl, hds, signs_text ok, rfl⟩
    refine ⟨.str pl, rfl, pl, 0, p0, rfl, rfl, hps, at0, rfl, _, rfl, ?_⟩
    rw [one_is p0 "0" 48 c0]
    have last : okW (cp dg) = true → ∃ v, some (some (V.str dg)) = some (some v) ∧ ∃ a n, [v] = [V.str a] ∧ PySem.intText? a = some n ∧ a.length ≤ sizeLine ∧ (∀ c ∈ cp a, c = 45 ∨ (48 ≤ c ∧ c ≤ 57)) ∧
        ∃ x, some (some (V.int ((k + j : Nat) : Int))) = some (some x) ∧ ∃ i i', x = .int i ∧ V.int 1 = .int i' ∧ [V.int n, V.int (i + i')].length ≤ sizeLine ∧ ∀ p, H p = none → Q (.ref p) (upd H p (.tup [.int n, .int (i + i')])) := fun ok => by
      obtain ⟨v, e1, a, n, e2, e3, e4, e5, rfl⟩ := fin ok
      exact ⟨v, e1, a, _, e2, e3, e4, e5, _, rfl, _, _, rfl, rfl, (by show 2 ≤ sizeLine; decide), fun p hp => q1 _ (k + j + 1) p (by rw [hn, if_pos ok]) hp⟩
    by_cases h48 : p0 = 48
    · rw [decide_eq_true h48]
      refine iteT ⟨.str dg, rfl, rfl, _, rfl, ?_⟩
      rw [text_is, c0]
      by_cases hw : cp dg = [48]
      · rw [decide_eq_true hw]
        exact iteF (last (by rw [okIs, decide_eq_true hw]; simp))
      · rw [decide_eq_false hw]
        exact iteT (bad (by rw [okIs, decide_eq_false hw]; simp [h48]))
    · rw [decide_eq_false h48]
      exact iteF (iteF (last (by rw [okIs]; simp [h48])))
  | false =>
    refine iteF ⟨.str dg, rfl, ?_⟩
    have hp : cp dg = plainW (cp dg) := by
      unfold plainW
      rw [if_neg (of_decide_eq_false hh)]
    have hpl : dg.length ≤ 2000000 := by
      rw [← cp_len, hp]
      obtain ⟨p, e1, _⟩ := plain_part (cp dg)
      have := congrArg List.length e1
      rw [List.length_append, cp_len] at this
      omega
    have hps : dg.length ≤ sizeLine := Nat.le_trans hpl (by decide)
    refine ⟨.str dg, rfl, rfl, _, rfl, ite2 (fun h1 => iteT (bad fun ok => ?_)) (fun h1 => ?_)⟩
    · rw [text_is, ce, hp] at h1
      exact (okW_ways ok).1 (of_decide_eq_true h1)
    have hne : plainW (cp dg) ≠ [] := fun h => by
      rw [text_is, ce, hp] at h1
      exact h1 (decide_eq_true h)
    refine ⟨.str dg, rfl, rfl, dg, _, rfl, rfl, hps, rfl, _, rfl, ite2 (fun h2 => iteT (bad fun ok => ?_)) (fun h2 => ?_)⟩
    · rw [strip_is] at h2
      have e1 := (okW_ways ok).2.2.1
      rw [← hp] at e1
      rw [e1] at h2
      exact absurd h2 (by decide)
    have hall : (plainW (cp dg)).all digit = true := by
      rw [strip_is] at h2
      rw [← hp]
      cases hb : (cp dg).all digit with
      | true => rfl
      | false => rw [hb] at h2; exact absurd rfl h2
    refine ⟨.str dg, rfl, .str dg, dg.length, rfl, ⟨hps, rfl⟩, _, _, rfl, rfl, _, rfl, ite2 (fun h3 => bad fun ok => ?_) (fun h3 => ?_)⟩
    · have e1 := (okW_ways ok).2.1
      rw [← hp, cp_len] at e1
      have := of_decide_eq_true h3
      omega
    have hlen : dg.length ≤ 4300 := by
      have : ¬ (4300 : Int) < (dg.length : Int) := fun z => h3 (decide_eq_true z)
      omega
    obtain ⟨p0, pr, ep⟩ : ∃ c r, cp dg = c :: r := by
      cases h : cp dg with
      | nil => rw [hp] at h; exact absurd h hne
      | cons c r => exact ⟨c, r, rfl⟩
    have at0 : atI (cp dg) 0 = some p0 := by
      rw [ep]
      exact atI_nat (j := 0) rfl
    have okIs : okW (cp dg) = (decide (p0 ≠ 48) || decide (cp dg = [48])) := by
      unfold okW
      rw [decide_eq_true hne, hall, ← hp, decide_eq_true (show (cp dg).length ≤ 4300 by rw [cp_len]; exact hlen), ep]
      simp
    have fin : okW (cp dg) = true → ∃ v, some (some (V.str dg)) = some (some v) ∧ ∃ a n, [v] = [V.str a] ∧ PySem.intText? a = some n ∧ a.length ≤ sizeLine ∧ (∀ c ∈ cp a, c = 45 ∨ (48 ≤ c ∧ c ≤ 57)) ∧ n = worth (cp dg) := fun ok => by
      have hl : dg.length ≤ 4300 := by
        obtain ⟨p, e1, e2⟩ := plain_part (cp dg)
        have h1 := hrun.all (p := p) (s := []) (by rw [List.append_nil]; exact e1) hall
        have h2 := congrArg List.length e1
        rw [List.length_append, cp_len] at h2
        omega
      exact ⟨_, rfl, dg, _, rfl, worth_text ok hl, hds, signs_text ok, rfl⟩
    refine ⟨.str dg, rfl, dg, 0, p0, rfl, rfl, hps, at0, rfl, _, rfl, ?_⟩
    rw [one_is p0 "0" 48 c0]
    have last : okW (cp dg) = true → ∃ v, some (some (V.str dg)) = some (some v) ∧ ∃ a n, [v] = [V.str a] ∧ PySem.intText? a = some n ∧ a.length ≤ sizeLine ∧ (∀ c ∈ cp a, c = 45 ∨ (48 ≤ c ∧ c ≤ 57)) ∧
        ∃ x, some (some (V.int ((k + j : Nat) : Int))) = some (some x) ∧ ∃ i i', x = .int i ∧ V.int 1 = .int i' ∧ [V.int n, V.int (i + i')].length ≤ sizeLine ∧ ∀ p, H p = none → Q (.ref p) (upd H p (.tup [.int n, .int (i + i')])) := fun ok => by
      obtain ⟨v, e1, a, n, e2, e3, e4, e5, rfl⟩ := fin ok
      exact ⟨v, e1, a, _, e2, e3, e4, e5, _, rfl, _, _, rfl, rfl, (by show 2 ≤ sizeLine; decide), fun p hp => q1 _ (k + j + 1) p (by rw [hn, if_pos ok]) hp⟩
    by_cases h48 : p0 = 48
    · rw [decide_eq_true h48]
      refine iteT ⟨.str dg, rfl, rfl, _, rfl, ?_⟩
      rw [text_is, c0]
      by_cases hw : cp dg = [48]
      · rw [decide_eq_true hw]
        exact iteF (last (by rw [okIs, decide_eq_true hw]; simp))
      · rw [decide_eq_false hw]
        exact iteT (bad (by rw [okIs, decide_eq_false hw]; simp [h48]))
    · rw [decide_eq_false h48]
      exact iteF (iteF (last (by rw [okIs]; simp [h48])))
end
end K14

set_option maxHeartbeats 4000000
namespace K14
open PySem PySem.Spec PyProof.Rows L2 HG K13
open P14 (num strv tok noL noAll noAll_mem noAll_app Runs num_some tok_lt Mrun mstep put)
/-! ### the pile -/
def GoodL (ds : List PyData) : Prop := noAll ds = true ∧ PyData.canLayAll0 ds = true
theorem canLay_app : ∀ {a b : List PyData}, PyData.canLayAll0 a = true → PyData.canLayAll0 b = true → PyData.canLayAll0 (a ++ b) = true
  | [], b, _, hb => hb
  | d :: a, b, ha, hb => by
    have h : d.canLay0 = true ∧ PyData.canLayAll0 a = true := by simpa [PyData.canLayAll0] using ha
    simp only [List.cons_append, PyData.canLayAll0, h.1, canLay_app h.2 hb, Bool.and_self]
theorem GoodL.nil : GoodL [] := ⟨by simp only [noAll], by simp only [PyData.canLayAll0]⟩
theorem GoodL.one {d : PyData} (h1 : noL d = true) (h2 : d.canLay0 = true) : GoodL [d] := ⟨by simp only [noAll, h1, Bool.and_self], by simp only [PyData.canLayAll0, h2, Bool.and_self]⟩
theorem GoodL.app {a b : List PyData} (h : GoodL a) (g : GoodL b) : GoodL (a ++ b) := ⟨noAll_app h.1 g.1, canLay_app h.2 g.2⟩
def Lst (K : PySem.W.Frag) (H : Hp) (a : Addr) (ds : List PyData) : Prop := ∃ vs, H a = some (.lst vs) ∧ DpAll K H vs ds ∧ GoodL ds
structure Pile (K : PySem.W.Frag) (H0 H : Hp) (p : Addr) (as : List Addr) (dss : List (List PyData)) : Prop where
  pl : H p = some (.lst (as.reverse.map V.ref))
  it : Paired (Lst K H) as dss
  n1 : p ∉ as
  n2 : as.Nodup
  w1 : H0 p = none
  w2 : ∀ a ∈ as, H0 a = none
  sm : Same H0 H
theorem paired_mono {α β : Type} {R S : α → β → Prop} : ∀ {a : List α} {b : List β}, Paired R a b → (∀ x ∈ a, ∀ y, R x y → S x y) → Paired S a b
  | _, _, .nil, _ => .nil
  | _, _, .cons h t, f => .cons (f _ List.mem_cons_self _ h) (paired_mono t fun x hx => f x (List.mem_cons_of_mem _ hx))
theorem Lst.keep {K : PySem.W.Frag} {H H' : Hp} {a : Addr} {ds : List PyData} (h : Lst K H a ds) (s : SameT H H') (ha : ∀ o, H a = some o → H' a = some o) : Lst K H' a ds := by
  obtain ⟨vs, h1, h2, h3⟩ := h
  exact ⟨vs, ha _ h1, dpAll_N s _ _ h3.1 h2, h3⟩
theorem Pile.new {K : PySem.W.Frag} {H0 H : Hp} {p q : Addr} {as : List Addr} {dss : List (List PyData)} {o : HO} (h : Pile K H0 H p as dss) (hq : H q = none) : Pile K H0 (upd H q o) p as dss :=
  ⟨upd_get hq h.pl, paired_mono h.it fun a _ ds l => l.keep (SameT.new hq) (fun _ z => upd_get hq z), h.n1, h.n2, h.w1, h.w2, fun b u z => upd_get hq (h.sm b u z)⟩
theorem Pile.same {K : PySem.W.Frag} {H0 H H' : Hp} {p : Addr} {as : List Addr} {dss : List (List PyData)} (h : Pile K H0 H p as dss) (s : Same H H') : Pile K H0 H' p as dss :=
  ⟨s _ _ h.pl, paired_mono h.it fun a _ ds l => l.keep (Same.T s) (fun _ z => s _ _ z), h.n1, h.n2, h.w1, h.w2, fun b u z => s _ _ (h.sm b u z)⟩
theorem Pile.push {K : PySem.W.Frag} {H0 H : Hp} {p q : Addr} {as : List Addr} {dss : List (List PyData)} (h : Pile K H0 H p as dss) (hq : H q = none) :
    Pile K H0 (upd (upd H q (.lst [])) p (.lst (as.reverse.map V.ref ++ [.ref q]))) p (q :: as) ([] :: dss) := by
  have npq : p ≠ q := ne_of_none h.pl hq
  have h1 := h.new (o := .lst []) hq
  have sT : SameT (upd H q (.lst [])) (upd (upd H q (.lst [])) p (.lst (as.reverse.map V.ref ++ [.ref q]))) := SameT.put h1.pl rfl
  have nq : q ∉ as := fun z => by
    have : ∀ {as : List Addr} {dss : List (List PyData)}, Paired (Lst K H) as dss → q ∉ as := by
      intro as dss pr
      induction pr with
      | nil => simp
      | cons r _ ih =>
        rename_i a b ds dss' _
        intro m
        rcases List.mem_cons.mp m with e | e
        · subst e
          obtain ⟨vs, hv, _⟩ := r
          rw [hq] at hv
          cases hv
        · exact ih e
    exact this h.it z
  refine ⟨?_, .cons ⟨[], ?_, .nil, GoodL.nil⟩ (paired_mono h1.it fun a ha ds l => l.keep sT fun o z => ?_), ?_, List.nodup_cons.mpr ⟨nq, h.n2⟩, h.w1, ?_, fun b u z => ?_⟩
  · rw [upd_same, List.reverse_cons, List.map_append]
    rfl
  · rw [upd_ne npq.symm, upd_same]
  · rw [upd_ne (fun e => h.n1 (by rw [← e]; exact ha))]
    exact z
  · intro m
    rcases List.mem_cons.mp m with e | e
    · exact npq e
    · exact h.n1 e
  · intro a ha
    rcases List.mem_cons.mp ha with e | e
    · subst e
      exact h.sm.free hq
    · exact h.w2 a e
  · rw [upd_ne (fun e => by rw [e, h.w1] at z; cases z)]
    exact upd_get hq (h.sm b u z)
theorem Pile.pop {K : PySem.W.Frag} {H0 H : Hp} {p ta : Addr} {ras : List Addr} {top : List PyData} {rest : List (List PyData)} (h : Pile K H0 H p (ta :: ras) (top :: rest)) :
    Pile K H0 (upd H p (.lst (ras.reverse.map V.ref))) p ras rest ∧ Lst K (upd H p (.lst (ras.reverse.map V.ref))) ta top := by
  have sT : SameT H (upd H p (.lst (ras.reverse.map V.ref))) := SameT.put h.pl rfl
  cases h.it with
  | cons r t =>
    have nt : ta ≠ p := fun e => h.n1 (by rw [← e]; exact List.mem_cons_self)
    refine ⟨⟨upd_same, paired_mono t fun a ha ds l => l.keep sT fun o z => ?_, fun m => h.n1 (List.mem_cons_of_mem _ m), (List.nodup_cons.mp h.n2).2, h.w1, fun a ha => h.w2 a (List.mem_cons_of_mem _ ha), fun b u z => ?_⟩, r.keep sT fun o z => ?_⟩
    · rw [upd_ne (fun e => h.n1 (by rw [← e]; exact List.mem_cons_of_mem _ ha))]
      exact z
    · rw [upd_ne (fun e => by rw [e, h.w1] at z; cases z)]
      exact h.sm b u z
    · rw [upd_ne nt]
      exact z
theorem Pile.app {K : PySem.W.Frag} {H0 H : Hp} {p ta : Addr} {ras : List Addr} {top : List PyData} {rest : List (List PyData)} {vs : List V} {v : V} {d : PyData} (h : Pile K H0 H p (ta :: ras) (top :: rest)) (ht : H ta = some (.lst vs)) (hv : Dp K H v d) (g : GoodL [d]) :
    Pile K H0 (upd H ta (.lst (vs ++ [v]))) p (ta :: ras) ((top ++ [d]) :: rest) := by
  have sT : SameT H (upd H ta (.lst (vs ++ [v]))) := SameT.put ht rfl
  have nt : p ≠ ta := fun e => h.n1 (by rw [e]; exact List.mem_cons_self)
  cases h.it with
  | cons r t =>
    obtain ⟨us, hu, hA, hg⟩ := r
    rw [ht] at hu
    cases hu
    have gd : noL d = true := by
      have := g.1
      simpa [noAll] using this
    refine ⟨by rw [upd_ne nt]; exact h.pl, .cons ⟨_, upd_same, dpAll_app (dpAll_N sT _ _ hg.1 hA) (.cons (dp_N sT _ _ gd hv) .nil), hg.app g⟩ (paired_mono t fun a ha ds l => l.keep sT fun o z => ?_), h.n1, h.n2, h.w1, h.w2, fun b u z => ?_⟩
    · rw [upd_ne (fun e => (List.nodup_cons.mp h.n2).1 (by rw [← e]; exact ha))]
      exact z
    · rw [upd_ne (fun e => by rw [e, h.w2 ta List.mem_cons_self] at z; cases z)]
      exact h.sm b u z
theorem paired_len {α β : Type} {R : α → β → Prop} : ∀ {a : List α} {b : List β}, Paired R a b → a.length = b.length
  | _, _, .nil => rfl
  | _, _, .cons _ t => congrArg (· + 1) (paired_len t)
theorem atI_last {xs : List V} {x : V} : atI (xs ++ [x]) (-1) = some x := by
  have e : ixN (xs ++ [x]).length (-1) = some xs.length := by
    unfold ixN
    rw [if_neg (by decide), List.length_append, List.length_singleton, if_pos (by omega)]
    congr 1
    omega
  unfold atI
  rw [e]
  simp
def whB : List Stmt := match (defBody s__law_read).getD 1 (.Pass ⟨0, 0, 0, 0⟩) with
  | .While _ b _ _ => b
  | _ => []
section
variable {P : Program} {w : World} {K : PySem.W.Frag} {mg : Str → Option Value} {base : Heap}
abbrev XR (P : Program) (w : World) (K : PySem.W.Frag) (mg : Str → Option Value) (base : Heap) (cdv : Value) (A : Around) (outer : List Env) (s : Shared) (H0 : Hp) (E : XK) : Cx := (cxOf CX0 P w K mg base N__law_read "_law_read" (defScope s__law_read) (He.ga K "_law_read") cdv A outer s H0 E).nox
set_option pp.maxSteps 600 in
/-- pile[-1].append(found[0]); at = found[1] -/
theorem read_end (T : Txt w K mg) {cdv : Value} {A : Around} {outer : List Env} {s : Shared} {H0 : Hp} {E : XK} :
    ∃ tE : TS, PSs (XR P w K mg base cdv A outer s H0 E) (whB.drop 3) tE ∧
      ∀ (D : Ends) (a0 a2 a3 a5 : Option V) (H : Hp) (p tf ta : Addr) (ras : List Addr) (top : List PyData) (rest : List (List PyData)) (v : V) (d : PyData) (k' : Nat), Pile K H0 H p (ta :: ras) (top :: rest) → H tf = some (.tup [v, .int (k' : Int)]) → Dp K H v d → GoodL [d] → top.length ≤ 2000000 →
        (∀ H', Pile K H0 H' p (ta :: ras) ((top ++ [d]) :: rest) → D.nx [a0, some (.ref p), some (.int k'), a3, some (.ref tf), a5] H') → tE D [a0, some (.ref p), a2, a3, some (.ref tf), a5] H := by
  refine ⟨_, (pss_cons (ps_expr (pe_bm PySem.F.plainAttrs_list PySem.F.slot_list_append PySem.F.type_list_append mt_append (pe_ix ix_list (pv 1) (pe_un un_neg pe_int) (fun _ _ => rfl)) (pa_cons (pe_ix ix_tup (pv 4) pe_int (fun _ _ => rfl)) pa_nil)))
      (pss_one (ps_set (i := 2) sc__law_read.nd rfl (.inl rfl) (pe_ix ix_tup (pv 4) pe_int (fun _ _ => rfl))))), ?_⟩
  intro D a0 a2 a3 a5 H p tf ta ras top rest v d k' hP htf hv g hl q2
  obtain ⟨vs, hta, hA, hg⟩ : Lst K H ta top := by cases hP.it with | cons r _ => exact r
  have epl : (ta :: ras).reverse.map V.ref = ras.reverse.map V.ref ++ [.ref ta] := by rw [List.reverse_cons, List.map_append]; rfl
  have hvl := dpAll_len hA
  have nft : tf ≠ ta := fun e => by rw [e, hta] at htf; cases htf
  refine ⟨.ref p, rfl, 1, rfl, p, _, -1, .ref ta, rfl, rfl, .inl (.inl hP.pl), by rw [epl]; exact atI_last, .inl ⟨rfl, _, .inl (.inl hta)⟩, .ref tf, rfl, tf, _, 0, v, rfl, rfl, .inl (.inl htf), atI_nat (j := 0) rfl, ta, vs, v, rfl, rfl, hta, Nat.lt_of_le_of_lt (show vs.length ≤ 2000000 by omega) (by decide), ?_⟩
  exact ⟨.ref tf, rfl, tf, _, 1, .int (k' : Int), rfl, rfl, .inl (.inl (by rw [upd_ne nft]; exact htf)), atI_nat (j := 1) rfl, q2 _ (hP.app hta hv g)⟩
set_option pp.maxSteps 600 in
/-- the end of a turn: found is none, or a pair -/
theorem read_tail (T : Txt w K mg) {cdv : Value} {A : Around} {outer : List Env} {s : Shared} {H0 : Hp} {E : XK} (hr : Room 1 (A.deeper (envOfC "_law_read" (defScope s__law_read) s.heap.objs.size (He.ga K "_law_read") cdv))) :
    ∃ tT : TS, PSs (XR P w K mg base cdv A outer s H0 E) (whB.drop 2) tT ∧
      (∀ (D : Ends) (a0 a1 a2 a3 a5 : Option V) (H : Hp), (∀ q, H q = none → D.rt (.ref q) (upd H q (.lst []))) → tT D [a0, a1, a2, a3, some .non, a5] H) ∧
      (∀ (D : Ends) (a0 a2 a3 a5 : Option V) (H : Hp) (p tf ta : Addr) (ras : List Addr) (top : List PyData) (rest : List (List PyData)) (v : V) (d : PyData) (k' : Nat), Pile K H0 H p (ta :: ras) (top :: rest) → H tf = some (.tup [v, .int (k' : Int)]) → Dp K H v d → GoodL [d] → top.length ≤ 2000000 →
        ((rest = [] ∧ top ≠ []) → ∀ q H', Same H H' → H' q = none → D.rt (.ref q) (upd H' q (.lst []))) →
        (¬ (rest = [] ∧ top ≠ []) → ∀ H', Pile K H0 H' p (ta :: ras) ((top ++ [d]) :: rest) → D.nx [a0, some (.ref p), some (.int k'), a3, some (.ref tf), a5] H') → tT D [a0, some (.ref p), a2, a3, some (.ref tf), a5] H) := by
  obtain ⟨tE, hE, pE⟩ := read_end (P := P) (base := base) T (cdv := cdv) (A := A) (outer := outer) (s := s) (H0 := H0) (E := E)
  refine ⟨_, pss_cons (ps_if (PW.pt (pw_or (pt_cmpR op_isN (pv 4) pe_non (nomark _)) (pw_or1 (PW.pt (pw_and (pt_cmpR op_eq (pe_callB call_len (by rfl) T.n_len (by decide +kernel) (pa_cons (pv 1) pa_nil)) pe_int (nomark _)) (pw_and1 (pt_cmpR (op_ne0 hr.units) (pe_ix ix_list (pv 1) pe_int (fun _ _ => rfl)) (pe_lst pa_nil) (nomark _)))))))) (pss_one (ps_ret (pe_lst pa_nil))) pss_nil) hE, ?_, ?_⟩
  · intro D a0 a1 a2 a3 a5 H q
    exact ⟨.non, rfl, rfl, _, rfl, iteT (iteT ⟨Nat.zero_le _, q⟩)⟩
  · intro D a0 a2 a3 a5 H p tf ta ras top rest v d k' hP htf hv g hl q1 q2
    refine ⟨.ref tf, rfl, rfl, _, rfl, iteF ⟨.ref p, rfl, .ref p, _, rfl, .inl ⟨_, .inl (.inl hP.pl), rfl⟩, rfl, _, rfl, ?_⟩⟩
    have elen : ((ta :: ras).reverse.map V.ref).length = ras.length + 1 := by simp
    have rlen : ras.length = rest.length := by cases hP.it with | cons _ t => exact paired_len t
    rw [elen]
    by_cases h1 : rest = []
    · subst h1
      have hr0 : ras = [] := List.length_eq_zero_iff.mp rlen
      subst hr0
      obtain ⟨vs, hta, hA, hg⟩ : Lst K H ta top := by cases hP.it with | cons r _ => exact r
      refine iteT ⟨.ref p, rfl, p, _, 0, .ref ta, rfl, rfl, .inl (.inl hP.pl), atI_nat (j := 0) rfl, Nat.zero_le _, fun q hq => ⟨top, .lst (.inl (.inl (upd_get hq hta))) (dpAll_N (SameT.new hq) _ _ hg.1 hA), hg.2, .lst (.inl (.inl upd_same)) .nil, _, rfl, ?_⟩⟩
      have sq : Same H (upd H q (.lst [])) := fun b o z => upd_get hq z
      by_cases h2 : top = []
      · rw [decide_eq_true h2]
        exact iteF (pE _ _ _ _ _ _ p tf ta [] top [] v d k' (hP.same sq) (sq _ _ htf) (dp_mono sq _ _ hv) g hl (q2 fun z => z.2 h2))
      · rw [decide_eq_false h2]
        exact iteT ⟨Nat.zero_le _, fun q' hq' => q1 ⟨rfl, h2⟩ q' _ sq hq'⟩
    · have hne : decide (V.int ((ras.length + 1 : Nat) : Int) = V.int 1) = false := decide_eq_false fun e => by
        injection e with e
        apply h1
        exact List.length_eq_zero_iff.mp (by omega)
      rw [hne]
      exact iteF (iteF (pE _ _ _ _ _ _ p tf ta ras top rest v d k' hP htf hv g hl (q2 fun z => h1 z.1)))
end
end K14

set_option maxHeartbeats 4000000
namespace K14
open PySem PySem.Spec PyProof.Rows L2 HG K13
open P14 (num strv tok noL noAll noAll_mem noAll_app Runs num_some tok_lt Mrun mstep put tok_at at_lt)
def RInv (K : PySem.W.Frag) (z : Str) (H : Hp) (p : Addr) (mm : Nat) (σ : L2.St) (H2 : Hp) : Prop := ∃ (k : Nat) (ta : Addr) (ras : List Addr) (top : List PyData) (rest : List (List PyData)) (a3 a4 a5 : Option V), mm = z.length - k ∧
  σ = [some (.str z), some (.ref p), some (.int k), a3, a4, a5] ∧ Pile K H H2 p (ta :: ras) (top :: rest) ∧ k ≤ z.length ∧ ras.length ≤ 100 ∧ ((top :: rest).map List.length).sum ≤ k ∧ (∀ out, Mrun (cp z) top rest k out → Mrun (cp z) [] [] 0 out)
def tfn : List (Key × V) := [(Sum.inr "T", .bl true), (Sum.inr "F", .bl false), (Sum.inr "N", .non)]
theorem cTFN : cp ("TFN" : Str) = [84, 70, 78] := by decide +kernel
theorem itN {b : Bool} {A B : Prop} (h : b = false) (x : B) : if b = true then A else B := by rw [h]; exact iteF x
theorem itY {b : Bool} {A B : Prop} (h : b = true) (x : A) : if b = true then A else B := by rw [h]; exact iteT x
theorem cc : cp (")" : Str) = [41] := by decide +kernel
section
variable {P : Program} {w : World} {K : PySem.W.Frag} {mg : Str → Option Value} {base : Heap}
def spRead (K : PySem.W.Frag) : Sp := fun vs H Q _ => ∃ z : Str, vs = [.str z] ∧ Rd z ∧ ∀ (out : List PyData) (a : Addr) (H' : Hp), Mrun (cp z) [] [] 0 out → Lst K H' a out → Same H H' → Q (.ref a) H'
set_option pp.maxSteps 600 in
theorem c_read (T : Txt w K mg) : Cal P w K mg base "_law_read" 2 ["_law_text"] (spRead K) := by
  obtain ⟨fd, F⟩ := T.d__law_read
  have C__law_number := c_number (P := P) (base := base) T
  refine ⟨⟨fd, F.ok sc__law_read (fun vs H Q E h => ?_) (fun cdv A outer s H vs Q E hr h => ?_), F.bindsN fun _ _ _ _ _ _ us hl => match us, hl with | [_], _ => rfl⟩, T.g _ (by decide), F.kp⟩
  · obtain ⟨z, rfl, _⟩ := h
    rfl
  obtain ⟨z, rfl, hz, q⟩ := h
  have hzs := hz.sz
  have hu := hu_of hr
  obtain ⟨tT, hT, pN, pF⟩ := read_tail (P := P) (base := base) T (cdv := cdv) (A := A) (outer := outer) (s := s) (H0 := H) (E := E) hr
  refine ⟨_, PSs.nox (pss_cons (ps_par (i := 1) (j := 2) rfl sc__law_read.nd rfl rfl (by decide) rfl rfl (pa_cons (pe_lst (pa_cons (pe_lst pa_nil) pa_nil)) (pa_cons pe_int pa_nil)) (by rfl))
      (pss_cons (ps_while PassesOwn.never (pt_cmpR op_lt (pv 2) (pe_callB call_len (by rfl) T.n_len (by decide +kernel) (pa_cons (pv 0) pa_nil)) (nomark _)) (pss_cons (ps_par3 (i := 3) (j := 2) (l := 4) rfl sc__law_read.nd rfl rfl rfl (by decide) (by decide) (by decide) rfl rfl rfl (pa_cons (pe_ix ix_str (pv 0) (pv 2) (fun _ _ => rfl)) (pa_cons (pe_op op_add (pv 2) pe_int) (pa_cons pe_non pa_nil))) (by rfl))
      (pss_cons (ps_if (pt_cmpR op_in_sign (pv 3) pe_str (by rfl)) (pss_one (ps_set (i := 4) sc__law_read.nd rfl (.inl rfl) (pe_tup (pa_cons (pe_dget hu (pe_disp (pps_cons pe_str pe_bl (pps_cons pe_str pe_bl (pps_cons pe_str pe_non pps_nil))) (by rfl) (by rfl) (fun z => by cases z) (by decide)) (pv 3) (fun _ _ => rfl)) (pa_cons (pv 2) pa_nil))))) (pss_one (ps_if (PW.pt (pw_and (pt_cmpR op_eq (pv 3) pe_str (nomark _)) (pw_and1 (pt_cmpR op_lt (pe_callB call_len (by rfl) T.n_len (by decide +kernel) (pa_cons (pv 1) pa_nil)) pe_int (nomark _))))) (pss_cons (ps_expr (pe_bm PySem.F.plainAttrs_list PySem.F.slot_list_append PySem.F.type_list_append mt_append (pv 1) (pa_cons (pe_lst pa_nil) pa_nil)))
      (pss_one ps_continue)) (pss_one (ps_if (PW.pt (pw_and (pt_cmpR op_eq (pv 3) pe_str (nomark _)) (pw_and1 (pt_cmpR op_gt (pe_callB call_len (by rfl) T.n_len (by decide +kernel) (pa_cons (pv 1) pa_nil)) pe_int (nomark _))))) (pss_one (ps_set (i := 4) sc__law_read.nd rfl (.inl rfl) (pe_tup (pa_cons (pe_callTy call_tuple_of (by rfl) T.n_tuple (by decide +kernel) (pa_cons (pe_bm0 PySem.F.plainAttrs_list PySem.F.slot_list_pop PySem.F.type_list_pop mt_pop (pv 1)) pa_nil)) (pa_cons (pv 2) pa_nil))))) (pss_one (ps_if (pt_cmpR op_eq (pv 3) pe_str (nomark _)) (pss_one (ps_set (i := 4) sc__law_read.nd rfl (.inl rfl) (pe_cal C__law_number (hr.mono (by omega)) (by rfl) (pa_cons (pv 0) (pa_cons (pv 2) (pa_cons pe_str pa_nil)))))) (pss_one (ps_if (pt_cmpR op_eq (pv 3) pe_str (nomark _)) (pss_cons (ps_set (i := 4) sc__law_read.nd rfl (.inl rfl) (pe_cal C__law_number (hr.mono (by omega)) (by rfl) (pa_cons (pv 0) (pa_cons (pv 2) (pa_cons pe_str pa_nil)))))
      (pss_one (ps_if (pt_cmpR op_notN (pv 4) pe_non (nomark _)) (pss_cons (ps_asg (pv 4) (pg_tup rfl (pgs_cons (pg_name (i := 5) sc__law_read.nd rfl (.inl rfl)) (pgs_cons (pg_name (i := 2) sc__law_read.nd rfl (.inl rfl)) pgs_nil))))
      (pss_one (ps_set (i := 4) sc__law_read.nd rfl (.inl rfl) (pe_ifExp (pt_chain op_le op_le pe_int (pv 5) (pe_op op_sub (pe_callB call_len (by rfl) T.n_len (by decide +kernel) (pa_cons (pv 0) pa_nil)) (pv 2))) (pe_tup (pa_cons (pe_slice sl_str (pv 0) (po_some (pv 2)) (po_some (pe_op op_add (pv 2) (pv 5)))) (pa_cons (pe_op op_add (pv 2) (pv 5)) pa_nil))) pe_non)))) pss_nil))) pss_nil))))))))) hT)))
      (pss_one (ps_ret (pe_ifExp (pt_cmpR op_eq (pe_callB call_len (by rfl) T.n_len (by decide +kernel) (pa_cons (pv 1) pa_nil)) pe_int (nomark _)) (pe_ix ix_list (pv 1) pe_int (fun _ _ => rfl)) (pe_lst pa_nil)))))), ?_⟩
  refine ⟨Nat.zero_le _, fun t0 ht0 => ⟨(by show 1 ≤ sizeLine; decide), fun p hp => ?_⟩⟩
  have ntp : t0 ≠ p := ne_of_none upd_same hp
  have hP0 : Pile K H (upd (upd H t0 (.lst [])) p (.lst [.ref t0])) p [t0] [[]] := by
    refine ⟨upd_same, .cons ⟨[], ?_, .nil, GoodL.nil⟩ .nil, ?_, by simp, ?_, ?_, fun b o h => upd_get hp (upd_get ht0 h)⟩
    · rw [upd_ne ntp, upd_same]
    · simp [ntp.symm]
    · rw [upd_ne ntp.symm] at hp
      exact hp
    · intro a ha
      rw [List.mem_singleton.mp ha]
      exact ht0
  generalize upd (upd H t0 (.lst [])) p (.lst [.ref t0]) = Hs at hP0 ⊢
  refine ⟨_, _, rfl, ?_⟩
  refine ⟨fun mm σ H2 => RInv K z H p mm σ H2, ⟨_, 0, t0, [], [], [], none, none, none, rfl, rfl, hP0, Nat.zero_le _, Nat.zero_le _, Nat.zero_le _, fun _ h => h⟩, ?_⟩
  rintro mm σ H2 ⟨k, ta, ras, top, rest, a3, a4, a5, rfl, rfl, hP, hk, hra, hsum, hM⟩
  have rlen : ras.length = rest.length := by cases hP.it with | cons _ t => exact paired_len t
  have htop : top.length ≤ k := by
    rw [List.map_cons, List.sum_cons] at hsum
    omega
  have hz2 := hz.len
  refine ⟨.int k, rfl, .str z, rfl, .str z, z.length, rfl, ⟨hzs, rfl⟩, _, _, rfl, rfl, _, rfl, ite2 (fun hlt => ?_) (fun hlt => ?_)⟩
  rotate_left
  · -- the end
    have hkl : (cp z).length ≤ k := by
      have : ¬ (k : Int) < (z.length : Int) := fun y => hlt (decide_eq_true y)
      rw [cp_len]
      omega
    refine ⟨.ref p, rfl, .ref p, _, rfl, .inl ⟨_, .inl (.inl hP.pl), rfl⟩, rfl, _, rfl, ?_⟩
    have elen : ((ta :: ras).reverse.map V.ref).length = ras.length + 1 := by simp
    rw [elen]
    by_cases h1 : rest = []
    · subst h1
      have hr0 : ras = [] := List.length_eq_zero_iff.mp rlen
      subst hr0
      have hl0 : Lst K H2 ta top := by cases hP.it with | cons r _ => exact r
      refine iteT ⟨.ref p, rfl, p, _, 0, .ref ta, rfl, rfl, .inl (.inl hP.pl), atI_nat (j := 0) rfl, q top ta H2 (hM _ ?_) hl0 hP.sm⟩
      have := Mrun.stop (l := cp z) (top := top) (rest := []) hkl
      rw [if_pos rfl] at this
      exact this
    · have hne : decide (V.int ((ras.length + 1 : Nat) : Int) = V.int 1) = false := decide_eq_false fun e => by
        injection e with e
        apply h1
        exact List.length_eq_zero_iff.mp (by omega)
      rw [hne]
      refine iteF ⟨Nat.zero_le _, fun q' hq' => q [] q' _ (hM _ ?_) ⟨[], upd_same, .nil, GoodL.nil⟩ (fun b o h => upd_get hq' (hP.sm b o h))⟩
      have := Mrun.stop (l := cp z) (top := top) (rest := rest) hkl
      rw [if_neg h1] at this
      exact this
  have hkz : k < z.length := by
    have := of_decide_eq_true hlt
    omega
  have hkl : k < (cp z).length := by rw [cp_len]; exact hkz
  obtain ⟨c, hc⟩ : ∃ c, (cp z)[k]? = some c := ⟨_, List.getElem?_eq_getElem hkl⟩
  refine ⟨fun σ' H' => ∃ m', m' < z.length - k ∧ RInv K z H p m' σ' H', fun σ' H' h => h, ?_⟩
  refine ⟨.str z, rfl, .int k, rfl, z, k, c, rfl, rfl, hzs, atI_nat hc, .int k, rfl, _, _, rfl, rfl, _, _, _, rfl, ?_⟩
  -- no way on
  have dead : ∀ (H3 : Hp), Same H H3 → mstep (cp z) top rest k = none → ∀ q', H3 q' = none → Q (.ref q') (upd H3 q' (.lst [])) := fun H3 s3 hm q' hq' =>
    q [] q' _ (hM _ (.dead hkl hm)) ⟨[], upd_same, .nil, GoodL.nil⟩ (fun b o h => upd_get hq' (s3 b o h))
  -- a value more
  have go : ∀ (D : Ends) (a2 a3 a5 : Option V) (H3 : Hp) (tf ta' : Addr) (ras' : List Addr) (top' : List PyData) (rest' : List (List PyData)) (v : V) (d : PyData) (k' : Nat), Pile K H H3 p (ta' :: ras') (top' :: rest') → H3 tf = some (.tup [v, .int (k' : Int)]) → Dp K H3 v d → GoodL [d] →
      ras'.length ≤ 100 → ((top' :: rest').map List.length).sum ≤ k → k < k' → k' ≤ z.length → mstep (cp z) top rest k = put top' rest' d k' →
      (∀ σ' H', (∃ m', m' < z.length - k ∧ RInv K z H p m' σ' H') → D.nx σ' H') → (∀ v H', Q v H' → D.rt v H') → tT D [some (.str z), some (.ref p), a2, a3, some (.ref tf), a5] H3 := by
    intro D a2 a3 a5 H3 tf ta' ras' top' rest' v d k' hP3 htf hv hg hra' hs' hk1 hk2 hm hnx hrt
    have ht' : top'.length ≤ k := by
      rw [List.map_cons, List.sum_cons] at hs'
      omega
    refine pF D _ _ _ _ H3 p tf ta' ras' top' rest' v d k' hP3 htf hv hg (by omega) (fun hb q' H' s' hq' => hrt _ _ (dead H' (fun b o h => s' b o (hP3.sm b o h)) ?_ q' hq')) (fun hb H' hP' => hnx _ _ ⟨z.length - k', by omega, k', ta', ras', top' ++ [d], rest', a3, some (.ref tf), a5, rfl, rfl, hP', hk2, hra', ?_, fun out ho => hM out ?_⟩)
    · rw [hm]
      unfold put
      rw [if_pos hb]
    · rw [List.map_cons, List.sum_cons] at hs' ⊢
      rw [List.length_append, List.length_singleton]
      omega
    · refine .step hkl ?_ ho
      rw [hm]
      unfold put
      rw [if_neg hb]
  have flat : ∀ {d : PyData}, noL d = true → d.canLay0 = true → GoodL [d] := fun h1 h2 => GoodL.one h1 h2
  -- True, False, None
  refine ⟨.str ⟨#[c]⟩, rfl, c, _, rfl, rfl, _, rfl, ?_⟩
  have rest_lt : ∀ {n : Nat}, ((ta :: ras).reverse.map V.ref).length = n → n = ras.length + 1 := fun h => by rw [← h]; simp
  by_cases h84 : c = 84
  · subst h84
    refine iteT fun dp hdp => ⟨upd_same, tfn, rfl, (by show 3 ≤ 15; decide), .str ⟨#[84]⟩, rfl, dp, .bl true, rfl, DGet.k (k := Sum.inr "T") upd_same, .int _, rfl, (by show 2 ≤ sizeLine; decide), fun tf htf => ?_⟩
    rw [upd_upd] at htf ⊢
    exact go _ _ _ _ _ tf ta ras top rest (.bl true) (.bool true) (k + 1) ((hP.new hdp).new htf) upd_same (.bl true) (flat (by simp only [noL]) (by simp only [PyData.canLay0])) hra hsum (by omega) (by omega) (by unfold mstep; rw [show tok (cp z) k = some (.bool true, k + 1) by unfold tok; rw [hc]; simp]) (fun _ _ h => h) (fun _ _ h => h)
  by_cases h70 : c = 70
  · subst h70
    refine iteT fun dp hdp => ⟨upd_same, tfn, rfl, (by show 3 ≤ 15; decide), .str ⟨#[70]⟩, rfl, dp, .bl false, rfl, DGet.k (k := Sum.inr "F") upd_same, .int _, rfl, (by show 2 ≤ sizeLine; decide), fun tf htf => ?_⟩
    rw [upd_upd] at htf ⊢
    exact go _ _ _ _ _ tf ta ras top rest (.bl false) (.bool false) (k + 1) ((hP.new hdp).new htf) upd_same (.bl false) (flat (by simp only [noL]) (by simp only [PyData.canLay0])) hra hsum (by omega) (by omega) (by unfold mstep; rw [show tok (cp z) k = some (.bool false, k + 1) by unfold tok; rw [hc]; simp]) (fun _ _ h => h) (fun _ _ h => h)
  by_cases h78 : c = 78
  · subst h78
    refine iteT fun dp hdp => ⟨upd_same, tfn, rfl, (by show 3 ≤ 15; decide), .str ⟨#[78]⟩, rfl, dp, .non, rfl, DGet.k (k := Sum.inr "N") upd_same, .int _, rfl, (by show 2 ≤ sizeLine; decide), fun tf htf => ?_⟩
    rw [upd_upd] at htf ⊢
    exact go _ _ _ _ _ tf ta ras top rest .non .none (k + 1) ((hP.new hdp).new htf) upd_same .non (flat (by simp only [noL]) (by simp only [PyData.canLay0])) hra hsum (by omega) (by omega) (by unfold mstep; rw [show tok (cp z) k = some (.none, k + 1) by unfold tok; rw [hc]; simp]) (fun _ _ h => h) (fun _ _ h => h)
  refine itN (by
    have e := cTFN
    unfold cp at e
    rw [e]
    exact decide_eq_false (by simp [h84, h70, h78])) ?_
  have tk : tok (cp z) k = if c = 105 then (num (cp z) (k + 1) 59).map (fun p => (PyData.int p.1, p.2)) else if c = 115 then (strv (cp z) (k + 1)).map (fun p => (PyData.str p.1, p.2)) else none := by
    unfold tok
    rw [hc]
    simp [h84, h70, h78]
  -- brackets
  refine ⟨.str ⟨#[c]⟩, rfl, rfl, _, rfl, ?_⟩
  by_cases h40 : c = 40
  · subst h40
    have tk0 : tok (cp z) k = none := tk
    refine iteT ⟨.ref p, rfl, .ref p, _, rfl, .inl ⟨_, .inl (.inl hP.pl), rfl⟩, _, _, rfl, rfl, _, rfl, ?_⟩
    have elen : ((ta :: ras).reverse.map V.ref).length = ras.length + 1 := by simp
    rw [elen]
    by_cases h101 : ras.length < 100
    · refine itY (decide_eq_true (show ((ras.length + 1 : Nat) : Int) < 101 by omega)) ?_
      refine ⟨.ref p, rfl, .inl ⟨rfl, _, .inl (.inl hP.pl)⟩, Nat.zero_le _, fun q' hq' => ⟨p, _, .ref q', rfl, rfl, upd_get hq' hP.pl, by rw [elen]; exact Nat.lt_of_le_of_lt (show ras.length + 1 ≤ 101 by omega) (by decide), ?_⟩⟩
      refine ⟨z.length - (k + 1), by omega, k + 1, q', ta :: ras, [], top :: rest, _, _, _, rfl, rfl, hP.push hq', by omega, by rw [List.length_cons]; omega, ?_, fun out ho => hM out ?_⟩
      · rw [List.map_cons, List.sum_cons]
        show 0 + _ ≤ _
        omega
      · refine .step hkl ?_ ho
        unfold mstep
        rw [tk0]
        dsimp only
        rw [if_pos ⟨hc, by omega⟩]
    · refine itN (decide_eq_false (show ¬ ((ras.length + 1 : Nat) : Int) < 101 by omega)) ?_
      refine ⟨.str ⟨#[40]⟩, rfl, rfl, _, rfl, iteF (iteF ⟨.str ⟨#[40]⟩, rfl, rfl, _, rfl, iteF ⟨.str ⟨#[40]⟩, rfl, rfl, _, rfl, iteF ?_⟩⟩)⟩
      refine pN _ _ _ _ _ _ _ (fun q' hq' => dead H2 hP.sm ?_ q' hq')
      unfold mstep
      rw [tk0]
      dsimp only
      rw [if_neg (fun y => by have := y.2; omega), if_neg (fun y => by rw [hc] at y; cases y)]
  refine itN (by rw [one_is c "(" 40 co]; exact decide_eq_false h40) (itN rfl ?_)
  refine ⟨.str ⟨#[c]⟩, rfl, rfl, _, rfl, ?_⟩
  by_cases h41 : c = 41
  · subst h41
    have tk0 : tok (cp z) k = none := tk
    refine iteT ⟨.ref p, rfl, .ref p, _, rfl, .inl ⟨_, .inl (.inl hP.pl), rfl⟩, _, _, rfl, rfl, _, rfl, ?_⟩
    have elen : ((ta :: ras).reverse.map V.ref).length = ras.length + 1 := by simp
    rw [elen]
    cases rest with
    | nil =>
      have hr0 : ras = [] := List.length_eq_zero_iff.mp rlen
      subst hr0
      refine iteF ⟨.str ⟨#[41]⟩, rfl, rfl, _, rfl, iteF ⟨.str ⟨#[41]⟩, rfl, rfl, _, rfl, iteF ?_⟩⟩
      refine pN _ _ _ _ _ _ _ (fun q' hq' => dead H2 hP.sm ?_ q' hq')
      unfold mstep
      rw [tk0]
      dsimp only
      rw [if_neg (fun y => by rw [hc] at y; cases y.1), if_pos hc]
    | cons t1 r1 =>
      cases ras with
      | nil => simp at rlen
      | cons tb rbs =>
        refine itY (decide_eq_true (show (1 : Int) < (((tb :: rbs).length + 1 : Nat) : Int) by rw [List.length_cons]; omega)) ?_
        have epl : (ta :: tb :: rbs).reverse.map V.ref = (tb :: rbs).reverse.map V.ref ++ [.ref ta] := by rw [List.reverse_cons, List.map_append]; rfl
        obtain ⟨hP3, vs, hta, hA, hg⟩ := hP.pop
        refine ⟨.ref p, rfl, .inl ⟨rfl, _, .inl (.inl hP.pl)⟩, p, _, .ref ta, rfl, rfl, hP.pl, ?_, ?_⟩
        · rw [epl, List.length_append, List.length_singleton, Nat.add_sub_cancel, List.getElem?_append_right (Nat.le_refl _), Nat.sub_self]
          rfl
        rw [epl, List.dropLast_concat]
        refine ⟨ta, vs, rfl, .inl ⟨.inl (.inl hta), fun tt htt => ?_⟩⟩
        refine ⟨.int _, rfl, (by show 2 ≤ sizeLine; decide), fun tf htf => ?_⟩
        have hsum' : ((t1 :: r1).map List.length).sum ≤ k := by
          rw [List.map_cons, List.sum_cons] at hsum
          omega
        have hs1 : SameT (upd H2 p (.lst ((tb :: rbs).reverse.map V.ref))) (upd (upd (upd H2 p (.lst ((tb :: rbs).reverse.map V.ref))) tt (.tup vs)) tf (.tup [.ref tt, .int ((k : Int) + 1)])) := (SameT.new htt).trans (SameT.new htf)
        have hgd : GoodL [.tuple top] := flat (by simp only [noL]; exact hg.1) (by simp only [PyData.canLay0]; exact hg.2)
        exact go _ _ _ _ _ tf tb rbs t1 r1 (.ref tt) (.tuple top) (k + 1) ((hP3.new htt).new htf) upd_same (.tup (.inl (.inl (upd_get htf upd_same))) (dpAll_N hs1 _ _ hg.1 hA)) hgd (by rw [List.length_cons] at hra; omega) hsum' (by omega) (by omega) (by
          unfold mstep
          rw [tk0]
          dsimp only
          rw [if_neg (fun y => by rw [hc] at y; cases y.1), if_pos hc]) (fun _ _ h => h) (fun _ _ h => h)
  refine itN (by rw [one_is c ")" 41 cc]; exact decide_eq_false h41) (itN rfl ?_)
  refine ⟨.str ⟨#[c]⟩, rfl, rfl, _, rfl, ?_⟩
  have nm : ∀ {r : Option (PyData × Nat)}, tok (cp z) k = r → r = none → mstep (cp z) top rest k = none := fun {r} e1 e2 => by
    unfold mstep
    rw [e1, e2]
    dsimp only
    rw [if_neg (fun y => by rw [hc] at y; exact h40 (Option.some.inj y.1)), if_neg (fun y => by rw [hc] at y; exact h41 (Option.some.inj y))]
  by_cases h105 : c = 105
  · subst h105
    refine iteT ⟨.str z, rfl, .int _, rfl, z, k + 1, 59, rfl, hz, fun hn => ?_, fun i k' tf hn htf => ?_⟩
    · exact pN _ _ _ _ _ _ _ (fun q' hq' => dead H2 hP.sm (nm tk (by rw [if_pos rfl, hn]; rfl)) q' hq')
    · have ht : tok (cp z) k = some (.int i, k') := by rw [tk, if_pos rfl, hn]; rfl
      have hl := tok_lt ht
      rw [cp_len] at hl
      exact go _ _ _ _ _ tf ta ras top rest (.int i) (.int i) k' (hP.new htf) upd_same (.int i) (flat (by simp only [noL]) (by simp only [PyData.canLay0])) hra hsum hl.1 hl.2 (by unfold mstep; rw [ht]) (fun _ _ h => h) (fun _ _ h => h)
  refine itN (by rw [one_is c "i" 105 ci]; exact decide_eq_false h105) ?_
  rw [if_neg h105] at tk
  refine ⟨.str ⟨#[c]⟩, rfl, rfl, _, rfl, ?_⟩
  by_cases h115 : c = 115
  · subst h115
    rw [if_pos rfl] at tk
    refine iteT ⟨.str z, rfl, .int _, rfl, z, k + 1, 58, rfl, hz, fun hn => ?_, fun n k1 tp hn htp => ?_⟩
    · refine ⟨.non, rfl, rfl, _, rfl, iteF ?_⟩
      exact pN _ _ _ _ _ _ _ (fun q' hq' => dead H2 hP.sm (nm tk (by unfold strv; rw [hn]; rfl)) q' hq')
    · have hk1 := (num_some hn).choose_spec.2.2.2.2
      rw [cp_len] at hk1
      have hs : strv (cp z) (k + 1) = if 0 ≤ n ∧ n ≤ ((cp z).length : Int) - k1 then some (⟨(((cp z).drop k1).take n.toNat).toArray⟩, k1 + n.toNat) else none := by unfold strv; rw [hn]
      rw [cp_len] at hs
      refine ⟨.ref tp, rfl, rfl, _, rfl, iteT ?_⟩
      have hP3 := hP.new (o := .tup [.int n, .int (k1 : Int)]) htp
      have htp2 : (upd H2 tp (.tup [.int n, .int (k1 : Int)])) tp = some (.tup [.int n, .int (k1 : Int)]) := upd_same
      generalize upd H2 tp (.tup [.int n, .int (k1 : Int)]) = H3 at hP3 htp2 ⊢
      refine ⟨.ref tp, rfl, tp, _, rfl, .inl (.inl htp2), rfl, _, _, rfl, _, _, rfl, rfl, ?_⟩
      refine ⟨.int n, rfl, _, _, rfl, rfl, _, rfl, ite2 (fun h1 => ?_) (fun h1 => ⟨_, rfl, iteF ?_⟩)⟩
      rotate_left
      · exact pN _ _ _ _ _ _ _ (fun q' hq' => dead H3 hP3.sm (nm tk (by rw [hs, if_neg (fun y => h1 (decide_eq_true y.1))]; rfl)) q' hq')
      refine ⟨.str z, rfl, .str z, z.length, rfl, ⟨hzs, rfl⟩, .int (k1 : Int), rfl, _, _, rfl, rfl, _, _, rfl, rfl, _, rfl, ite2 (fun h2 => ?_) (fun h2 => ?_)⟩
      rotate_left
      · exact pN _ _ _ _ _ _ _ (fun q' hq' => dead H3 hP3.sm (nm tk (by rw [hs, if_neg (fun y => h2 (decide_eq_true y.2))]; rfl)) q' hq')
      have hn0 := of_decide_eq_true h1
      have hn1 := of_decide_eq_true h2
      obtain ⟨m, rfl⟩ := Int.eq_ofNat_of_zero_le hn0
      have hs2 := hs.trans (if_pos ⟨hn0, hn1⟩)
      rw [Int.toNat_natCast] at hs2
      have hkm : k1 + m ≤ z.length := by omega
      refine ⟨.str z, rfl, .int (k1 : Int), rfl, _, rfl, .int (k1 : Int), rfl, .int (m : Nat), rfl, _, _, rfl, rfl, _, rfl, z, rfl, hzs, .int (k1 : Int), rfl, .int (m : Nat), rfl, _, _, rfl, rfl, (by show 2 ≤ sizeLine; decide), fun tf htf => ?_⟩
      have e2 : ((k1 : Int) + (m : Int)) = ((k1 + m : Nat) : Int) := by omega
      have ey : cutS z (some (k1 : Int)) (some ((k1 : Int) + (m : Int))) = ⟨(((cp z).drop k1).take m).toArray⟩ := by rw [e2]; exact cp_ext ((cut_dt hkm).trans rfl)
      have ht : tok (cp z) k = some (.str ⟨(((cp z).drop k1).take m).toArray⟩, k1 + m) := by rw [tk, hs2]; rfl
      have hl := tok_lt ht
      rw [cp_len] at hl
      have has : asc (⟨(((cp z).drop k1).take m).toArray⟩ : Str) := fun x hx => hz.asc x (List.mem_of_mem_drop (List.mem_of_mem_take (by simpa [cp] using hx)))
      refine go _ _ _ _ _ tf ta ras top rest (.str (cutS z (some (k1 : Int)) (some ((k1 : Int) + (m : Int))))) (.str ⟨(((cp z).drop k1).take m).toArray⟩) (k1 + m) (hP3.new htf) (by rw [upd_same, ← e2]) (by rw [ey]; exact .str _) (flat (by simp only [noL]) (by simp only [PyData.canLay0]; exact asc_ok has)) hra hsum hl.1 hl.2 (by unfold mstep; rw [ht]) (fun _ _ h => h) (fun _ _ h => h)
  refine itN (by rw [one_is c "s" 115 cs]; exact decide_eq_false h115) ?_
  rw [if_neg h115] at tk
  exact pN _ _ _ _ _ _ _ (fun q' hq' => dead H2 hP.sm (nm tk rfl) q' hq')
end
end K14

set_option maxHeartbeats 4000000
namespace K14
open PySem PySem.Spec PyProof.Rows L2 HG K13
open P14 (Val Vals noL noAll Mrun)
def suiteB : List Stmt := match (defBody s__law_heard).getD 1 (.Pass ⟨0, 0, 0, 0⟩) with
  | .Try _ [.ExceptHandler _ _ b _] _ _ _ => b
  | _ => []
abbrev XH (P : Program) (w : World) (K : PySem.W.Frag) (mg : Str → Option Value) (base : Heap) (cdv : Value) (A : Around) (outer : List Env) (s : Shared) (H0 : Hp) (E : XK) : Cx := (cxOf CX0 P w K mg base N__law_heard "_law_heard" (defScope s__law_heard) (He.ga K "_law_heard") cdv A outer s H0 E).nox
section
variable {P : Program} {w : World} {K : PySem.W.Frag} {mg : Str → Option Value} {base : Heap}
def tsH (K : PySem.W.Frag) (a : Addr) (cls : Value) (d : Option Addr) : TS :=
  tSeq (tAsg (tCB (rIsCT K a cls d) (tCons (tVar 2) (tCons (tTup (tCons (tC (V.ref (He.ga K "InvalidCommand"))) (tCons (tC (V.ref (He.ga K "InvalidModule"))) (tCons (tC (V.ref (He.ga K "InvalidObject"))) (tCons (tC (V.ref (He.ga K "InvalidRewrite"))) tNil))))) tNil))) (gName 3))
    (tAsg (tIf (tAnd (tB (tCB (rIsC K a cls d) (tCons (tVar 2) (tCons (tC (V.ref (He.ga K "InvalidText"))) tNil)))) (tAnd (tB (tCB (rIsC K a cls d) (tCons (tVar 2) (tCons (tC (V.ty "ValueError")) tNil)))) (tNot (tB (tVar 3))))) (tC (V.str "text")) (tC (V.str "other"))) (gName 1))
theorem heard_suite (T : Txt w K mg) {cdv : Value} {A : Around} {outer : List Env} {s : Shared} {H0 : Hp} {E : XK} {a : Addr} {oe : Obj} {cls : Value} {d : Option Addr} {pn : List (Addr × Obj)} (hz : Zc cls d oe) (hf : ∃ vs, oe.data = .fields vs) :
    PSs ((XH P w K mg base cdv A outer s H0 E).suite a ((a, oe) :: pn)) suiteB (tsH K a cls d) :=
  (pss_cons (ps_set (i := 3) sc__law_heard.nd rfl (.inl rfl) (pe_callB (call_isCT hz hf) (by rfl) T.n_isinstance (by decide +kernel) (pa_cons (pv 2) (pa_cons (pe_tup (pa_cons (pe_glob (v := .ref _) (by rfl) (T.g "InvalidCommand" (by decide)) rfl) (pa_cons (pe_glob (v := .ref _) (by rfl) (T.g "InvalidModule" (by decide)) rfl) (pa_cons (pe_glob (v := .ref _) (by rfl) (T.g "InvalidObject" (by decide)) rfl) (pa_cons (pe_glob (v := .ref _) (by rfl) (T.g "InvalidRewrite" (by decide)) rfl) pa_nil))))) pa_nil))))
    (pss_one (ps_set (i := 1) sc__law_heard.nd rfl (.inl rfl) (pe_ifExp (PW.pt (pw_and (pt_val (pe_callB (call_isC hz hf) (by rfl) T.n_isinstance (by decide +kernel) (pa_cons (pv 2) (pa_cons (pe_glob (v := .ref _) (by rfl) (T.g "InvalidText" (by decide)) rfl) pa_nil)))) (pw_and (pt_val (pe_callB (call_isC hz hf) (by rfl) T.n_isinstance (by decide +kernel) (pa_cons (pv 2) (pa_cons (pe_bltn (v := .ty "ValueError") (u := .type "ValueError") (by rfl) T.n_ValueError (by decide +kernel) rfl) pa_nil)))) (pw_and1 (pt_not (pt_val (pv 3))))))) pe_str pe_str))))
def spHeard (K : PySem.W.Frag) : Sp := fun vs H Q _ => ∃ (x : V) (D : PyData), vs = [x] ∧ Dp K H x D ∧
  ((∃ z, x = .str z ∧ Rd z ∧ (∀ d v q H', Found z (some d) → Dp K H' v d → H' q = some (.lst [v]) → Same H H' → Q (.ref q) H') ∧ (Found z none → ∀ H', Same H H' → Q (.str "text") H')) ∨ (isS D = false ∧ ∀ H', Same H H' → Q (.str "text") H'))
set_option pp.maxSteps 600 in
theorem c_heard (T : Txt w K mg) (hP : PrgOk file P) : Cal P w K mg base "_law_heard" 111 ["_law_thing"] (spHeard K) := by
  obtain ⟨fd, F⟩ := T.d__law_heard
  have C_unpack := c_unpack (P := P) (base := base) T hP
  refine ⟨⟨fd, F.ok (k := 110) sc__law_heard (fun vs H Q E h => ?_) (fun cdv A outer s H vs Q E hr h => ?_), F.bindsN fun _ _ _ _ _ _ us hl => match us, hl with | [_], _ => rfl⟩, T.g _ (by decide), F.kp⟩
  · obtain ⟨x, D, rfl, _⟩ := h
    rfl
  obtain ⟨x, D, rfl, hx, h⟩ := h
  refine ⟨_, PSs.nox (pss_cons (ps_set (i := 1) sc__law_heard.nd rfl (.inl rfl) pe_str) (pss_cons
    (ps_try_as (i := 2) (tb := fun W => tAsg (tLst (tCons (tCallS (spUnpack K) (WE W) (tCons (tVar 0) tNil)) tNil)) (gName 1)) (ts := tsH K) (Wout := fun _ _ _ _ => False) rfl rfl sc__law_heard.nd rfl rfl ⟨rfl, by decide, Or.inl (T.g "WholeError" (by decide))⟩ takes0
      (fun W pn xe tk _ => pss_one (ps_set (i := 1) sc__law_heard.nd rfl (.inl rfl) (by exact (pe_lst (pa_cons (pe_calS C_unpack (hr.mono (by omega)) tk (by rfl) (pa_cons (pv 0) pa_nil)) pa_nil)))))
      (fun a oe cls d pn hz hf => heard_suite T hz hf))
    (pss_one (ps_ret (pv 1))))), ?_⟩
  rcases h with ⟨z, rfl, hz, q1, q2⟩ | ⟨hD, q2⟩
  · refine ⟨.str z, rfl, .str z, D, rfl, hx, .inl ⟨z, rfl, hz, fun d v H' hfd hv sm => ?_, fun hfn H' sm => ?_⟩⟩
    · exact ⟨(by show 1 ≤ sizeLine; decide), fun q hq => ⟨.ref q, rfl, q1 d v q _ hfd (dp_mono (fun b o y => upd_get hq y) _ _ hv) upd_same (fun b o y => upd_get hq (sm b o y))⟩⟩
    · refine ⟨true, T.exm, fun _ a ha => ?_, fun q => Bool.noConfusion q⟩
      refine ⟨.ref a, rfl, (by show 4 ≤ sizeLine; decide), fun tp htp => ⟨_, tp, _, _, false, rfl, rfl, T.x_InvalidText.ex, rfl, upd_same, .cons (.own _) (.cons (.own _) (.cons (.own _) (.cons (.own _) .nil))), T.isO, ?_⟩⟩
      refine ⟨.ref a, rfl, _, _, _, true, rfl, rfl, T.x_InvalidText.ex, rfl, .own _, T.isT, _, rfl, iteT ⟨.ref a, rfl, _, _, _, true, rfl, rfl, T.x_InvalidText.ex, rfl, .ty _, T.isV, _, rfl, iteT ⟨_, rfl, _, rfl, iteT ⟨.str "text", rfl, q2 hfn _ (fun b o y => upd_get htp (sm b o y))⟩⟩⟩⟩
  · refine ⟨x, rfl, x, D, rfl, hx, .inr ⟨hD, true, T.exm, fun _ a ha => ?_, fun q => Bool.noConfusion q⟩⟩
    refine ⟨.ref a, rfl, (by show 4 ≤ sizeLine; decide), fun tp htp => ⟨_, tp, _, _, false, rfl, rfl, T.x_InvalidText.ex, rfl, upd_same, .cons (.own _) (.cons (.own _) (.cons (.own _) (.cons (.own _) .nil))), T.isO, ?_⟩⟩
    refine ⟨.ref a, rfl, _, _, _, true, rfl, rfl, T.x_InvalidText.ex, rfl, .own _, T.isT, _, rfl, iteT ⟨.ref a, rfl, _, _, _, true, rfl, rfl, T.x_InvalidText.ex, rfl, .ty _, T.isV, _, rfl, iteT ⟨_, rfl, _, rfl, iteT ⟨.str "text", rfl, q2 _ (fun b o y => upd_get htp y)⟩⟩⟩⟩
end
end K14

set_option maxHeartbeats 4000000
namespace K14
open PySem PySem.Spec PyProof.Rows L2 HG K13
open P14 (Val Vals noL noAll Mrun Runs read_is out_is val_fact val_asc)
theorem dpStrs {K : PySem.W.Frag} {H : Hp} : ∀ zs : List Str, DpAll K H (zs.map V.str) (zs.map PyData.str)
  | [] => .nil
  | z :: zs => .cons (.str z) (dpStrs zs)
theorem canLay_strs : ∀ zs : List Str, (∀ z ∈ zs, asc z) → PyData.canLayAll0 (zs.map PyData.str) = true
  | [], _ => by simp only [List.map_nil, PyData.canLayAll0]
  | z :: zs, h => by simp only [List.map_cons, PyData.canLayAll0, PyData.canLay0, asc_ok (h z List.mem_cons_self), canLay_strs zs fun x hx => h x (List.mem_cons_of_mem _ hx), Bool.and_self]
theorem depth_strs : ∀ zs : List Str, PyData.depthAll (zs.map PyData.str) ≤ 1
  | [] => by simp only [List.map_nil, PyData.depthAll]; omega
  | z :: zs => by
    have := depth_strs zs
    simp only [List.map_cons, PyData.depthAll, PyData.depth]
    omega
theorem shaped_strs (zs : List Str) (ha : ∀ z ∈ zs, asc z) : SeqAt.shaped (.list (zs.map PyData.str)) = true := by
  have h := depth_strs zs
  have h2 : (PyData.list (zs.map PyData.str)).depth ≤ 64 := by
    simp only [PyData.depth]
    omega
  unfold SeqAt.shaped
  simp only [PyData.canLay0, canLay_strs zs ha, Bool.true_and]
  exact decide_eq_true h2
theorem eqv_strs (zs : List Str) (ha : ∀ z ∈ zs, asc z) : PyData.eqv (.list (zs.map PyData.str)) (.list (zs.map PyData.str)) = true := SeqAt.eqv_refl _ (SeqAt.canLay_of_shaped (shaped_strs zs ha))
/-- a text that _law_right may get -/
structure Tz (z : Str) : Prop where
  rd : Rd z
  len : z.length ≤ 1200000
  way : Runs 500 (cp z) ∨ ∀ r, Val (cp z) 0 0 r → r = none
/-- what is due -/
def dueT (out : List PyData) : Str := if out = [] then reprText "text" else (PyData.list out).shown
theorem found_out {z : Str} {out : List PyData} (hm : Mrun (cp z) [] [] 0 out) {r : Option PyData} (h : Found z r) : out = r.toList := by
  obtain ⟨r0, hv, e⟩ := h
  have := read_is hv hm
  cases r0 with
  | none =>
    subst e
    exact this
  | some p =>
    obtain ⟨d, k⟩ := p
    dsimp only at this e
    subst e
    rw [this]
    split <;> rfl
structure Shw (ds : List PyData) : Prop where
  sh : (PyData.list ds).showable = true
  dp : (PyData.list ds).depth ≤ 150
  ln : (PyData.list ds).shown.length ≤ sizeLine
  as : asc (PyData.list ds).shown
theorem shw_of {z : Str} (t : Tz z) {d : PyData} {k : Nat} (hv : Val (cp z) 0 0 (some (d, k))) : Shw [d] := by
  have hr : Runs 500 (cp z) := by
    rcases t.way with h | h
    · exact h
    · cases h _ hv
  have F := val_fact hv (by omega) d k rfl
  have hs := F.ok hr
  have hd := F.dp
  have hl := F.sh t.rd.asc
  have hk := F.le
  rw [cp_len] at hk
  have hz := t.len
  have ha := val_asc t.rd.asc hv d k rfl
  refine ⟨by simp only [PyData.showable, PyData.showableAll, hs, Bool.and_self], by simp only [PyData.depth, PyData.depthAll]; omega, ?_, ?_⟩
  · have e : (PyData.list [d]).shown = "[" ++ ("" : Str) ++ d.shown ++ "]" := by
      simp only [PyData.shown, PyData.shownAll]
      rfl
    rw [e, Str.length_append, Str.length_append, Str.length_append]
    have h1 : ("[" : Str).length = 1 := rfl
    have h2 : ("]" : Str).length = 1 := rfl
    have h3 : ("" : Str).length = 0 := rfl
    unfold P14.shl at hl
    have : d.shown.length ≤ 15000000 := by omega
    exact Nat.le_trans (show _ ≤ 15000002 by omega) (by decide)
  · simp only [PyData.shown]
    exact asc_list (asc_all fun x hx => by rw [List.mem_singleton.mp hx]; exact ha)
theorem shw_out {z : Str} (t : Tz z) {out : List PyData} (hm : Mrun (cp z) [] [] 0 out) : out = [] ∨ Shw out := by
  rcases out_is hm with h | ⟨d, k, hv, rfl⟩
  · exact .inl h
  · exact .inr (shw_of t hv)
theorem due_asc {out : List PyData} (h : out = [] ∨ Shw out) : asc (dueT out) := by
  unfold dueT
  split
  · unfold asc; decide +kernel
  · rename_i hn
    rcases h with h | h
    · exact absurd h hn
    · exact h.as
section
variable {P : Program} {w : World} {K : PySem.W.Frag} {mg : Str → Option Value} {base : Heap}
def spRight (K : PySem.W.Frag) : Sp := fun vs H Q _ => ∃ (x : V) (D : PyData), vs = [x] ∧ Dp K H x D ∧ ((∃ z, x = .str z ∧ Tz z) ∨ isS D = false) ∧ ∀ H', Same H H' → Q (.bl true) H'
set_option pp.maxSteps 600 in
theorem c_right (T : Txt w K mg) (hP : PrgOk file P) : CalG P w K mg base "_law_right" 112 ["_law_thing"] (spRight K) := by
  obtain ⟨fd, F⟩ := T.d__law_right
  have C__law_heard := c_heard (P := P) (base := base) T hP
  have C__law_read := c_read (P := P) (base := base) T
  refine ⟨⟨fd, fng_of (k := 111) F sc__law_right (fun vs H Q E h => ?_) (fun cdv A outer s H vs Q E hr hgd h => ?_), F.bindsN fun _ _ _ _ _ _ us hl => match us, hl with | [_], _ => rfl⟩, T.g _ (by decide), F.kp⟩
  · obtain ⟨x, D, rfl, _⟩ := h
    rfl
  obtain ⟨x, D, rfl, hx, h, q⟩ := h
  refine ⟨_, PSs.nox (pss_cons (ps_set (i := 1) sc__law_right.nd rfl (.inl rfl) (pe_ifExp (pt_val (pe_callB call_isi (by rfl) T.n_isinstance (by decide +kernel) (pa_cons (pv 0) (pa_cons (pe_bltn (v := .ty "str") (u := .type "str") (by rfl) T.n_str (by decide +kernel) rfl) pa_nil)))) (pe_cal C__law_read (hr.mono (by omega)) (by rfl) (pa_cons (pv 0) pa_nil)) (pe_lst pa_nil)))
      (pss_cons (ps_set (i := 1) sc__law_right.nd rfl (.inl rfl) (pe_ifExp (pt_cmpR (op_ne0 hr.units) (pv 1) (pe_lst pa_nil) (nomark _)) (pe_callB (id := "repr") (call_reprK (K := K) rfl hgd (hr.mono (Nat.zero_le _))) (by rfl) T.n_repr (by decide +kernel) (pa_cons (pv 1) pa_nil)) (pe_callB (id := "repr") (call_reprK (K := K) rfl hgd (hr.mono (Nat.zero_le _))) (by rfl) T.n_repr (by decide +kernel) (pa_cons pe_str pa_nil))))
      (pss_one (ps_ret (pe_cmpR (op_eqD hr.units) (pe_lst (pa_cons (pe_callB (id := "repr") (call_reprK (K := K) rfl hgd (hr.mono (Nat.zero_le _))) (by rfl) T.n_repr (by decide +kernel) (pa_cons (pe_cal C__law_heard (hr.mono (by omega)) (by rfl) (pa_cons (pv 0) pa_nil)) pa_nil)) (pa_cons (pe_callB (id := "repr") (call_reprK (K := K) rfl hgd (hr.mono (Nat.zero_le _))) (by rfl) T.n_repr (by decide +kernel) (pa_cons (pe_cal C__law_heard (hr.mono (by omega)) (by rfl) (pa_cons (pv 0) pa_nil)) pa_nil)) pa_nil))) (pe_lst (pa_cons (pv 1) (pa_cons (pv 1) pa_nil))) (nomark _)))))), ?_⟩
  have two : ∀ {K : PySem.W.Frag} {H1 : Hp} {a : Addr} {e : Str}, H1 a = some (.lst [.str e, .str e]) → Dp K H1 (.ref a) (.list ([e, e].map PyData.str)) := fun h => .lst (.inl (.inl h)) (dpStrs [_, _])
  refine ⟨x, rfl, x, .ty "str", _, _, _, rfl, .ty _, dp_ty hx, kit_ty (kit_str D), _, rfl, ?_⟩
  -- the way from here, out being known
  rcases h with ⟨z, rfl, t⟩ | hD
  · cases hx
    refine iteT ⟨.str z, rfl, z, rfl, t.rd, fun out a H1 hm hl s1 => ?_⟩
    obtain ⟨vs, ha, hA, hg⟩ := hl
    have hs := shw_out t hm
    have hda := due_asc hs
    refine ⟨.ref a, rfl, Nat.zero_le _, fun p hp => ⟨out, dp_mono (fun b o y => upd_get hp y) _ _ (.lst (.inl (.inl ha)) hA), hg.2, .lst (.inl (.inl upd_same)) .nil, _, rfl, ?_⟩⟩
    have s2 : Same H (upd H1 p (.lst [])) := fun b o y => upd_get hp (s1 b o y)
    have hA2 : Dp K (upd H1 p (.lst [])) (.ref a) (.list out) := dp_mono (fun b o y => upd_get hp y) _ _ (.lst (.inl (.inl ha)) hA)
    generalize upd H1 p (.lst []) = H2 at s2 hA2 ⊢
    have r5 : (reprText "text").length ≤ sizeLine := by decide +kernel
    have e5 : (PyData.str "text").shown = reprText "text" := by simp only [PyData.shown]
    by_cases hne0 : out = []
    · subst hne0
      refine iteF ⟨.str "text", .str "text", rfl, .str _, (by simp only [PyData.showable]), (by simp only [PyData.depth]; omega), (by rw [e5]; exact r5), ?_⟩
      refine ⟨.str z, rfl, .str z, .str z, rfl, .str z, .inl ⟨z, rfl, t.rd, fun d v q' H3 hf _ _ _ => absurd (found_out hm hf) (by simp), fun hf H3 s3 => ?_⟩⟩
      refine ⟨.str "text", .str "text", rfl, .str _, (by simp only [PyData.showable]), (by simp only [PyData.depth]; omega), (by rw [e5]; exact r5), ?_⟩
      refine ⟨.str z, rfl, .str z, .str z, rfl, .str z, .inl ⟨z, rfl, t.rd, fun d v q' H3 hf _ _ _ => absurd (found_out hm hf) (by simp), fun hf H4 s4 => ?_⟩⟩
      refine ⟨.str "text", .str "text", rfl, .str _, (by simp only [PyData.showable]), (by simp only [PyData.depth]; omega), (by rw [e5]; exact r5), ?_⟩
      rw [e5]
      have ha5 : ∀ y ∈ [reprText "text", reprText "text"], asc y := fun y hy => by
        have : y = reprText "text" := by simpa using hy
        rw [this]
        unfold asc
        decide +kernel
      refine ⟨(by show 2 ≤ sizeLine; decide), fun p1 hp1 => ⟨.str _, rfl, .str _, rfl, (by show 2 ≤ sizeLine; decide), fun p2 hp2 => ⟨_, _, two (upd_get hp2 upd_same), two upd_same, shaped_strs _ ha5, shaped_strs _ ha5, ?_⟩⟩⟩
      rw [eqv_strs _ ha5]
      exact q _ fun b o y => upd_get hp2 (upd_get hp1 (s4 b o (s3 b o (s2 b o y))))
    · obtain ⟨d0, k0, hv0, rfl⟩ : ∃ d k, Val (cp z) 0 0 (some (d, k)) ∧ out = [d] := (out_is hm).resolve_left hne0
      have hs := shw_of t hv0
      refine iteT ⟨.ref a, rfl, .ref a, _, rfl, hA2, hs.sh, hs.dp, hs.ln, ?_⟩
      refine ⟨.str z, rfl, .str z, .str z, rfl, .str z, .inl ⟨z, rfl, t.rd, fun d v q' H3 hf hv hq' s3 => ?_, fun hf => absurd (found_out hm hf) (by simp)⟩⟩
      obtain rfl : d0 = d := by simpa using found_out hm hf
      refine ⟨.ref q', .list [d0], rfl, .lst (.inl (.inl hq')) (.cons hv .nil), hs.sh, hs.dp, hs.ln, ?_⟩
      refine ⟨.str z, rfl, .str z, .str z, rfl, .str z, .inl ⟨z, rfl, t.rd, fun d v q' H4 hf hv hq' s4 => ?_, fun hf => absurd (found_out hm hf) (by simp)⟩⟩
      obtain rfl : d0 = d := by simpa using found_out hm hf
      refine ⟨.ref q', .list [d0], rfl, .lst (.inl (.inl hq')) (.cons hv .nil), hs.sh, hs.dp, hs.ln, ?_⟩
      have ha5 : ∀ y ∈ [(PyData.list [d0]).shown, (PyData.list [d0]).shown], asc y := fun y hy => by
        have : y = (PyData.list [d0]).shown := by simpa using hy
        rw [this]
        exact hs.as
      refine ⟨(by show 2 ≤ sizeLine; decide), fun p1 hp1 => ⟨.str _, rfl, .str _, rfl, (by show 2 ≤ sizeLine; decide), fun p2 hp2 => ⟨_, _, two (upd_get hp2 upd_same), two upd_same, shaped_strs _ ha5, shaped_strs _ ha5, ?_⟩⟩⟩
      rw [eqv_strs _ ha5]
      exact q _ fun b o y => upd_get hp2 (upd_get hp1 (s4 b o (s3 b o (s2 b o y))))
  · have r5 : (reprText "text").length ≤ sizeLine := by decide +kernel
    have e5 : (PyData.str "text").shown = reprText "text" := by simp only [PyData.shown]
    rw [hD]
    refine iteF ⟨Nat.zero_le _, fun a ha => ?_⟩
    refine ⟨.ref a, rfl, Nat.zero_le _, fun p hp => ⟨[], .lst (.inl (.inl (upd_get hp upd_same))) .nil, by simp only [PyData.canLayAll0], .lst (.inl (.inl upd_same)) .nil, _, rfl, ?_⟩⟩
    have s2 : Same H (upd (upd H a (.lst [])) p (.lst [])) := fun b o y => upd_get hp (upd_get ha y)
    generalize upd (upd H a (.lst [])) p (.lst []) = H2 at s2 ⊢
    refine iteF ⟨.str "text", .str "text", rfl, .str _, (by simp only [PyData.showable]), (by simp only [PyData.depth]; omega), (by rw [e5]; exact r5), ?_⟩
    refine ⟨x, rfl, x, D, rfl, dp_mono s2 _ _ hx, .inr ⟨hD, fun H3 s3 => ?_⟩⟩
    refine ⟨.str "text", .str "text", rfl, .str _, (by simp only [PyData.showable]), (by simp only [PyData.depth]; omega), (by rw [e5]; exact r5), ?_⟩
    refine ⟨x, rfl, x, D, rfl, dp_mono s3 _ _ (dp_mono s2 _ _ hx), .inr ⟨hD, fun H4 s4 => ?_⟩⟩
    refine ⟨.str "text", .str "text", rfl, .str _, (by simp only [PyData.showable]), (by simp only [PyData.depth]; omega), (by rw [e5]; exact r5), ?_⟩
    rw [e5]
    have ha5 : ∀ y ∈ [reprText "text", reprText "text"], asc y := fun y hy => by
      have : y = reprText "text" := by simpa using hy
      rw [this]
      unfold asc
      decide +kernel
    refine ⟨(by show 2 ≤ sizeLine; decide), fun p1 hp1 => ⟨.str _, rfl, .str _, rfl, (by show 2 ≤ sizeLine; decide), fun p2 hp2 => ⟨_, _, two (upd_get hp2 upd_same), two upd_same, shaped_strs _ ha5, shaped_strs _ ha5, ?_⟩⟩⟩
    rw [eqv_strs _ ha5]
    exact q _ fun b o y => upd_get hp2 (upd_get hp1 (s4 b o (s3 b o (s2 b o y))))
end
end K14

set_option maxHeartbeats 4000000
namespace K14
open PySem PySem.Spec PyProof.Rows L2 HG K13
open P14 (Val Vals Runs digit Tx fnd num tok strv okW worth plainW tok_at)
open TL (numL numL_digits numL_len)
/-! ### packed texts -/
theorem dig_num {n : Nat} : ∀ c ∈ numL n, c < 128 := fun c hc => by have := numL_digits n c hc; omega
theorem numI_lt {i : Int} : ∀ c ∈ numI i, c < 128 := fun c hc => by rcases numI_sign i c hc with h | h <;> omega
theorem runs_len {l : List Nat} (h : l.length ≤ 100) : Runs 100 l := Runs.len h
mutual
theorem pk_good : ∀ {d : PyData}, okD d = true → (∀ c ∈ pk d, c < 128) ∧ Runs 100 (pk d) ∧ (∀ c, (pk d).head? = some c → digit c = false)
  | .none, _ => by simp only [pk]; exact ⟨by decide, runs_len (by decide), by decide⟩
  | .bool b, _ => by cases b <;> (simp only [pk]; exact ⟨by decide, runs_len (by decide), by decide⟩)
  | .int i, h => by
    have hl := numI_len (ok_int h)
    simp only [pk]
    refine ⟨fun c hc => ?_, runs_len (by simp only [List.length_cons, List.length_append, List.length_nil]; omega), fun c hc => ?_⟩
    · rcases List.mem_cons.mp hc with rfl | hc
      · decide
      rcases List.mem_append.mp hc with hc | hc
      · exact numI_lt c hc
      · rw [List.mem_singleton.mp hc]; decide
    · cases hc
      decide
  | .str z, h => by
    have hz := ok_str h
    have hl := numL_len (n := z.length) (k := 3) (by decide) (by omega)
    simp only [pk]
    refine ⟨fun c hc => ?_, ?_, fun c hc => ?_⟩
    · rcases List.mem_cons.mp hc with rfl | hc
      · decide
      rcases List.mem_append.mp hc with hc | hc
      · exact dig_num c hc
      rcases List.mem_cons.mp hc with rfl | hc
      · decide
      · have hg := hz.2 c hc
        unfold goodC at hg
        simp at hg
        omega
    · refine Runs.cons (Runs.mid (runs_len (by omega)) (Runs.cons (runs_len (by rw [cp_len]; exact hz.1)) (by decide)) (fun c hc => ?_)) (by decide)
      cases hc
      decide
    · cases hc
      decide
  | .tuple ds, h => by
    obtain ⟨h1, h2⟩ := pkAll_good (ds := ds) (by simpa [okD] using h)
    simp only [pk]
    refine ⟨fun c hc => ?_, Runs.cons (Runs.mid h2 (runs_len (by decide)) (fun c hc => ?_)) (by decide), fun c hc => ?_⟩
    · rcases List.mem_cons.mp hc with rfl | hc
      · decide
      rcases List.mem_append.mp hc with hc | hc
      · exact h1 c hc
      · rw [List.mem_singleton.mp hc]; decide
    · cases hc
      decide
    · cases hc
      decide
  | .list _, h => by simp [okD] at h
  | .dict _, h => by simp [okD] at h
theorem pkAll_good : ∀ {ds : List PyData}, okAll ds = true → (∀ c ∈ pkAll ds, c < 128) ∧ Runs 100 (pkAll ds)
  | [], _ => by simp only [pkAll]; exact ⟨by decide, runs_len (by decide)⟩
  | [d], h => by
    have h' : okD d = true := by simpa [okAll] using h
    obtain ⟨a, b, _⟩ := pk_good h'
    simp only [pkAll, List.append_nil]
    exact ⟨a, b⟩
  | d :: e :: ds, h => by
    have h' : okD d = true ∧ okAll (e :: ds) = true := by simpa [okAll] using h
    obtain ⟨a, b, _⟩ := pk_good h'.1
    obtain ⟨a2, b2⟩ := pkAll_good h'.2
    have h3 : okD e = true := by
      have := h'.2
      simp only [okAll, Bool.and_eq_true] at this
      exact this.1
    obtain ⟨_, _, c3⟩ := pk_good h3
    have eq : pkAll (d :: e :: ds) = pk d ++ pkAll (e :: ds) := by simp only [pkAll]
    rw [eq]
    refine ⟨fun c hc => (List.mem_append.mp hc).elim (a c) (a2 c), Runs.mid b b2 fun c hc => c3 c ?_⟩
    have e2 : pkAll (e :: ds) = pk e ++ pkAll ds := by simp only [pkAll]
    rw [e2] at hc
    obtain ⟨x, r, ex, _⟩ := pk_head h3
    rw [ex] at hc ⊢
    exact hc
end
theorem pk_tx {z : Str} {D : PyData} (h : cp z = pk D) (s : Sz 4 D) : Tx 250000 100 z := by
  obtain ⟨a, b, _⟩ := pk_good s.ok
  have hl := pk_len s.ok
  have hs := s.size
  refine ⟨⟨?_, by rw [h]; exact a⟩, by rw [h]; exact b⟩
  rw [← cp_len, h]
  omega
theorem tz_tx {z : Str} {m R : Nat} (h : Tx m R z) (hm : m ≤ 1200000) (hR : R ≤ 500) : Tz z :=
  ⟨⟨Nat.le_trans h.ok.len (by omega), h.ok.cps, h.rn.up (by omega)⟩, Nat.le_trans h.ok.len hm, .inl (h.rn.up hR)⟩
/-! ### the fixed texts -/
def tzB (z : Str) : Bool := decide (z.length ≤ 400) && (cp z).all fun c => decide (c < 128)
theorem tz_b {z : Str} (h : tzB z = true) : Tz z := by
  unfold tzB at h
  simp only [Bool.and_eq_true, decide_eq_true_eq] at h
  have ha : ∀ c ∈ cp z, c < 128 := fun c hc => of_decide_eq_true (List.all_eq_true.mp h.2 c hc)
  exact tz_tx (m := 400) (R := 400) ⟨⟨h.1, ha⟩, Runs.len (by rw [cp_len]; exact h.1)⟩ (by decide) (by decide)
theorem runs_none {l : List Nat} {R : Nat} (h : ∀ c ∈ l, digit c = false) : Runs R l := fun p w s e hw => by
  cases w with
  | nil => exact Nat.zero_le _
  | cons c w =>
    have h1 := hw c (by simp)
    rw [h c (by rw [e]; simp)] at h1
    cases h1
theorem tz_none {z : Str} (hl : z.length ≤ 1000000) (h : ∀ c ∈ cp z, digit c = false ∧ c < 128) : Tz z :=
  ⟨⟨by omega, fun c hc => (h c hc).2, runs_none fun c hc => (h c hc).1⟩, by omega, .inl (runs_none fun c hc => (h c hc).1)⟩
theorem tz_dead {z : Str} (hl : z.length ≤ 4000) (h : ∀ c ∈ cp z, c < 128) (hv : ∀ r, Val (cp z) 0 0 r → r = none) : Tz z :=
  ⟨⟨by omega, h, Runs.len (by rw [cp_len]; exact hl)⟩, by omega, .inr hv⟩
theorem rep_cp (c : Nat) (x : Str) (n : Nat) (h : cp x = [c]) : cp (Txt.mul x (n : Int)) = List.replicate n c := by
  have e : x = ⟨#[c]⟩ := cp_ext h
  rw [e]
  have := PyProof.Rows.mul_one_list c (n : Int)
  rw [Int.toNat_natCast] at this
  exact this
theorem fnd_rep {a e : Nat} (h : a ≠ e) : ∀ (n : Nat) (r : List Nat), fnd e (List.replicate n a ++ r) = (fnd e r).map (· + n)
  | 0, r => by
    show fnd e r = _
    cases fnd e r <;> rfl
  | n + 1, r => by
    rw [List.replicate_succ, List.cons_append]
    show (if a = e then some 0 else (fnd e (List.replicate n a ++ r)).map (· + 1)) = _
    rw [if_neg h, fnd_rep h n r]
    cases fnd e r with
    | none => rfl
    | some j =>
      show some (j + n + 1) = some (j + (n + 1))
      congr 1
theorem dv_rep : ∀ n : Nat, n ≤ NumText.digitsVal (List.replicate n 57)
  | 0 => Nat.zero_le _
  | n + 1 => by
    have ih := dv_rep n
    have e : NumText.digitsVal (List.replicate (n + 1) 57) = NumText.digitsVal (List.replicate n 57) * 10 + 9 := by
      rw [List.replicate_succ']
      unfold NumText.digitsVal
      rw [List.foldl_append]
      rfl
    rw [e]
    omega
theorem val_bad {l : List Nat} {dep k : Nat} {r : Option (PyData × Nat)} (h : Val l dep k r) (ht : tok l k = none) (hc : l[k]? ≠ some 40) : r = none := by
  cases h with
  | atom h1 => rw [ht] at h1; cases h1
  | opn h1 _ _ => exact absurd h1 hc
  | bad _ _ => rfl
theorem dead1 {z : Str} (h : cp z = 115 :: (List.replicate 3900 57 ++ [58, 97])) : ∀ r, Val (cp z) 0 0 r → r = none := fun r hv => by
  rw [h] at hv
  refine val_bad hv ?_ (by simp)
  have hf : fnd 58 ((115 :: (List.replicate 3900 57 ++ [58, 97])).drop 1) = some 3900 := by
    show fnd 58 (List.replicate 3900 57 ++ [58, 97]) = _
    rw [fnd_rep (by decide)]
    rfl
  have hw : ((115 :: (List.replicate 3900 57 ++ [58, 97])).drop 1).take 3900 = List.replicate 3900 57 := by
    show (List.replicate 3900 57 ++ [58, 97]).take 3900 = _
    rw [List.take_append_of_le_length (by simp), List.take_of_length_le (by simp)]
  have hn : strv (115 :: (List.replicate 3900 57 ++ [58, 97])) 1 = none := by
    unfold strv num
    rw [hf]
    dsimp only
    rw [hw]
    split
    · rfl
    · rename_i n k' e
      split at e
      · cases e
        rw [if_neg]
        intro y
        have hwth : worth (List.replicate 3900 57) = ((NumText.digitsVal (List.replicate 3900 57) : Nat) : Int) := by
          unfold worth
          rw [if_neg (by rw [show List.replicate 3900 57 = 57 :: List.replicate 3899 57 from rfl]; simp)]
        have h1 := dv_rep 3900
        have h2 := y.2
        rw [hwth] at h2
        have h3 : (115 :: (List.replicate 3900 57 ++ [58, 97]) : List Nat).length = 3903 := by simp
        rw [h3] at h2
        omega
      · cases e
  unfold tok
  rw [hn]
  simp
theorem dead2 {z : Str} (h : cp z = 105 :: (List.replicate 3900 48 ++ [59])) : ∀ r, Val (cp z) 0 0 r → r = none := fun r hv => by
  rw [h] at hv
  refine val_bad hv ?_ (by simp)
  have hf : fnd 59 ((105 :: (List.replicate 3900 48 ++ [59])).drop 1) = some 3900 := by
    show fnd 59 (List.replicate 3900 48 ++ [59]) = _
    rw [fnd_rep (by decide)]
    rfl
  have hw : ((105 :: (List.replicate 3900 48 ++ [59])).drop 1).take 3900 = List.replicate 3900 48 := by
    show (List.replicate 3900 48 ++ [59]).take 3900 = _
    rw [List.take_append_of_le_length (by simp), List.take_of_length_le (by simp)]
  have hk : okW (List.replicate 3900 48) = false := by
    have e : List.replicate 3900 48 = 48 :: 48 :: List.replicate 3898 48 := rfl
    rw [e]
    unfold okW plainW
    simp
  have hn : num (105 :: (List.replicate 3900 48 ++ [59])) 1 59 = none := by
    unfold num
    rw [hf]
    dsimp only
    rw [hw, hk]
    rfl
  unfold tok
  rw [hn]
  simp
theorem dead3 {z : Str} (h : cp z = 40 :: 105 :: (List.replicate 3900 57 ++ [41])) : ∀ r, Val (cp z) 0 0 r → r = none := fun r hv => by
  rw [h] at hv
  have hf : fnd 59 ((40 :: 105 :: (List.replicate 3900 57 ++ [41])).drop 2) = none := by
    show fnd 59 (List.replicate 3900 57 ++ [41]) = _
    rw [fnd_rep (by decide)]
    rfl
  have hn : num (40 :: 105 :: (List.replicate 3900 57 ++ [41])) 2 59 = none := by
    unfold num
    rw [hf]
  have ht : tok (40 :: 105 :: (List.replicate 3900 57 ++ [41])) 1 = none := by
    unfold tok
    rw [hn]
    simp
  cases hv with
  | atom h1 => rw [tok_at (c := 40) (by simp) (.inl rfl)] at h1; cases h1
  | bad _ _ => rfl
  | opn _ _ h3 =>
    cases h3 with
    | fin h4 => simp at h4
    | err _ _ => rfl
    | more _ h5 _ => cases val_bad h5 ht (by simp)
end K14

set_option maxHeartbeats 4000000
namespace K14
open PySem PySem.Spec PyProof.Rows L2 HG K13
open P14 (Val Vals Runs digit Tx)
/-! ### the things -/
def Item (K : PySem.W.Frag) (H : Hp) (x : V) : Prop := ∃ D, Dp K H x D ∧ ((∃ z, x = .str z ∧ Tz z) ∨ isS D = false)
theorem Item.mono {K : PySem.W.Frag} {H H' : Hp} {x : V} (s : Same H H') (h : Item K H x) : Item K H' x := by
  obtain ⟨D, h1, h2⟩ := h
  exact ⟨D, dp_mono s _ _ h1, h2⟩
theorem Item.str {K : PySem.W.Frag} {H : Hp} {z : Str} (h : Tz z) : Item K H (.str z) := ⟨_, .str z, .inl ⟨z, rfl, h⟩⟩
def Items (K : PySem.W.Frag) (H : Hp) (xs : List V) : Prop := ∀ x ∈ xs, Item K H x
theorem Items.mono {K : PySem.W.Frag} {H H' : Hp} {xs : List V} (s : Same H H') (h : Items K H xs) : Items K H' xs := fun x hx => (h x hx).mono s
theorem Items.app {K : PySem.W.Frag} {H : Hp} {xs ys : List V} (h : Items K H xs) (g : Items K H ys) : Items K H (xs ++ ys) := fun x hx => (List.mem_append.mp hx).elim (h x) (g x)
theorem Items.strs {K : PySem.W.Frag} {H : Hp} {zs : List Str} (h : zs.all tzB = true) : Items K H (zs.map V.str) := fun x hx => by
  obtain ⟨z, hz, rfl⟩ := List.mem_map.mp hx
  exact Item.str (tz_b (List.all_eq_true.mp h z hz))
theorem Items.cons {K : PySem.W.Frag} {H : Hp} {x : V} {xs : List V} (h : Item K H x) (g : Items K H xs) : Items K H (x :: xs) := fun y hy => (List.mem_cons.mp hy).elim (fun e => by rw [e]; exact h) (g y)
theorem Items.nil {K : PySem.W.Frag} {H : Hp} : Items K H [] := fun _ h => nomatch h
/-- all but the deck and p -/
def offP (d c p : Addr) (H : Hp) : Hp := fun b => if b = p then none else off d c H b
theorem offP_same {d c p : Addr} {H : Hp} : Same (offP d c p H) H := fun b o h => by
  unfold offP at h
  split at h
  · cases h
  · exact off_same b o h
theorem offP_ext {d c p : Addr} {H H' : Hp} (X : Ext d c H H') : Same (offP d c p H) (offP d c p H') := fun b o h => by
  unfold offP at h ⊢
  split at h
  · cases h
  · rename_i n
    rw [if_neg n]
    exact X b o h
theorem offP_put {d c p : Addr} {H : Hp} {u : HO} : Same (offP d c p H) (offP d c p (upd H p u)) := fun b o h => by
  unfold offP at h ⊢
  split at h
  · cases h
  · rename_i n
    rw [if_neg n]
    unfold off at h ⊢
    split at h
    · cases h
    · rename_i m
      rw [if_neg m, upd_ne n]
      exact h
theorem offP_new {d c p : Addr} {H : Hp} {u : HO} (hp : H p = none) : Same (off d c H) (offP d c p (upd H p u)) := fun b o h => by
  have nb : b ≠ p := fun e => by
    have := off_same b o h
    rw [e, hp] at this
    cases this
  unfold offP
  rw [if_neg nb]
  unfold off at h ⊢
  split at h
  · cases h
  · rename_i m
    rw [if_neg m, upd_ne nb]
    exact h
theorem Deck.same {d c : Addr} {n : Nat} {H H' : Hp} (D : Deck d c n H) (s : Same H H') : Deck d c n H' := by
  obtain ⟨ns, m, t, e1, e2, r⟩ := D.ex
  exact ⟨⟨ns, m, t, s _ _ e1, s _ _ e2, r⟩, D.ne⟩
theorem Same.ext {d c : Addr} {H H' : Hp} (s : Same H H') : Ext d c H H' := fun b o h => by
  unfold off at h ⊢
  split at h
  · cases h
  · rename_i m
    rw [if_neg m]
    exact s b o h
theorem Items.tz {K : PySem.W.Frag} {H : Hp} {zs : List Str} (h : ∀ z ∈ zs, Tz z) : Items K H (zs.map V.str) := fun x hx => by
  obtain ⟨z, hz, rfl⟩ := List.mem_map.mp hx
  exact Item.str (h z hz)
/-- the list so far -/
structure So (K : PySem.W.Frag) (d c : Addr) (H : Hp) (p : Addr) (xs : List V) (n : Nat) : Prop where
  g : H p = some (.lst xs)
  dk : Deck d c 0 H
  it : Items K (off d c H) xs
  ln : xs.length = n
theorem So.new {K : PySem.W.Frag} {d c p q : Addr} {H : Hp} {xs : List V} {n : Nat} {o : HO} (h : So K d c H p xs n) (hq : H q = none) : So K d c (upd H q o) p xs n :=
  ⟨upd_get hq h.g, h.dk.new hq, h.it.mono (Ext.new hq), h.ln⟩
theorem So.same {K : PySem.W.Frag} {d c p : Addr} {H H' : Hp} {xs : List V} {n : Nat} (h : So K d c H p xs n) (s : Same H H') : So K d c H' p xs n :=
  ⟨s _ _ h.g, h.dk.same s, h.it.mono (Same.ext s), h.ln⟩
theorem So.cat {K : PySem.W.Frag} {d c p q p' : Addr} {H : Hp} {xs ys : List V} {n : Nat} (h : So K d c H p xs n) (hp : H p' = none) (g : Items K (off d c H) ys) : So K d c (upd H p' (.lst (xs ++ ys))) p' (xs ++ ys) (n + ys.length) :=
  ⟨upd_same, h.dk.new hp, (h.it.app g).mono (Ext.new hp), by rw [List.length_append, h.ln]⟩
theorem br_cp {n : Nat} : cp (Txt.mul "(" (n : Int) ++ Txt.mul ")" (n : Int)) = List.replicate n 40 ++ List.replicate n 41 := by
  rw [cp_app, rep_cp 40 "(" n co, rep_cp 41 ")" n cc]
theorem mul_len {x : Str} {c n : Nat} (h : cp x = [c]) : (Txt.mul x (n : Int)).length = n := by
  rw [← cp_len, rep_cp c x n h, List.length_replicate]
theorem br_tz {n : Nat} (h : n ≤ 2000) : Tz (Txt.mul "(" (n : Int) ++ Txt.mul ")" (n : Int)) := by
  refine tz_none ?_ ?_
  · rw [Str.length_append, mul_len co, mul_len cc]
    omega
  · rw [br_cp]
    intro c hc
    rcases List.mem_append.mp hc with hc | hc
    · rw [List.eq_of_mem_replicate hc]; decide
    · rw [List.eq_of_mem_replicate hc]; decide
theorem c9 : cp ("9" : Str) = [57] := by decide +kernel
theorem ca : cp (":a" : Str) = [58, 97] := by decide +kernel
theorem cse : cp (";" : Str) = [59] := by decide +kernel
theorem coi : cp ("(i" : Str) = [40, 105] := by decide +kernel
theorem rep_lt {c n : Nat} (h : c < 128) : ∀ x ∈ List.replicate n c, x < 128 := fun x hx => by rw [List.eq_of_mem_replicate hx]; exact h
theorem long1 : Tz ("s" ++ Txt.mul "9" 3900 ++ ":a") := by
  have e : cp ("s" ++ Txt.mul "9" 3900 ++ ":a" : Str) = 115 :: (List.replicate 3900 57 ++ [58, 97]) := by
    rw [cp_app, cp_app, cs, show (3900 : Int) = ((3900 : Nat) : Int) from rfl, rep_cp 57 "9" 3900 c9, ca]
    rfl
  refine tz_dead ?_ ?_ (dead1 e)
  · rw [← cp_len, e, List.length_cons, List.length_append, List.length_replicate]
    decide
  · rw [e]
    intro c hc
    rcases List.mem_cons.mp hc with rfl | hc
    · decide
    rcases List.mem_append.mp hc with hc | hc
    · exact rep_lt (by decide) c hc
    · revert c
      decide
theorem long2 : Tz ("i" ++ Txt.mul "0" 3900 ++ ";") := by
  have e : cp ("i" ++ Txt.mul "0" 3900 ++ ";" : Str) = 105 :: (List.replicate 3900 48 ++ [59]) := by
    rw [cp_app, cp_app, ci, show (3900 : Int) = ((3900 : Nat) : Int) from rfl, rep_cp 48 "0" 3900 c0, cse]
    rfl
  refine tz_dead ?_ ?_ (dead2 e)
  · rw [← cp_len, e, List.length_cons, List.length_append, List.length_replicate]
    decide
  · rw [e]
    intro c hc
    rcases List.mem_cons.mp hc with rfl | hc
    · decide
    rcases List.mem_append.mp hc with hc | hc
    · exact rep_lt (by decide) c hc
    · revert c
      decide
theorem long3 : Tz ("(i" ++ Txt.mul "9" 3900 ++ ")") := by
  have e : cp ("(i" ++ Txt.mul "9" 3900 ++ ")" : Str) = 40 :: 105 :: (List.replicate 3900 57 ++ [41]) := by
    rw [cp_app, cp_app, coi, show (3900 : Int) = ((3900 : Nat) : Int) from rfl, rep_cp 57 "9" 3900 c9, cc]
    rfl
  refine tz_dead ?_ ?_ (dead3 e)
  · rw [← cp_len, e, List.length_cons, List.length_cons, List.length_append, List.length_replicate]
    decide
  · rw [e]
    intro c hc
    rcases List.mem_cons.mp hc with rfl | hc
    · decide
    rcases List.mem_cons.mp hc with rfl | hc
    · decide
    rcases List.mem_append.mp hc with hc | hc
    · exact rep_lt (by decide) c hc
    · revert c
      decide
theorem long4 : Tz (Txt.mul "(" 101 ++ "T") := by
  have e : cp (Txt.mul "(" 101 ++ "T" : Str) = List.replicate 101 40 ++ [84] := by
    rw [cp_app, show (101 : Int) = ((101 : Nat) : Int) from rfl, rep_cp 40 "(" 101 co, cT]
  refine tz_none ?_ ?_
  · rw [← cp_len, e, List.length_append, List.length_replicate]
    decide
  · rw [e]
    intro c hc
    rcases List.mem_append.mp hc with hc | hc
    · rw [List.eq_of_mem_replicate hc]; decide
    · rw [List.mem_singleton.mp hc]; decide
section
variable {P : Program} {w : World} {K : PySem.W.Frag} {mg : Str → Option Value} {base : Heap}
def spLaw (K : PySem.W.Frag) : Sp := fun vs H Q _ => ∃ (a : Addr) (ns : List Int), vs = [.ref a] ∧ SqL K H a (ns.map V.int) ∧ ns.length ≤ 63 ∧ ∀ H', Q (.bl true) H'
set_option pp.maxSteps 800 in
theorem ok_law (T : Txt w K mg) (hP : PrgOk file P) {fd : FuncData} (F : FunD K "law" "law" (defArgs s_law) (defBody s_law) (defScope s_law) [] [] (He.ga K "law") fd) : FnG P w K mg base CX0 114 (He.ga K "law") fd ["_law_script"] (spLaw K) := by
  have C__law_deck : Cal P w K mg base "_law_deck" 1 ["_law_script"] (spDeck K) := ⟨ok_deck T, T.g _ (by decide), by obtain ⟨fd, F⟩ := T.d__law_deck; exact F.kp⟩
  have C__law_value : Cal P w K mg base "_law_value" 10 ["_law_deck_here", "_law_deep"] (spValue K 5) := ⟨ok_value T 5, T.g _ (by decide), by obtain ⟨fd, F⟩ := T.d__law_value; exact F.kp⟩
  have C__law_packed : Cal P w K mg base "_law_packed" 8 ["_law_value_here"] (spPack K 8) := ⟨ok_packed T 8, T.g _ (by decide), by obtain ⟨fd, F⟩ := T.d__law_packed; exact F.kp⟩
  have C__law_bent : Cal P w K mg base "_law_bent" 3 ["_law_deck_here", "_law_text"] (spBent K) := ⟨ok_bent T, T.g _ (by decide), by obtain ⟨fd, F⟩ := T.d__law_bent; exact F.kp⟩
  have C__law_draw := c_draw (P := P) (w := w) (base := base) T
  have C__law_right := c_right (P := P) (base := base) T hP
  refine fng_of (k := 113) F sc_law (fun vs H Q E h => ?_) (fun cdv A outer s H vs Q E hr hgd h => ?_)
  · obtain ⟨a, ns, rfl, _⟩ := h
    rfl
  obtain ⟨a, ns, rfl, hS, hn, q⟩ := h
  refine ⟨_, PSs.nox (pss_cons (ps_set (i := 1) sc_law.nd rfl (.inl rfl) (pe_cal C__law_deck (hr.mono (by omega)) (by rfl) (pa_cons (pv 0) pa_nil)))
      (pss_cons (ps_set (i := 2) sc_law.nd rfl (.inl rfl) (pe_lst (pa_cons pe_str (pa_cons pe_str (pa_cons pe_str (pa_cons pe_str (pa_cons pe_str (pa_cons pe_str (pa_cons pe_str (pa_cons pe_str (pa_cons pe_str (pa_cons pe_str (pa_cons pe_str (pa_cons pe_str (pa_cons pe_str (pa_cons pe_str (pa_cons pe_str (pa_cons pe_str pa_nil))))))))))))))))))
      (pss_cons (ps_set (i := 2) sc_law.nd rfl (.inl rfl) (pe_op op_cat (pe_op op_cat (pv 2) (pe_lc (own := [("_law_many", 5)]) (by rfl) sc_law.nd (pi_tup (pe_tup (pa_cons pe_int (pa_cons pe_int (pa_cons pe_int (pa_cons pe_int pa_nil)))))) (blkOk_by (own := [("_law_many", 5)]) (N := N_law) (sc := defScope s_law) (by decide +kernel)) (fun _ _ _ _ _ => (pg_name (i := 5) sc_law.nd rfl (.inl rfl))) (fun _ _ _ _ _ => pts_nil) (fun _ _ _ _ _ => (pe_op op_add_str (pe_op op_mul_str pe_str (pv 5)) (pe_op op_mul_str pe_str (pv 5)))))) (pe_lst (pa_cons (pe_op op_mul_str pe_str pe_int) (pa_cons pe_str (pa_cons pe_str (pa_cons pe_str (pa_cons pe_str (pa_cons pe_str pa_nil)))))))))
      (pss_cons (ps_set (i := 2) sc_law.nd rfl (.inl rfl) (pe_op op_cat (pv 2) (pe_lst (pa_cons (pe_op op_add_str (pe_op op_add_str pe_str (pe_op op_mul_str pe_str pe_int)) pe_str) (pa_cons (pe_op op_add_str (pe_op op_add_str pe_str (pe_op op_mul_str pe_str pe_int)) pe_str) (pa_cons (pe_op op_add_str (pe_op op_add_str pe_str (pe_op op_mul_str pe_str pe_int)) pe_str) (pa_cons (pe_op op_add_str (pe_op op_mul_str pe_str pe_int) pe_str) pa_nil)))))))
      (pss_cons (ps_set (i := 2) sc_law.nd rfl (.inl rfl) (pe_op op_cat (pv 2) (pe_lst (pa_cons pe_non (pa_cons pe_bl (pa_cons pe_int (pa_cons (pe_tup pa_nil) (pa_cons (pe_tup (pa_cons pe_str pa_nil)) (pa_cons (pe_lst pa_nil) (pa_cons (pe_lst (pa_cons pe_str pa_nil)) (pa_cons (pe_op op_pow pe_int pe_int) pa_nil)))))))))))
      (pss_cons (ps_set (i := 2) sc_law.nd rfl (.inl rfl) (pe_op op_cat (pv 2) (pe_lst (pa_cons pe_str (pa_cons pe_str (pa_cons pe_str (pa_cons pe_str (pa_cons pe_str pa_nil))))))))
      (pss_cons (ps_for PassesOwn.never rfl (pi_range1 (by rfl) T.n_range (pa_cons pe_int pa_nil)) (pg_name (i := 3) sc_law.nd rfl (.inl rfl)) (pss_cons (ps_set (i := 4) sc_law.nd rfl (.inl rfl) (pe_cal C__law_bent (hr.mono (by omega)) (by rfl) (pa_cons (pv 1) (pa_cons (pe_cal C__law_packed (hr.mono (by omega)) (by rfl) (pa_cons (pe_cal C__law_value (hr.mono (by omega)) (by rfl) (pa_cons (pv 1) (pa_cons pe_int pa_nil))) pa_nil)) pa_nil))))
      (pss_one (ps_expr (pe_bm PySem.F.plainAttrs_list PySem.F.slot_list_append PySem.F.type_list_append mt_append (pv 2) (pa_cons (pe_ifExp (pt_cmpR op_eq (pe_cal C__law_draw (hr.mono (by omega)) (by rfl) (pa_cons (pv 1) (pa_cons pe_int pa_nil))) pe_int (nomark _)) (pe_cal C__law_bent (hr.mono (by omega)) (by rfl) (pa_cons (pv 1) (pa_cons (pv 4) pa_nil))) (pv 4)) pa_nil))))))
      (pss_one (ps_ret (pe_cmpR (op_eqD hr.units) (pe_lc (own := [("_law_thing", 6)]) (by rfl) sc_law.nd (pi_list (pv 2)) (blkOk_by (own := [("_law_thing", 6)]) (N := N_law) (sc := defScope s_law) (by decide +kernel)) (fun _ _ _ _ _ => (pg_name (i := 6) sc_law.nd rfl (.inl rfl))) (fun _ _ _ _ _ => pts_one (pt_not (pt_val (pe_calG C__law_right (hr.mono (by omega)) hgd (by rfl) (pa_cons (pv 6) pa_nil))))) (fun _ _ _ _ _ => (pv 6))) (pe_lst pa_nil) (nomark _))))))))))), ?_⟩
  refine ⟨.ref a, rfl, a, ns, rfl, hS, hn, fun d c H1 hd hc s1 dk => ?_⟩
  -- the first sixteen
  refine ⟨(by show 16 ≤ sizeLine; decide), fun p1 hp1 => ?_⟩
  have so : So K d c (upd H1 p1 (.lst [.str "", .str "i", .str "i;", .str "i-;", .str "i-0;", .str "i00;", .str "i 5;", .str "i+5;", .str "i5", .str "s", .str "s1:", .str "s0:", .str "s-1:a", .str "s01:a", .str "()", .str "("])) p1 [.str "", .str "i", .str "i;", .str "i-;", .str "i-0;", .str "i00;", .str "i 5;", .str "i+5;", .str "i5", .str "s", .str "s1:", .str "s0:", .str "s-1:a", .str "s01:a", .str "()", .str "("] 16 := ⟨upd_same, dk.new hp1, Items.mono (Ext.new hp1) (Items.strs (zs := ["", "i", "i;", "i-;", "i-0;", "i00;", "i 5;", "i+5;", "i5", "s", "s1:", "s0:", "s-1:a", "s01:a", "()", "("]) (by decide +kernel)), rfl⟩
  generalize ([.str "", .str "i", .str "i;", .str "i-;", .str "i-0;", .str "i00;", .str "i 5;", .str "i+5;", .str "i5", .str "s", .str "s1:", .str "s0:", .str "s-1:a", .str "s01:a", .str "()", .str "("] : List V) = xs1 at so ⊢
  generalize upd H1 p1 (.lst xs1) = H2 at so ⊢
  -- brackets
  refine ⟨.ref p1, rfl, (by show 4 ≤ sizeLine; decide), fun tp htp => ⟨tp, rfl, ⟨_, .inl (.inl upd_same)⟩, fun D hD => ?_⟩⟩
  have so := so.new (o := .tup [.int 99, .int 100, .int 101, .int 1999]) htp
  have gt : (upd H2 tp (.tup [.int 99, .int 100, .int 101, .int 1999])) tp = some (.tup [.int 99, .int 100, .int 101, .int 1999]) := upd_same
  generalize upd H2 tp (.tup [.int 99, .int 100, .int 101, .int 1999]) = H3 at so gt hD ⊢
  refine lc_tup (xs := [.int 99, .int 100, .int 101, .int 1999]) (fun i H4 => ∃ zs : List Str, zs.length = i ∧ H4 D = some (.lst (zs.map V.str)) ∧ (∀ z ∈ zs, Tz z) ∧ Same H3 H4) ⟨[], rfl, upd_same, (fun _ h => nomatch h), fun b o h => upd_get hD h⟩ ?_ ?_ ?_
  · rintro i H4 _ ⟨_, _, _, _, s4⟩
    exact .inl (.inl (s4 _ _ gt))
  · rintro i x H4 hx ⟨zs, hyl, hD4, hi4, s4⟩
    obtain ⟨mn, rfl, hmn⟩ : ∃ mn : Nat, x = .int (mn : Int) ∧ mn ≤ 2000 := by
      have hm := List.mem_of_getElem? hx
      simp only [List.mem_cons, List.not_mem_nil, or_false] at hm
      rcases hm with rfl | rfl | rfl | rfl
      · exact ⟨99, rfl, by decide⟩
      · exact ⟨100, rfl, by decide⟩
      · exact ⟨101, rfl, by decide⟩
      · exact ⟨1999, rfl, by decide⟩
    have hi : i < 4 := (List.getElem?_eq_some_iff.mp hx).1
    have l1 : ("(" : Str).length = 1 := rfl
    have l2 : (")" : Str).length = 1 := rfl
    refine ⟨rfl, tyes ⟨.int mn, rfl, _, _, rfl, rfl, mulOk_of (by omega) (by rw [l1]; omega) (by omega) (by decide), .int mn, rfl, _, _, rfl, rfl, mulOk_of (by omega) (by rw [l2]; omega) (by omega) (by decide), _, _, rfl, rfl, ?_, ?_⟩⟩
    · rw [mul_len co, mul_len cc]
      exact Nat.le_trans (show mn + mn ≤ 4000 by omega) (by decide)
    refine ⟨_, hD4, small1000 (by rw [List.length_map]; omega), zs ++ [Txt.mul "(" (mn : Int) ++ Txt.mul ")" (mn : Int)], by rw [List.length_append, hyl]; rfl, by rw [upd_same, List.map_append]; rfl, ?_, fun b o h => ?_⟩
    · intro y hy
      rcases List.mem_append.mp hy with h | h
      · exact hi4 y h
      · rw [List.mem_singleton.mp h]
        exact br_tz hmn
    · rw [upd_ne (ne_of_none h hD)]
      exact s4 b o h
  rintro H4 ⟨zs4, hl4, hD4, hz4, s4⟩
  have so := so.same s4
  have hl4' : zs4.length = 4 := hl4
  refine ⟨p1, D, _, _, rfl, rfl, so.g, hD4, by rw [so.ln, List.length_map, hl4']; decide, fun p2 hp2 => ?_⟩
  have so := so.cat (q := p1) hp2 (Items.tz hz4)
  generalize upd H4 p2 _ = H5 at so ⊢
  -- '(' * 4000 and more
  have l1 : ("(" : Str).length = 1 := rfl
  refine ⟨_, _, rfl, rfl, mulOk_of (z := "(") (n := 4000) (by decide) (by rw [l1]; decide) (by decide) (by decide), (by show 6 ≤ sizeLine; decide), fun q6 hq6 => ?_⟩
  have i6 : Items K (off d c H5) [.str (Txt.mul "(" 4000), .str "TT", .str "T ", .str "(T", .str "T)", .str ")"] := by
    refine Items.cons (Item.str (tz_none ?_ ?_)) (Items.strs (zs := ["TT", "T ", "(T", "T)", ")"]) (by decide +kernel))
    · have := mul_len (n := 4000) co
      exact Nat.le_trans (Nat.le_of_eq this) (by decide)
    · have e := rep_cp 40 "(" 4000 co
      intro c hc
      rw [show (4000 : Int) = ((4000 : Nat) : Int) from rfl, e] at hc
      rw [List.eq_of_mem_replicate hc]
      decide
  generalize eL6 : ([.str (Txt.mul "(" 4000), .str "TT", .str "T ", .str "(T", .str "T)", .str ")"] : List V) = ys6 at i6 ⊢
  have len6 : ys6.length = 6 := by rw [← eL6]; rfl
  have so := so.new (o := .lst ys6) hq6
  have gq6 : (upd H5 q6 (.lst ys6)) q6 = some (.lst ys6) := upd_same
  have i6 := i6.mono (Ext.new (d := d) (c := c) (o := .lst ys6) hq6)
  generalize upd H5 q6 (.lst ys6) = H6 at so gq6 i6 ⊢
  refine ⟨p2, q6, _, _, rfl, rfl, so.g, gq6, by rw [so.ln, len6, List.length_map, hl4']; decide, fun p3 hp3 => ?_⟩
  have so := so.cat (q := p1) hp3 i6
  rw [len6, List.length_map, hl4'] at so
  generalize upd H6 p3 _ = H7 at so ⊢
  generalize xs1 ++ zs4.map V.str ++ ys6 = xs7 at so
  -- the long ones
  have m9 : MulOk "9" 3900 := mulOk_of (by decide) (by decide) (by decide) (by decide)
  have m0 : MulOk "0" 3900 := mulOk_of (by decide) (by decide) (by decide) (by decide)
  have mb : MulOk "(" 101 := mulOk_of (by decide) (by decide) (by decide) (by decide)
  have n9 : (Txt.mul "9" 3900).length = 3900 := mul_len (n := 3900) c9
  have n0 : (Txt.mul "0" 3900).length = 3900 := mul_len (n := 3900) c0
  have nb : (Txt.mul "(" 101).length = 101 := mul_len (n := 101) co
  have k1 : ("s" : Str).length = 1 := rfl
  have k2 : (":a" : Str).length = 2 := rfl
  have k3 : ("i" : Str).length = 1 := rfl
  have k4 : (";" : Str).length = 1 := rfl
  have k5 : ("(i" : Str).length = 2 := rfl
  have k6 : (")" : Str).length = 1 := rfl
  have k7 : ("T" : Str).length = 1 := rfl
  refine ⟨.ref p3, rfl, _, _, rfl, rfl, m9, _, _, rfl, rfl, by rw [k1, n9]; decide, _, _, rfl, rfl, by rw [Str.length_append, k1, n9, k2]; decide, _, _, rfl, rfl, m0, _, _, rfl, rfl, by rw [k3, n0]; decide, _, _, rfl, rfl, by rw [Str.length_append, k3, n0, k4]; decide,
    _, _, rfl, rfl, m9, _, _, rfl, rfl, by rw [k5, n9]; decide, _, _, rfl, rfl, by rw [Str.length_append, k5, n9, k6]; decide, _, _, rfl, rfl, mb, _, _, rfl, rfl, by rw [nb, k7]; decide, (by show 4 ≤ sizeLine; decide), fun q8 hq8 => ?_⟩
  have i8 : Items K (off d c H7) [.str ("s" ++ Txt.mul "9" 3900 ++ ":a"), .str ("i" ++ Txt.mul "0" 3900 ++ ";"), .str ("(i" ++ Txt.mul "9" 3900 ++ ")"), .str (Txt.mul "(" 101 ++ "T")] :=
    Items.cons (Item.str long1) (Items.cons (Item.str long2) (Items.cons (Item.str long3) (Items.cons (Item.str long4) Items.nil)))
  generalize eL8 : ([.str ("s" ++ Txt.mul "9" 3900 ++ ":a"), .str ("i" ++ Txt.mul "0" 3900 ++ ";"), .str ("(i" ++ Txt.mul "9" 3900 ++ ")"), .str (Txt.mul "(" 101 ++ "T")] : List V) = ys8 at i8 ⊢
  have len8 : ys8.length = 4 := by rw [← eL8]; rfl
  have so := so.new (o := .lst ys8) hq8
  have gq8 : (upd H7 q8 (.lst ys8)) q8 = some (.lst ys8) := upd_same
  have i8 := i8.mono (Ext.new (d := d) (c := c) (o := .lst ys8) hq8)
  generalize upd H7 q8 (.lst ys8) = H8 at so gq8 i8 ⊢
  refine ⟨p3, q8, _, _, rfl, rfl, so.g, gq8, by rw [so.ln, len8]; decide, fun p4 hp4 => ?_⟩
  have so := so.cat (q := p1) hp4 i8
  rw [len8] at so
  generalize upd H8 p4 _ = H9 at so ⊢
  generalize xs7 ++ ys8 = xs9 at so
  -- things that are no texts
  refine ⟨.ref p4, rfl, Nat.zero_le _, fun t1 ht1 => ⟨(by show 1 ≤ sizeLine; decide), fun t2 ht2 => ⟨Nat.zero_le _, fun t3 ht3 => ⟨(by show 1 ≤ sizeLine; decide), fun t4 ht4 => ⟨_, _, rfl, rfl, ⟨by decide, by decide, by decide⟩, (by show 8 ≤ sizeLine; decide), fun q10 hq10 => ?_⟩⟩⟩⟩⟩
  have nt1 := so.dk.has ht1
  have so1 := so.new (o := .tup []) ht1
  have so2 := so1.new (o := .tup [.str "T"]) ht2
  have so3 := so2.new (o := .lst []) ht3
  have so := so3.new (o := .lst [.str "N"]) ht4
  have nt2 := so1.dk.has ht2
  have nt3 := so2.dk.has ht3
  have nt4 := so3.dk.has ht4
  have i10 : Items K (off d c (upd (upd (upd (upd H9 t1 (.tup [])) t2 (.tup [.str "T"])) t3 (.lst [])) t4 (.lst [.str "N"]))) [.non, .bl true, .int 5, .ref t1, .ref t2, .ref t3, .ref t4, .int (10 ^ (39 : Int).toNat)] := by
    refine Items.cons ⟨_, .non, .inr rfl⟩ (Items.cons ⟨_, .bl true, .inr rfl⟩ (Items.cons ⟨_, .int 5, .inr rfl⟩ (Items.cons ⟨.tuple [], .tup (.inl (.inl ((off_get nt1.1 nt1.2).trans (upd_get ht4 (upd_get ht3 (upd_get ht2 upd_same)))))) .nil, .inr rfl⟩
      (Items.cons ⟨.tuple [.str "T"], .tup (.inl (.inl ((off_get nt2.1 nt2.2).trans (upd_get ht4 (upd_get ht3 upd_same))))) (.cons (.str _) .nil), .inr rfl⟩ (Items.cons ⟨.list [], .lst (.inl (.inl ((off_get nt3.1 nt3.2).trans (upd_get ht4 upd_same)))) .nil, .inr rfl⟩
      (Items.cons ⟨.list [.str "N"], .lst (.inl (.inl ((off_get nt4.1 nt4.2).trans upd_same))) (.cons (.str _) .nil), .inr rfl⟩ (Items.cons ⟨_, .int _, .inr rfl⟩ Items.nil)))))))
  generalize upd (upd (upd (upd H9 t1 (.tup [])) t2 (.tup [.str "T"])) t3 (.lst [])) t4 (.lst [.str "N"]) = H10 at so i10 hq10 ⊢
  generalize eL10 : ([.non, .bl true, .int 5, .ref t1, .ref t2, .ref t3, .ref t4, .int (10 ^ (39 : Int).toNat)] : List V) = ys10 at i10 ⊢
  have len10 : ys10.length = 8 := by rw [← eL10]; rfl
  have so := so.new (o := .lst ys10) hq10
  have gq10 : (upd H10 q10 (.lst ys10)) q10 = some (.lst ys10) := upd_same
  have i10 := i10.mono (Ext.new (d := d) (c := c) (o := .lst ys10) hq10)
  generalize upd H10 q10 (.lst ys10) = H11 at so gq10 i10 ⊢
  refine ⟨p4, q10, _, _, rfl, rfl, so.g, gq10, by rw [so.ln, len10]; decide, fun p5 hp5 => ?_⟩
  have so := so.cat (q := p1) hp5 i10
  rw [len10] at so
  generalize upd H11 p5 _ = H12 at so ⊢
  generalize xs9 ++ ys10 = xs12 at so
  -- the last five
  refine ⟨.ref p5, rfl, (by show 5 ≤ sizeLine; decide), fun q13 hq13 => ?_⟩
  have i13 : Items K (off d c H12) ([.str "i1_0;", .str "s1_0:aaaaaaaaaa", .str "i-_1;", .str "i1e1;", .str "s 1:a"] : List V) := Items.strs (zs := ["i1_0;", "s1_0:aaaaaaaaaa", "i-_1;", "i1e1;", "s 1:a"]) (by decide +kernel)
  generalize eL13 : ([.str "i1_0;", .str "s1_0:aaaaaaaaaa", .str "i-_1;", .str "i1e1;", .str "s 1:a"] : List V) = ys13 at i13 ⊢
  have len13 : ys13.length = 5 := by rw [← eL13]; rfl
  have so := so.new (o := .lst ys13) hq13
  have gq13 : (upd H12 q13 (.lst ys13)) q13 = some (.lst ys13) := upd_same
  have i13 := i13.mono (Ext.new (d := d) (c := c) (o := .lst ys13) hq13)
  generalize upd H12 q13 (.lst ys13) = H13 at so gq13 i13 ⊢
  refine ⟨p5, q13, _, _, rfl, rfl, so.g, gq13, by rw [so.ln, len13]; decide, fun p hp => ?_⟩
  have npd := so.dk.has hp
  have itp := (so.it.app i13).mono (offP_new (u := .lst (xs12 ++ ys13)) hp)
  have so := so.cat (q := p1) hp i13
  rw [len13] at so
  generalize upd H13 p (.lst (xs12 ++ ys13)) = H14 at so itp ⊢
  generalize xs12 ++ ys13 = xs14 at so itp
  have lnx : xs14.length = 43 := so.ln
  -- sixty drawn ones
  refine ⟨_, rfl, by decide, by decide, for_range (fun i σ H2 => ∃ xs y3 y4, σ = [some (.ref a), some (.ref d), some (.ref p), y3, y4, none, none] ∧ H2 p = some (.lst xs) ∧ Items K (offP d c p H2) xs ∧ xs.length = 43 + i ∧ ∃ n, n ≤ 40000 * i ∧ Deck d c n H2) ⟨xs14, none, none, rfl, so.g, itp, lnx, 0, Nat.zero_le _, so.dk⟩ ?_ ?_⟩
  · rintro i σ H2 hi ⟨xs, y3, y4, rfl, hp2, it2, hl2, n, hn2, dk2⟩
    have hi60 : i < 60 := hi
    refine ⟨.ref d, rfl, .ref d, rfl, d, c, n, 4, rfl, by decide, (show n + 37500 < 2 ^ 60 by omega), dk2, fun v D H3 hv hsz dk3 X3 => ?_⟩
    have dk3 : Deck d c (n + 37500) H3 := dk3
    refine ⟨v, D, rfl, hv, hsz.ok, Nat.le_trans hsz.dep (by decide), Nat.le_trans hsz.size (by decide), fun z H4 ez s4 => ?_⟩
    have dk4 := dk3.same s4
    have tz4 := pk_tx ez hsz
    refine ⟨d, c, _, 250000, 100, z, rfl, by omega, dk4, tz4, by decide, fun z5 H5 t5 dk5 X5 => ?_⟩
    have X25 := (X3.trans (Same.ext s4)).trans X5
    have hp5 := X25.at npd.1 npd.2 hp2
    have it5 := it2.mono (offP_ext (p := p) X25)
    have fin : ∀ (z' : Str) (H6 : Hp), Tz z' → Ext d c H2 H6 → (∃ n, n ≤ 40000 * (i + 1) ∧ Deck d c n H6) → ∃ (l : Addr) (vs : List V) (v : V), V.ref p = .ref l ∧ [V.str z'] = [v] ∧ H6 l = some (.lst vs) ∧ vs.length < sizeLine ∧
        ∃ xs y3 y4, ([some (.ref a), some (.ref d), some (.ref p), some (.int (0 + (i : Int))), some (.str z5), none, none] : L2.St) = [some (.ref a), some (.ref d), some (.ref p), y3, y4, none, none] ∧ (upd H6 l (.lst (vs ++ [v]))) p = some (.lst xs) ∧ Items K (offP d c p (upd H6 l (.lst (vs ++ [v])))) xs ∧ xs.length = 43 + (i + 1) ∧ ∃ n, n ≤ 40000 * (i + 1) ∧ Deck d c n (upd H6 l (.lst (vs ++ [v]))) := by
      intro z' H6 tz' X26 hdk
      have hp6 := X26.at npd.1 npd.2 hp2
      obtain ⟨n6, hn6, dk6⟩ := hdk
      refine ⟨p, xs, _, rfl, rfl, hp6, Nat.lt_of_le_of_lt (show xs.length ≤ 200 by omega) (by decide), xs ++ [.str z'], _, _, rfl, upd_same, ?_, by rw [List.length_append, hl2]; rfl, n6, hn6, dk6.upd npd.1 npd.2⟩
      refine Items.app ((it2.mono (offP_ext X26)).mono offP_put) (Items.cons (Item.str tz') Items.nil)
    refine ⟨.ref p, rfl, .inl ⟨rfl, _, .inl (.inl hp5)⟩, .ref d, rfl, d, c, _, 3, rfl, by decide, by decide, by omega, dk5, fun r H6 r0 r1 dk6 X6 => ?_⟩
    refine ⟨rfl, _, rfl, ite2 (fun h0 => ?_) (fun h0 => ?_)⟩
    · refine ⟨.ref d, rfl, .str z5, rfl, d, c, _, _, _, z5, rfl, by omega, dk6, t5, by decide, fun z7 H7 t7 dk7 X7 => ?_⟩
      exact fin z7 H7 (tz_tx t7 (by decide) (by decide)) ((X25.trans X6).trans X7) ⟨_, by omega, dk7⟩
    · exact ⟨.str z5, rfl, fin z5 H6 (tz_tx t5 (by decide) (by decide)) (X25.trans X6) ⟨_, by omega, dk6⟩⟩
  rintro σ H2 ⟨xs, y3, y4, rfl, hp2, it2, hl2, n, hn2, dk2⟩
  have itA : Items K H2 xs := it2.mono offP_same
  -- what is not right
  refine ⟨.ref p, rfl, p, rfl, ⟨_, .inl (.inl hp2)⟩, fun D1 hD1 => ?_⟩
  refine lc_list (xs := xs) (fun i H9 => H9 D1 = some (.lst []) ∧ Same H2 H9) ⟨upd_same, fun b o h => upd_get hD1 h⟩ ?_ ?_ ?_
  · rintro i H9 _ ⟨_, s9⟩
    exact .inl (.inl (s9 _ _ hp2))
  · rintro i x H9 hx ⟨hd9, s9⟩
    obtain ⟨D, hxd, hw⟩ := itA x (List.mem_of_getElem? hx)
    refine ⟨rfl, x, rfl, x, D, rfl, dp_mono s9 _ _ hxd, hw, fun H10 s10 => ⟨_, rfl, ?_⟩⟩
    exact iteF ⟨s10 _ _ hd9, s9.trans s10⟩
  rintro H9 ⟨hd9, s9⟩
  refine ⟨Nat.zero_le _, fun p1 hp1 => ?_⟩
  exact ⟨.list [], .list [], .lst (.inl (.inl (upd_get hp1 hd9))) .nil, .lst (.inl (.inl upd_same)) .nil, shaped_ints [], shaped_ints [], q _⟩
end
end K14

set_option maxHeartbeats 0
open PySem PySem.W PySem.Calls PyProof.Rows
theorem PySem.Challenge.cw_wholeapart_k14_strings_unpacked_holds : PySem.Challenge.rw_wholeapart_k14_strings_unpacked.Holds := by
  w_on; o_law
  refine HandSHeadRun.head_any (r := OpenLaw.row PySem.Challenge.rw_wholeapart_k14_strings_unpacked) (q := view (OpenLaw.row PySem.Challenge.rw_wholeapart_k14_strings_unpacked).prog [25]) (H := K14.hk) (ob := K14.ob) (M := 6000) (loose := K14.loose) (d := HandSHeadRun.topDef (OpenLaw.row PySem.Challenge.rw_wholeapart_k14_strings_unpacked).prog 25) (kwd := []) K14.ob_eq
    (by kernel_rfl) (fun s => by kernel_rfl) K14.run (by kernel_rfl) (by kernel_rfl) (by kernel_rfl) (by rfl) (by first | assumption | decide +kernel) (by decide +kernel) ⟨rfl, rfl, rfl, rfl, rfl, by decide +kernel⟩ ?hw ?hc
  case hw => w_witness2
  case hc =>
    refine HG.walkG (l := PySem.Challenge.rw_wholeapart_k14_strings_unpacked) (n := 63) (k := 114) (x := "_law_script") (CX := L2.CX0) rfl (by decide) (by kernel_rfl) ⟨rfl, by decide, by decide⟩ ?F (fun _ _ _ _ z => z)
    intro w mg fa h Y G hmg0
    obtain ⟨K, KX, c⟩ := Y
    have hmg : mg ("law" : PySem.Str) = some (.ref fa) := by
      have e : (HandSHeadRun.topDef (OpenLaw.row PySem.Challenge.rw_wholeapart_k14_strings_unpacked).prog 25).name = ("law" : PySem.Str) := by kernel_rfl
      rw [← e]
      exact hmg0
    have T := K14.txt KX G c
    have efa : fa = He.ga K "law" := by
      have e := hmg.symm.trans (T.g "law" (by decide))
      cases e
      rfl
    subst efa
    obtain ⟨fd, F⟩ := T.d_law
    refine ⟨K, fd, K14.spLaw K, KX, fun s u => (L2.FunD.bindsA (ps := ["_law_script"]) F fun _ _ _ _ _ _ us hl => match us, hl with | [_], _ => rfl) s [u] rfl, fun H a ns hl _ _ hS => ⟨a, ns, rfl, hS, hl, fun _ => rfl⟩, fun base _ _ => ?_⟩
    exact K14.ok_law T ⟨by kernel_rfl, by kernel_rfl⟩ F
