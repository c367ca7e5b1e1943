import PyProof.Rows.All
import Wide.All
import OpenK.AllK
import Wide.FinOn
import HandS.ForMost
import HandS.WordsExc
import HandS.Defaults
import HandS.HeadEnd
import HandS.EndBits
import HandS.IsInst
import HandS.Wide
import HandS.HeadHook1
import HandS.HeadHook2
import HandS.More
import HandS.HeadHook3
import HandS.Walk
import HandS.Style
import HandS.NoneIn
import KE.KStateDown
import Lean
import HandS.Head0
import HandS.Head1
import HandS.Head2
import HandS.TupLe
import HandS.DictTup
import HandS.Keys
import KE.KSortTupAny
import KE.KDictCopyH
import HandS.Strs
import HandS.SetBool
import PyProof.StrBlock2
import HandS.TupAny
import HandS.Text
import HandS.Words
import HandS.Nested
import HandS.EndTab
import KE.GoesMore
import HandS.Zip
import HandS.Conv
import PyProof.SumWalk
import PyProof.ListOps
import HandS.SetFor
import KE.DataMinMax
import HandS.SortKw
import HandS.RevRange
import HandS.Evl
import PyProof.Rows.IntBool
import HandS.RaiseMore
import PyProof.SetRoads
import PySem.Challenge.RW_wholeapart_k51_slots_by_any_hand
set_option Elab.async false
set_option linter.all false
set_option maxRecDepth 100000
set_option maxHeartbeats 4000000
/-! HG: defs that are called where no repr is under way (the guards are known to be none), and repr of data. -/
namespace HG
open PySem PySem.Spec PyProof.Rows L2

structure FnG (P : Program) (w : World) (K : PySem.W.Frag) (mg : Str → Option Value) (base : Heap)
    (CX : CXT) (k : Nat) (f : Addr) (fd : FuncData) (ps : List Str) (sp : Sp) : Prop where
  sized : ∀ vs H Q E, sp vs H Q E → vs.length = ps.length
  goes : ∀ (A : Around) (outer : List Env) (s : Shared) (H : Hp) (args : Args) (us : List Value) (vs : List V) (Q : VK) (E : XK),
    Room k A → A.guards = some [] → Env0 P w K mg base A outer s H → BindsTo s fd args (ps.zip us) → Vals vs us →
    sp vs H Q E → codeAny (model P w) A (.call (.ref f) args) (CR CX outer P w H s Q E) s

section
variable {P : Program} {w : World} {K : PySem.W.Frag} {mg : Str → Option Value} {base : Heap} {CX : CXT} {k : Nat} {f : Addr} {fd : FuncData} {ps : List Str} {sp : Sp}

theorem FnG.of (F : FnOk P w K mg base CX k f fd ps sp) : FnG P w K mg base CX k f fd ps sp :=
  ⟨F.len, fun A outer s H args us vs Q E r _ => F.run A outer s H args us vs Q E r⟩

theorem FnG.up {j : Nat} (F : FnG P w K mg base CX j f fd ps sp) (h : j ≤ k) : FnG P w K mg base CX k f fd ps sp :=
  ⟨F.sized, fun A outer s H args us vs Q E r => F.goes A outer s H args us vs Q E (r.mono h)⟩

/-- a def of the text, by its body -/
theorem fng_of {x qual : Str} {params : Arguments} {body : List Stmt} {scope : Scope} {dvs : List V} {kws : List (Str × V)} {N : List Str}
    (F : FunD K x qual params body scope dvs kws f fd) (S : FnScope N ps scope) (len : ∀ vs H Q E, sp vs H Q E → vs.length = ps.length)
    (hbody : ∀ (cdv : Value) (A : Around) (outer : List Env) (s : Shared) (H : Hp) (vs : List V) (Q : VK) (E : XK),
      Room k (A.deeper (envOfC qual scope s.heap.objs.size f cdv)) → A.guards = some [] → sp vs H Q E →
      ∃ t, PSs (cxOf CX P w K mg base N qual scope f cdv A outer s H E) body t ∧
        t { nx := fun _ H' => Q .non H', rt := Q } (start N vs) H) : FnG P w K mg base CX (k + 1) f fd ps sp := by
  obtain ⟨oc, od, dV, kV, doc, pm, an, cdv, ct, osl, rfl, lk, hcd, _, _⟩ := F.ex
  constructor
  · exact len
  intro A outer s H args us vs Q E hr hg e0 hb r hsp
  have X1 : K.In s.heap := e0.mod.kin.keeps fun b o e => (e0.bs b o e).1
  have X2 : s.heap.NoLimit := e0.mod.nolimit.keeps fun b o e => (e0.bs b o e).1
  obtain ⟨t, ht, hq⟩ := hbody cdv A outer s H vs Q E (hr.deeper _) hg hsp
  refine codeAny_call_function hr.depth (X1 _ _ lk) rfl S.co S.gen rfl (PySem.W.codeRec_of X1 hcd) (hb _ _ _ _ ?_)
  have kinds : ∀ y ∈ ps.zip us, scope.names.lookup y.1 = some .local ∨
      (scope.names.lookup y.1 = some .cell ∧ ((cellsFrom (s.heap.objs.size + 1) scope.names []).lookup y.1).isSome = true) := by
    rintro ⟨n, v⟩ hy
    have hn := (List.of_mem_zip hy).1
    rcases S.par n hn with q | q
    · left; exact q
    · right; exact ⟨q, PySem.W.cellsFrom_some _ _ _ (.inl q)⟩
  refine wpAny_newFunctionEnv_cells S.kind kinds ?_
  intro env he s1 x
  subst he
  refine ⟨X2.keeps x.toInCall.keep, codeAny_func ?_⟩
  have I := inv_start (CX := CX) (E := E) S hr.hd e0 (len _ _ _ _ hsp) r x
  refine wpAny_mono (ht.run [] s1 (start N vs) H _ I hq) ?_ (fun e s' hs => hs)
  intro fl s' hs
  cases fl with
  | next =>
    obtain ⟨σ', H', J, q⟩ := hs
    exact ⟨V.non, H', J.os, J.bare, J.base, J.hok, rfl, q⟩
  | ret u =>
    obtain ⟨v, σ', H', J, rv, q⟩ := hs
    exact ⟨v, H', J.os, J.bare, J.base, J.hok, rv, q⟩
  | brk => exact hs.elim fun _ z => z.elim fun _ z => z.2.elim
  | cont => exact hs.elim fun _ z => z.elim fun _ z => z.2.elim
end

/-! ### calls of such defs -/
section
variable {X : Cx} {CX : CXT} {k : Nat} {f : Addr} {fd : FuncData} {ps ks : List Str} {sp : Sp} {dvs : List V} {ds : List Value}
  {E : XK} {x : Str} {p pos : Pos} {e : Expr} {es : List Expr} {t tk : TA} {kws : List Keyword}
  {g : List Value → List Value → List Value} {gV : List V → List V → List V}

theorem fin_call {pins : List (Addr × Obj)} {σ : L2.St} {H : Hp} {s s' : Shared} {Q : VK} {r : Result} (hx : Passes CX X E)
    (I : Inv X pins σ H s) (h : CR CX X.stack X.prog X.w H s Q E r s') : callEnd (EP X pins σ Q) X.xe r s' := by
  cases r with
  | error e => exact hx pins σ H s e s' I h
  | ok fl =>
    cases fl with
    | ret u => exact I.after h
    | next => exact h.elim
    | brk => exact h.elim
    | cont => exact h.elim

theorem pe_callG (F : FnG X.prog X.w X.K X.mg X.base CX k f fd ps sp) (hr : Room k X.A) (hgd : X.A.guards = some []) (hg : Gl X x) (hm : X.mg x = some (.ref f))
    (hk : PySem.W.keepIn X.K (.ref f) = true) (hb : Binds X.K fd ps ds) (hd : Vals dvs ds) (hx : Passes CX X E) (ha : PA X (e :: es) t)
    (hdb : (x == ("__debug__" : Str)) = false := by decide)
    (he : starEach (e :: es) X.env = (false, eval e X.env) :: starEach es X.env := by rfl)
    (hpl : (backTo pos (starEach es X.env)).any (·.1) = false := by rfl) : PE X (.Call (.Name x p) (e :: es) [] pos) (tCall sp dvs E t) := by
  constructor
  intro pins s σ H Q I h
  refine wpAny_Call_Name_kw (ld_glob I hg hm ?_ hdb)
  refine PySem.W.callWith_K (h₀ := X.base) I.ok.mod.kin hk (thn (ha.run pos pins s σ H _ I h) ?_) he hpl
  rintro us s1 ⟨vs, H1, I1, r, q⟩
  have rr : Vals (vs ++ dvs) (us ++ ds) := r.append hd
  have hl : (us ++ ds).length = ps.length := rr.length.symm.trans (F.sized _ _ _ _ q)
  refine ⟨I1.kIn, wpAny_call (codeAny_mono (F.goes X.A X.stack s1 H1 ⟨us, []⟩ _ _ Q E hr hgd I1.env0 (hb s1 us I1.kIn hl) rr q) fun r s' hq => ?_)⟩
  exact fin_call hx I1 hq

end

/-! ### repr of data -/
mutual
theorem dp_nodict {K : PySem.W.Frag} {H : Hp} : ∀ (d : PyData) (v : V), Dp K H v d → d.hasDict = false
  | .none, _, _ => by simp only [PyData.hasDict]
  | .bool _, _, _ => by simp only [PyData.hasDict]
  | .int _, _, _ => by simp only [PyData.hasDict]
  | .str _, _, _ => by simp only [PyData.hasDict]
  | .list ds, _, h => by
    cases h with
    | lst _ ha =>
      simp only [PyData.hasDict]
      exact dpAll_nodict ds _ ha
  | .tuple ds, _, h => by
    cases h with
    | tup _ ha =>
      simp only [PyData.hasDict]
      exact dpAll_nodict ds _ ha
  | .dict _, _, h => by cases h
theorem dpAll_nodict {K : PySem.W.Frag} {H : Hp} : ∀ (ds : List PyData) (vs : List V), DpAll K H vs ds → PyData.hasDictAll ds = false
  | [], _, _ => by simp only [PyData.hasDictAll]
  | d :: ds, _, h => by
    cases h with
    | cons h1 h2 => simp only [PyData.hasDictAll, dp_nodict d _ h1, dpAll_nodict ds _ h2, Bool.or_self]
end

def rRepr (K : PySem.W.Frag) : List V → Hp → VK → Prop := fun xs H Q =>
  ∃ x d, xs = [x] ∧ Dp K H x d ∧ d.showable = true ∧ d.depth ≤ 150 ∧ d.shown.length ≤ sizeLine ∧ Q (.str d.shown) H

theorem call_repr {X : Cx} {k : Nat} (hgd : X.A.guards = some []) (hr : Room k X.A) : CallR X (.builtin "repr") (rRepr X.K) := by
  intro pins s σ H xs us Q I r h
  obtain ⟨x, d, rfl, hd, hs, hdep, hsz, q⟩ := h
  obtain ⟨u, rfl, ru⟩ := vals1 r
  obtain ⟨as, rd⟩ := Dp.reads I d x u hd ru
  have hu := hr.un
  cases rd with
  | none => 
    simp only [PyData.shown] at q
    exact PySem.P.repr_of_none ⟨.str _, H, I.tok _, ⟨_, rfl⟩, q⟩
  | bool b =>
    simp only [PyData.shown] at q
    exact PySem.P.repr_of_bool ⟨.str _, H, I.tok _, ⟨_, rfl⟩, q⟩
  | int i t =>
    simp only [PyData.shown] at q
    exact PySem.P.repr_of_int (by simpa [PyData.showable] using hs) ⟨.str _, H, I.tok _, ⟨_, rfl⟩, q⟩
  | str y t =>
    simp only [PyData.shown] at q hsz
    exact PySem.P.repr_of_str ⟨.str _, H, I.tok _, ⟨_, rfl⟩, q⟩ hsz
  | list h1 h2 h3 h4 =>
    have nd := dp_nodict _ _ hd
    refine repr_of_reads' (.list h1 h2 h3 h4) hs (fun z => ?_) hgd (by omega) (fun _ _ e => e) (fun h' u tk hk => ⟨.str _, H, I.kept hk, ⟨_, rfl⟩, q⟩) hsz
    rw [nd] at z; cases z
  | tuple h1 h2 h3 h4 =>
    have nd := dp_nodict _ _ hd
    refine repr_of_reads' (.tuple h1 h2 h3 h4) hs (fun z => ?_) hgd (by omega) (fun _ _ e => e) (fun h' u tk hk => ⟨.str _, H, I.kept hk, ⟨_, rfl⟩, q⟩) hsz
    rw [nd] at z; cases z
  | dict h1 h2 h3 h4 h5 => cases hd

/-! ### the law's own call -/
section
variable {P : Program} {w : World} {K : PySem.W.Frag} {mg mb : Str → Option Value} {CX : CXT} {k : Nat} {fa a : Addr} {fd : FuncData} {x : Str} {sp : Sp} {s1 : Shared} {vs : List Value} {ns : List Int}

/-- from an abstract heap H that tracks the script at most -/
theorem law_core (KX : K.In s1.heap) (hns : s1.heap.Ns mainGlobals mg) (hb : s1.heap.Ns builtinsNs mb)
    (hbb : ∀ x : Str, x ≠ "__name__" → mb x = bootBuiltins x) (hlim : s1.heap.NoLimit) (hg : s1.gens = #[])
    (ha : s1.heap.get? a = some { cls := .type "list", data := .seq vs.toArray }) (hr : Room k callerA)
    (F : ∀ base : Heap, K.In base → base.Ns mainGlobals mg → FnG P w K mg base CX k fa fd [x] sp)
    (hbind : ∀ (s : Shared) (u : Value), BindsTo s fd ⟨[u], []⟩ [(x, u)])
    {H : Hp} (only : Only H) (hok : HOk P w H s1.heap) (hA : ∀ b, H b ≠ none → b = a) (hK : H a ≠ none → K.lookup a = none)
    (hsp : sp [.ref a] H (fun v _ => v = .bl true) fun _ _ _ => False)
    (hCX : ∀ e s', CX [] H s1 (fun _ _ _ => False) e s' → False) :
    codeAny (model P w) callerA (.call (.ref fa) ⟨[.ref a], []⟩)
      (fun r s' => r = .ok (.ret (.bool true)) ∧ OldK s1.heap s'.heap ∧ s'.os = s1.os ∧ AllBare s'.gens) s1 := by
  have tracked : ∀ {b : Addr} {u : HO}, H b = some u → b = a := fun {b u} q => hA b (by simp [q])
  have dictFree : ∀ {b : Addr} {o : Obj} {es : Array DictEntry} {ep : Nat}, s1.heap.get? b = some o → o.data = .dict es ep → H b = none := by
    intro b o es ep e d
    cases q : H b with
    | none => rfl
    | some u =>
      rw [tracked q, ha] at e
      cases e
      cases d
  have nsK : ∀ {b : Addr} {m : Str → Option Value}, s1.heap.Ns b m → (hidT s1.heap H).Ns b m := by
    rintro b m ⟨o, es, ep, e, d, r⟩
    exact ⟨o, es, ep, hidT_get e (dictFree e d), d, r⟩
  have kin : K.In (hidT s1.heap H) := by
    intro b o e
    refine hidT_get (KX b o e) ?_
    cases q : H b with
    | none => rfl
    | some u =>
      have eb := tracked q
      subst eb
      rw [hK (by simp [q])] at e
      cases e
  have md : Mod K mg (hidT s1.heap H) := by
    obtain ⟨mc, l1, l2⟩ := hlim
    exact ⟨kin, nsK hns, ⟨mb, nsK hb, hbb⟩, ⟨mc, nsK l1, l2⟩⟩
  have e0 : Env0 P w K mg (hidT s1.heap H) callerA [] s1 H :=
    { frames := rfl, mod := md, bs := fun b o e => of_hidT e, bsz := Nat.le_of_eq (hidT_size _ _), funs := trivial,
      frf := fun b z => absurd (show b ∈ ([] : List Addr) from z) List.not_mem_nil, hok := hok, bare := .of_eq hg }
  have go := (F _ kin (nsK hns)).goes callerA [] s1 H ⟨[.ref a], []⟩ [.ref a] [.ref a] _ _ hr rfl e0 (hbind s1 (.ref a)) (.cons rfl .nil) hsp
  refine codeAny_mono go fun r s' h => ?_
  cases r with
  | error e => exact (hCX e s' h).elim
  | ok fl =>
    cases fl with
    | next => exact h.elim
    | brk => exact h.elim
    | cont => exact h.elim
    | ret u =>
      obtain ⟨v, H', os, bare, un, hok', r', q⟩ := h
      have ev : v = .bl true := q
      subst ev
      have eu : u = Value.bool true := r'
      subst eu
      refine ⟨rfl, OldK.of_keep fun b o e => ?_, os, bare⟩
      rcases only b with z | ⟨ob, xs, z⟩
      · exact un.keep b o e z (fun y => absurd (show b ∈ ([] : List Addr) from y) List.not_mem_nil) List.not_mem_nil
      · obtain ⟨e1, _⟩ := hok b _ z
        obtain ⟨e2, _⟩ := hok' b _ (un.frzs b ob _ z)
        rw [e1] at e
        cases e
        exact e2

theorem law_callG (KX : K.In s1.heap) (hns : s1.heap.Ns mainGlobals mg) (hb : s1.heap.Ns builtinsNs mb)
    (hbb : ∀ x : Str, x ≠ "__name__" → mb x = bootBuiltins x) (hlim : s1.heap.NoLimit) (hg : s1.gens = #[])
    (ha : s1.heap.get? a = some { cls := .type "list", data := .seq vs.toArray }) (hi : IntsAre vs ns) (hl : ns.length ≤ sizeLine) (hr : Room k callerA)
    (F : ∀ base : Heap, K.In base → base.Ns mainGlobals mg → FnG P w K mg base CX k fa fd [x] sp)
    (hbind : ∀ (s : Shared) (u : Value), BindsTo s fd ⟨[u], []⟩ [(x, u)])
    (hsp : ∀ H : Hp, Only H → SqL K H a (ns.map V.int) → sp [.ref a] H (fun v _ => v = .bl true) fun _ _ _ => False)
    (hCX : ∀ H e s', CX [] H s1 (fun _ _ _ => False) e s' → False) :
    codeAny (model P w) callerA (.call (.ref fa) ⟨[.ref a], []⟩)
      (fun r s' => r = .ok (.ret (.bool true)) ∧ OldK s1.heap s'.heap ∧ s'.os = s1.os ∧ AllBare s'.gens) s1 := by
  have rv := vals_ints hi
  cases hk : K.lookup a with
  | some o =>
    have e := KX a o hk
    rw [ha] at e
    cases e
    have on : Only (fun _ => none) := fun _ => .inl rfl
    refine law_core KX hns hb hbb hlim hg ha hr F hbind on (fun b u z => by cases z) (fun b z => absurd rfl z) (fun z => absurd rfl z) (hsp _ on (.inr ?_)) (hCX _)
    exact ⟨_, vs.toArray, _, hk, rfl, rfl, rfl, by rw [List.size_toArray, hi.length]; exact hl, by simpa using rv⟩
  | none =>
    let o : Obj := { cls := .type "list", data := .seq vs.toArray }
    let H : Hp := upd (fun _ => none) a (.frz o (.lst (ns.map V.int)))
    have hH : H a = some (.frz o (.lst (ns.map V.int))) := upd_same
    have hN : ∀ b, b ≠ a → H b = none := fun b z => upd_ne z
    have on : Only H := by
      intro b
      by_cases e : b = a
      · subst e; exact .inr ⟨_, _, hH⟩
      · exact .inl (hN b e)
    refine law_core KX hns hb hbb hlim hg ha hr F hbind on (fun b u z => ?_) (fun b z => ?_) (fun _ => hk) (hsp H on (.inl (.inr ⟨o, hH⟩))) (hCX _)
    · by_cases e : b = a
      · subst e
        rw [hH] at z
        cases z
        exact ⟨ha, by rw [List.length_map]; exact hl, vs, _, rv, ha⟩
      · rw [hN b e] at z; cases z
    · by_cases e : b = a
      · exact e
      · exact absurd (hN b e) z
end

/-- the walk that a head by facts asks for, with the script's bits -/
theorem walkG {l : PySem.W.OpenLaw} {n k : Nat} {q : Program} {loose : List Str} {XP : (Str → Option Value) → Heap → Prop} {YP : World → Heap → Prop} {d : DefRec} {CX : CXT} {x : Str}
    (hn : l.most = some n) (hn2 : n ≤ sizeLine) (hdf : d.params.defaults = []) (hr : Room k callerA)
    (F : ∀ (w : World) (mg : Str → Option Value) (fa : Addr) (h : Heap), YP w h → h.Ns mainGlobals mg → mg d.name = some (.ref fa) →
      ∃ (K : PySem.W.Frag) (fd : FuncData) (sp : Sp), K.In h ∧ (∀ (s : Shared) (u : Value), BindsTo s fd ⟨[u], []⟩ [(x, u)]) ∧
        (∀ (H : Hp) (a : Addr) (ns : List Int), ns.length ≤ n → (∀ z ∈ ns, Builtin.Int.intBits z ≤ 1048576) → Only H → SqL K H a (ns.map V.int) →
          sp [.ref a] H (fun v _ => v = .bl true) fun _ _ _ => False) ∧
        ∀ base : Heap, K.In base → base.Ns mainGlobals mg → FnG l.prog w K mg base CX k fa fd [x] sp)
    (hCX : ∀ (H : Hp) (s : Shared) (e : Value) (s' : Shared), CX [] H s (fun _ _ _ => False) e s' → False) :
    PySem.W.WalkO q loose XP YP l.row.toRowW d [] (fun f vs => PySem.call f vs) := by
  refine Att.attach_callB hn hdf ?_
  intro w s₀ s₁ mg mb fa o pm cd doc a vs ns G Y ho hd hcd hmg hobj hints hlen hbits hg
  obtain ⟨K, fd, sp, KX, hb, hsp, hF⟩ := F w mg fa _ Y G.T.g hmg
  exact law_callG KX G.T.g G.T.b G.T.builtins G.T.nolimit hg hobj hints (Nat.le_trans hlen hn2) hr hF hb (fun H hO hS => hsp H a ns hlen hbits hO hS) (fun H e s' => hCX H s₁ e s')
end HG

set_option maxHeartbeats 4000000
/-! HW: short words over HG: defs called by name (Cal), data, frames. -/
namespace HG
open PySem PySem.Spec PyProof.Rows L2

/-! ### a def of the top, ready to be called -/
structure Cal (P : Program) (w : World) (K : PySem.W.Frag) (mg : Str → Option Value) (base : Heap) (x : Str) (k : Nat) (ps : List Str) (sp : Sp) : Prop where
  ex : ∃ fd, FnOk P w K mg base CX0 k (He.ga K x) fd ps sp ∧ Binds K fd ps []
  gl : mg x = some (.ref (He.ga K x))
  kp : PySem.W.keepIn K (.ref (He.ga K x)) = true
structure CalG (P : Program) (w : World) (K : PySem.W.Frag) (mg : Str → Option Value) (base : Heap) (x : Str) (k : Nat) (ps : List Str) (sp : Sp) : Prop where
  ex : ∃ fd, FnG P w K mg base CX0 k (He.ga K x) fd ps sp ∧ Binds K fd ps []
  gl : mg x = some (.ref (He.ga K x))
  kp : PySem.W.keepIn K (.ref (He.ga K x)) = true
/-- called by keywords alone -/
structure CalK (P : Program) (w : World) (K : PySem.W.Frag) (mg : Str → Option Value) (base : Heap) (x : Str) (k : Nat) (ks ps : List Str) (gV : List V → List V) (sp : Sp) : Prop where
  ex : ∃ fd g, FnOk P w K mg base CX0 k (He.ga K x) fd ps sp ∧ KBn K fd ps 0 ks g (fun _ zs => gV zs)
  gl : mg x = some (.ref (He.ga K x))
  kp : PySem.W.keepIn K (.ref (He.ga K x)) = true
section
variable {X : Cx} {k : Nat} {ps ks : List Str} {sp : Sp} {x : Str} {p pos : Pos} {e : Expr} {es : List Expr} {t tk : TA} {kws : List Keyword} {gV : List V → List V}
theorem pe_cal (C : Cal X.prog X.w X.K X.mg X.base x k ps sp) (hr : Room k X.A) (hg : Gl X x) (ha : PA X (e :: es) t)
    (hdb : (x == ("__debug__" : Str)) = false := by decide)
    (he : starEach (e :: es) X.env = (false, eval e X.env) :: starEach es X.env := by rfl)
    (hpl : (backTo pos (starEach es X.env)).any (·.1) = false := by rfl) : PE X (.Call (.Name x p) (e :: es) [] pos) (tCall sp [] E0 t) := by
  obtain ⟨fd, F, b⟩ := C.ex
  exact pe_call F hr hg C.gl C.kp b .nil pass0 ha hdb he hpl
theorem pe_calG (C : CalG X.prog X.w X.K X.mg X.base x k ps sp) (hr : Room k X.A) (hgd : X.A.guards = some []) (hg : Gl X x) (ha : PA X (e :: es) t)
    (hdb : (x == ("__debug__" : Str)) = false := by decide)
    (he : starEach (e :: es) X.env = (false, eval e X.env) :: starEach es X.env := by rfl)
    (hpl : (backTo pos (starEach es X.env)).any (·.1) = false := by rfl) : PE X (.Call (.Name x p) (e :: es) [] pos) (tCall sp [] E0 t) := by
  obtain ⟨fd, F, b⟩ := C.ex
  exact pe_callG F hr hgd hg C.gl C.kp b .nil pass0 ha hdb he hpl
def tCalK (m : Nat) (sp : Sp) (gV : List V → List V) (tk : TA) : TE := fun σ H Q => tk σ H fun zs H1 => zs.length = m ∧ sp (gV zs) H1 Q E0
theorem pe_calK (C : CalK X.prog X.w X.K X.mg X.base x k ks ps gV sp) (hr : Room k X.A) (hg : Gl X x) (hkw : PK X kws tk)
    (hall : (backToKw pos (keywordEach kws X.env)).all (·.1.isSome) = true := by rfl)
    (hks : (backToKw pos (keywordEach kws X.env)).filterMap (·.1) = ks := by rfl)
    (hdb : (x == ("__debug__" : Str)) = false := by decide)
    (hpl : ((backTo pos (starEach [] X.env)).any (·.1) || (backToKw pos (keywordEach kws X.env)).any (·.1.isNone)) = false := by rfl) :
    PE X (.Call (.Name x p) [] kws pos) (tCalK ks.length sp gV tk) := by
  obtain ⟨fd, g, F, b⟩ := C.ex
  constructor
  intro pins s σ H Q I h
  refine wpAny_Call_Name_kw (ld_glob I hg C.gl ?_ hdb)
  refine PySem.W.callWith_KW0 (h₀ := X.base) I.ok.mod.kin C.kp hall (thn (hkw.run pos pins s σ H _ I h) ?_) hpl
  rintro ws s2 ⟨zs, H2, I2, rz, l2, q2⟩
  rw [hks]
  exact ⟨I2.kIn, run_fnN (us := []) (vs := []) F hr b pass0 I2 .nil rz rfl l2 q2⟩
theorem pe_globI {i : Int} (h : ∃ t, X.mg x = some (.int i t)) (hg : Gl X x) (hd : (x == ("__debug__" : Str)) = false := by decide) : PE X (.Name x pos) (tC (.int i)) := by
  obtain ⟨t, h⟩ := h
  exact pe_glob hg h ⟨t, rfl⟩ hd
theorem pe_globS {z : Str} (h : ∃ t, X.mg x = some (.str z t)) (hg : Gl X x) (hd : (x == ("__debug__" : Str)) = false := by decide) : PE X (.Name x pos) (tC (.str z)) := by
  obtain ⟨t, h⟩ := h
  exact pe_glob hg h ⟨t, rfl⟩ hd
end

/-! ### data -/
def tyN : PyData → String
  | .none => "NoneType"
  | .bool _ => "bool"
  | .int _ => "int"
  | .str _ => "str"
  | .list _ => "list"
  | .tuple _ => "tuple"
  | .dict _ => "dict"
theorem dp_ty {K : PySem.W.Frag} {H : Hp} {v : V} {d : PyData} (h : Dp K H v d) : TyX K H v (.type (tyN d)) := by
  cases h with
  | non => exact .base .non
  | bl b => exact .base (.bl b)
  | int i => exact .base (.int i)
  | str x => exact .base (.str x)
  | lst s _ =>
    rcases s with (e | ⟨o, e⟩) | ⟨o, _, _, e, c, _⟩
    · exact .base (.lst e)
    · exact .base (.frz e)
    · exact .kList e c
  | tup s _ =>
    rcases s with (e | ⟨o, e⟩) | ⟨o, _, _, e, c, _⟩
    · exact .base (.tup e)
    · exact .fTuple e
    · exact .kTuple e c
theorem isi_of {K : PySem.W.Frag} {H : Hp} {v : V} {d : PyData} {n : String} {b : Bool} {Q : VK} (h : Dp K H v d) (hk : kitB (tyN d) n = some b) (q : Q (.bl b) H) : rIsi K [v, .ty n] H Q :=
  ⟨v, .ty n, _, _, b, rfl, .ty n, dp_ty h, kit_ty hk, q⟩
def isI : PyData → Bool
  | .int _ => true
  | .bool _ => true
  | _ => false
def isB : PyData → Bool
  | .bool _ => true
  | _ => false
def isS : PyData → Bool
  | .str _ => true
  | _ => false
def isL : PyData → Bool
  | .list _ => true
  | _ => false
def isT : PyData → Bool
  | .tuple _ => true
  | _ => false
theorem kit_int : ∀ d : PyData, kitB (tyN d) "int" = some (isI d)
  | .none => (by decide +kernel : kitB "NoneType" "int" = some false)
  | .bool _ => (by decide +kernel : kitB "bool" "int" = some true)
  | .int _ => (by decide +kernel : kitB "int" "int" = some true)
  | .str _ => (by decide +kernel : kitB "str" "int" = some false)
  | .list _ => (by decide +kernel : kitB "list" "int" = some false)
  | .tuple _ => (by decide +kernel : kitB "tuple" "int" = some false)
  | .dict _ => (by decide +kernel : kitB "dict" "int" = some false)
theorem kit_bool : ∀ d : PyData, kitB (tyN d) "bool" = some (isB d)
  | .none => (by decide +kernel : kitB "NoneType" "bool" = some false)
  | .bool _ => (by decide +kernel : kitB "bool" "bool" = some true)
  | .int _ => (by decide +kernel : kitB "int" "bool" = some false)
  | .str _ => (by decide +kernel : kitB "str" "bool" = some false)
  | .list _ => (by decide +kernel : kitB "list" "bool" = some false)
  | .tuple _ => (by decide +kernel : kitB "tuple" "bool" = some false)
  | .dict _ => (by decide +kernel : kitB "dict" "bool" = some false)
theorem kit_str : ∀ d : PyData, kitB (tyN d) "str" = some (isS d)
  | .none => (by decide +kernel : kitB "NoneType" "str" = some false)
  | .bool _ => (by decide +kernel : kitB "bool" "str" = some false)
  | .int _ => (by decide +kernel : kitB "int" "str" = some false)
  | .str _ => (by decide +kernel : kitB "str" "str" = some true)
  | .list _ => (by decide +kernel : kitB "list" "str" = some false)
  | .tuple _ => (by decide +kernel : kitB "tuple" "str" = some false)
  | .dict _ => (by decide +kernel : kitB "dict" "str" = some false)
theorem kit_list : ∀ d : PyData, kitB (tyN d) "list" = some (isL d)
  | .none => (by decide +kernel : kitB "NoneType" "list" = some false)
  | .bool _ => (by decide +kernel : kitB "bool" "list" = some false)
  | .int _ => (by decide +kernel : kitB "int" "list" = some false)
  | .str _ => (by decide +kernel : kitB "str" "list" = some false)
  | .list _ => (by decide +kernel : kitB "list" "list" = some true)
  | .tuple _ => (by decide +kernel : kitB "tuple" "list" = some false)
  | .dict _ => (by decide +kernel : kitB "dict" "list" = some false)
theorem kit_tuple : ∀ d : PyData, kitB (tyN d) "tuple" = some (isT d)
  | .none => (by decide +kernel : kitB "NoneType" "tuple" = some false)
  | .bool _ => (by decide +kernel : kitB "bool" "tuple" = some false)
  | .int _ => (by decide +kernel : kitB "int" "tuple" = some false)
  | .str _ => (by decide +kernel : kitB "str" "tuple" = some false)
  | .list _ => (by decide +kernel : kitB "list" "tuple" = some false)
  | .tuple _ => (by decide +kernel : kitB "tuple" "tuple" = some true)
  | .dict _ => (by decide +kernel : kitB "dict" "tuple" = some false)

mutual
theorem dp_mono {K : PySem.W.Frag} {H H' : Hp} (e : Same H H') : ∀ (d : PyData) (v : V), Dp K H v d → Dp K H' v d
  | .none, _, h => by cases h; exact .non
  | .bool b, _, h => by cases h; exact .bl b
  | .int i, _, h => by cases h; exact .int i
  | .str x, _, h => by cases h; exact .str x
  | .list ds, _, h => by
    cases h with
    | lst s a =>
      refine .lst ?_ (dpAll_mono e ds _ a)
      rcases s with (s | ⟨o, s⟩) | s
      · exact .inl (.inl (e _ _ s))
      · exact .inl (.inr ⟨o, e _ _ s⟩)
      · exact .inr s
  | .tuple ds, _, h => by
    cases h with
    | tup s a =>
      refine .tup ?_ (dpAll_mono e ds _ a)
      rcases s with (s | ⟨o, s⟩) | s
      · exact .inl (.inl (e _ _ s))
      · exact .inl (.inr ⟨o, e _ _ s⟩)
      · exact .inr s
  | .dict _, _, h => by cases h
theorem dpAll_mono {K : PySem.W.Frag} {H H' : Hp} (e : Same H H') : ∀ (ds : List PyData) (vs : List V), DpAll K H vs ds → DpAll K H' vs ds
  | [], _, h => by cases h; exact .nil
  | d :: ds, _, h => by
    cases h with
    | cons a b => exact .cons (dp_mono e d _ a) (dpAll_mono e ds _ b)
end
theorem dpAll_len {K : PySem.W.Frag} {H : Hp} : ∀ {vs : List V} {ds : List PyData}, DpAll K H vs ds → vs.length = ds.length
  | _, _, .nil => rfl
  | _, _, .cons _ h => congrArg (· + 1) (dpAll_len h)
theorem dpAll_app {K : PySem.W.Frag} {H : Hp} : ∀ {vs us : List V} {ds es : List PyData}, DpAll K H vs ds → DpAll K H us es → DpAll K H (vs ++ us) (ds ++ es)
  | _, _, _, _, .nil, h => h
  | _, _, _, _, .cons a b, h => .cons a (dpAll_app b h)
theorem dpAll_get {K : PySem.W.Frag} {H : Hp} : ∀ {vs : List V} {ds : List PyData} {i : Nat} {v : V}, DpAll K H vs ds → vs[i]? = some v → ∃ d, ds[i]? = some d ∧ Dp K H v d
  | _, _, _, _, .nil, h => by simp at h
  | _, _, 0, _, .cons a _, h => by
    simp at h
    subst h
    exact ⟨_, rfl, a⟩
  | _, _, i + 1, _, .cons _ b, h => by
    obtain ⟨d, e, q⟩ := dpAll_get (i := i) b (by simpa using h)
    exact ⟨d, by simpa using e, q⟩

theorem dpInts {K : PySem.W.Frag} {H : Hp} : ∀ ns : List Int, DpAll K H (ns.map V.int) (ns.map PyData.int)
  | [] => .nil
  | n :: ns => .cons (.int n) (dpInts ns)
theorem canLay_ints : ∀ ns : List Int, PyData.canLayAll0 (ns.map PyData.int) = true
  | [] => by simp only [List.map_nil, PyData.canLayAll0]
  | n :: ns => by simp only [List.map_cons, PyData.canLayAll0, PyData.canLay0, canLay_ints ns, Bool.and_self]
theorem depth_ints : ∀ ns : List Int, PyData.depthAll (ns.map PyData.int) ≤ 1
  | [] => by simp only [List.map_nil, PyData.depthAll]; omega
  | n :: ns => by
    have := depth_ints ns
    simp only [List.map_cons, PyData.depthAll, PyData.depth]
    omega
theorem shaped_ints (ns : List Int) : SeqAt.shaped (.list (ns.map PyData.int)) = true := by
  have h := depth_ints ns
  have h2 : (PyData.list (ns.map PyData.int)).depth ≤ 64 := by
    simp only [PyData.depth]
    omega
  unfold SeqAt.shaped
  simp only [PyData.canLay0, canLay_ints ns, Bool.true_and]
  exact decide_eq_true h2
theorem upd_get {H : Hp} {p b : Addr} {o u : HO} (hp : H p = none) (h : H b = some u) : upd H p o b = some u := by
  rw [upd_ne (ne_of_none h hp)]
  exact h

/-! ### heaps but for two places -/
def off (d c : Addr) (H : Hp) : Hp := fun b => if b = d ∨ b = c then none else H b
theorem off_same {d c : Addr} {H : Hp} : Same (off d c H) H := fun b o h => by
  unfold off at h
  split at h
  · cases h
  · exact h
theorem off_get {d c b : Addr} {H : Hp} (h1 : b ≠ d) (h2 : b ≠ c) : off d c H b = H b := if_neg (fun z => z.elim h1 h2)
def Ext (d c : Addr) (H H' : Hp) : Prop := Same (off d c H) (off d c H')
theorem Ext.refl {d c : Addr} (H : Hp) : Ext d c H H := fun _ _ h => h
theorem Ext.trans {d c : Addr} {H H1 H2 : Hp} (a : Ext d c H H1) (b : Ext d c H1 H2) : Ext d c H H2 := fun x o h => b x o (a x o h)
theorem Ext.d {d c : Addr} {H : Hp} {o : HO} : Ext d c H (upd H d o) := fun b u h => by
  unfold off at h ⊢
  split at h
  · cases h
  · rename_i n
    rw [if_neg n, upd_ne (fun z => n (.inl z))]
    exact h
theorem Ext.c {d c : Addr} {H : Hp} {o : HO} : Ext d c H (upd H c o) := fun b u h => by
  unfold off at h ⊢
  split at h
  · cases h
  · rename_i n
    rw [if_neg n, upd_ne (fun z => n (.inr z))]
    exact h
theorem Ext.new {d c p : Addr} {H : Hp} {o : HO} (hp : H p = none) : Ext d c H (upd H p o) := fun b u h => by
  unfold off at h ⊢
  split at h
  · cases h
  · rename_i n
    rw [if_neg n, upd_ne (ne_of_none h hp)]
    exact h
/-- an object that was not there may change -/
theorem Ext.mut {d c p : Addr} {H H' : Hp} {o : HO} (e : Ext d c H H') (hp : H p = none) : Ext d c H (upd H' p o) := fun b u h => by
  have h1 := e b u h
  unfold off at h h1 ⊢
  split at h
  · cases h
  · rename_i n
    rw [if_neg n] at h1
    rw [if_neg n, upd_ne (ne_of_none h hp)]
    exact h1
theorem Ext.at {d c b : Addr} {H H' : Hp} {o : HO} (e : Ext d c H H') (h1 : b ≠ d) (h2 : b ≠ c) (h : H b = some o) : H' b = some o := by
  have := e b o ((off_get h1 h2).trans h)
  rw [off_get h1 h2] at this
  exact this
/-- of H' what H had not -/
def news (H H' : Hp) : Hp := fun b => if (H b).isSome = true then none else H' b
theorem news_get {H H' : Hp} {b : Addr} {o : HO} : news H H' b = some o ↔ H b = none ∧ H' b = some o := by
  unfold news
  cases h : H b with
  | none => simp
  | some u => simp
theorem news_same {H H' : Hp} : Same (news H H') H' := fun b o h => (news_get.mp h).2
theorem Ext.sqL {K : PySem.W.Frag} {d c : Addr} {H H' : Hp} {a : Addr} {xs : List V} (e : Ext d c H H') (h : SqL K (off d c H) a xs) : SqL K (off d c H') a xs := Same.seq e h
theorem offL {K : PySem.W.Frag} {d c : Addr} {H : Hp} {a : Addr} {xs : List V} (h : SqL K (off d c H) a xs) : SqL K H a xs := Same.seq off_same h
theorem offD {K : PySem.W.Frag} {d c : Addr} {H : Hp} {v : V} {D : PyData} (h : Dp K (off d c H) v D) : Dp K H v D := dp_mono off_same D v h
theorem Ext.dp {K : PySem.W.Frag} {d c : Addr} {H H' : Hp} {v : V} {D : PyData} (e : Ext d c H H') (h : Dp K (off d c H) v D) : Dp K (off d c H') v D := dp_mono e D v h
theorem tyes {σ : L2.St} {H : Hp} {A B : Hp → Prop} (h : A H) : tYes σ H fun b H3 => if b = true then A H3 else B H3 := by
  show if true = true then A H else B H
  exact iteT h
/-! ### texts -/
abbrev cp (z : Str) : List Nat := z.cps.toList
theorem cp_len (z : Str) : (cp z).length = z.length := by unfold cp; simp [Str.length]
theorem cp_app (a b : Str) : cp (a ++ b) = cp a ++ cp b := by
  unfold cp
  rw [Str.cps_append, Array.toList_append]
theorem cp_ext {a b : Str} (h : cp a = cp b) : a = b := Str.ext' (Array.toList_inj.mp h)
structure OkS (m : Nat) (z : Str) : Prop where
  len : z.length ≤ m
  cps : ∀ c ∈ cp z, c < 128
theorem OkS.up {m n : Nat} {z : Str} (h : OkS m z) (hn : m ≤ n) : OkS n z := ⟨Nat.le_trans h.len hn, h.cps⟩
theorem OkS.app {m n : Nat} {a b : Str} (h : OkS m a) (g : OkS n b) : OkS (m + n) (a ++ b) := by
  refine ⟨?_, fun c hc => ?_⟩
  · rw [Str.length_append]
    have := h.len
    have := g.len
    omega
  · rw [cp_app] at hc
    rcases List.mem_append.mp hc with q | q
    · exact h.cps c q
    · exact g.cps c q
theorem OkS.cut {m : Nat} {z : Str} (h : OkS m z) (lo hi : Option Int) : OkS m (cutS z lo hi) := by
  have e : cp (cutS z lo hi) = ((cp z).drop (HT.sIx z.length 0 lo)).take (HT.sIx z.length z.length hi - HT.sIx z.length 0 lo) := by
    unfold cutS cp
    simp
  refine ⟨?_, fun c hc => ?_⟩
  · rw [← cp_len, e, List.length_take, List.length_drop, cp_len]
    have := h.len
    omega
  · rw [e] at hc
    exact h.cps c (List.mem_of_mem_drop (List.mem_of_mem_take hc))
theorem OkS.one {c : Nat} (h : c < 128) : OkS 1 ⟨#[c]⟩ := ⟨by simp [Str.length], fun x hx => by simp [cp] at hx; omega⟩
theorem OkS.repr {m : Nat} {z : Str} (h : OkS m z) : (reprText z).length ≤ 10 * m + 2 := by
  have h1 := StrLaws.reprText_len z (fun c hc => Nat.lt_of_lt_of_le (h.cps c hc) (by decide))
  have := h.len
  omega
theorem cp_join0 : ∀ l : List Str, cp (Str.join "" l) = (l.map cp).flatten
  | [] => rfl
  | [x] => by
    show cp x = _
    simp
  | x :: y :: r => by
    show cp (x ++ "" ++ Str.join "" (y :: r)) = _
    rw [cp_app, cp_app, cp_join0 (y :: r)]
    have e : cp ("" : Str) = [] := rfl
    rw [e]
    simp
theorem cp_joinT (l : List Str) : cp (Txt.join "" l) = (l.map cp).flatten := by
  rw [eq_of_beq (join_plain_closes "" l)]
  exact cp_join0 l
end HG

set_option maxHeartbeats 4000000
/-! HH: a head's facts by a Hook with one more Bool; written dicts with text keys; written tuples. -/
namespace HG
open PySem PySem.Spec PyProof.Rows L2

/-! ### the Hook -/
abbrev AlB : Type := He.AlT × Bool
def obsB (fa : List He.Fa) (fn : List He.DefD) (ts : List He.Tab) (bx : PySem.W.Frag → Bool) (K : PySem.W.Frag) : AlB := (He.obsT fa fn ts K, bx K)
def obsBG (n : Nat) (fa : List He.Fa) (fn : List He.DefD) (ts : List He.Tab) (bx : PySem.W.Frag → Bool) (g : Addr → Option Obj) : AlB := obsB fa fn ts bx (He.frG g (He.asD g n))
def SaysB (fa : List He.Fa) (fn : List He.DefD) (ts : List He.Tab) (bx : PySem.W.Frag → Bool) (w : World) (K : PySem.W.Frag) : Prop := obsB fa fn ts bx K = (He.valT fn ts w, true)
def hookB (n : Nat) (fa : List He.Fa) (fn : List He.DefD) (ts : List He.Tab) (bx : PySem.W.Frag → Bool) : PySem.W.Hook where
  α := AlB
  obs := fun s => obsBG n fa fn ts bx s.heap.get?
  val := fun w => (He.valT fn ts w, true)
  says := fun w h => ∃ K : PySem.W.Frag, K.In h ∧ SaysB fa fn ts bx w K
  of := fun _ _ e => ⟨_, He.frG_in, e⟩
  keeps := fun _ _ _ ⟨K, hK, c⟩ k => ⟨K, PySem.W.Frag.In.keeps hK k, c⟩
theorem obsBG_eq {n : Nat} {fa : List He.Fa} {fn : List He.DefD} {ts : List He.Tab} {bx : PySem.W.Frag → Bool} {g : Addr → Option Obj} {s : Shared} (h : ∀ a, g a = s.heap.get? a) :
    obsBG n fa fn ts bx g = (hookB n fa fn ts bx).obs s := by
  have e : g = s.heap.get? := funext h
  rw [e]
  rfl
section
variable {fa : List He.Fa} {fn : List He.DefD} {ts : List He.Tab} {bx : PySem.W.Frag → Bool} {w : World} {K : PySem.W.Frag}
theorem SaysB.t (c : SaysB fa fn ts bx w K) : He.SaysT fa fn ts w K := congrArg (fun z : AlB => z.1) c
theorem SaysB.d (c : SaysB fa fn ts bx w K) : He.SaysD fa fn K := c.t.d
theorem SaysB.b (c : SaysB fa fn ts bx w K) : bx K = true := congrArg (fun z : AlB => z.2) c
end

/-! ### a written dict with text keys -/
structure KTab (K : PySem.W.Frag) (w : World) (a : Addr) (kvs : List (Str × V)) : Prop where
  dict : ∃ es n, KDict K w a es n
  hit : ∀ q ∈ kvs, ∃ u, PySem.W.nsIn K a q.1 = some (some u) ∧ RelV q.2 u
  miss : ∀ z : Str, z ∉ kvs.map (·.1) → PySem.W.nsIn K a z = some none
theorem keys_mem {P : Params} : ∀ {l : List DictEntry} {ks : List Str}, l.map He.keyOf = He.keysIn P ks → ∀ e ∈ l, ∃ x t, e.key = .str x t ∧ x ∈ ks
  | [], _, _, e, he => nomatch he
  | e :: r, [], h, _, _ => by cases h
  | e :: r, k :: ks, h, d, hd => by
    have h1 : He.keyOf e :: r.map He.keyOf = some (k, PyData.keyHash P k) :: He.keysIn P ks := h
    injection h1 with h2 h3
    rcases List.mem_cons.mp hd with rfl | hd
    · unfold He.keyOf at h2
      split at h2
      · rename_i x t q
        have h4 := Option.some.inj h2
        obtain ⟨h5, h6⟩ := Prod.mk.inj h4
        exact ⟨x, t, q, by rw [h5]; exact List.mem_cons_self⟩
      · cases h2
    · obtain ⟨x, t, q, hx⟩ := keys_mem h3 d hd
      exact ⟨x, t, q, List.mem_cons_of_mem _ hx⟩
theorem ns_miss {K : PySem.W.Frag} {P : Params} {a : Addr} {ks : List Str} (h : He.dicW K a = some (He.keysIn P ks)) {z : Str} (hz : z ∉ ks) : PySem.W.nsIn K a z = some none := by
  unfold He.dicW at h
  cases q : K.lookup a with
  | none =>
    rw [q] at h
    cases h
  | some o =>
    obtain ⟨oc, od, dt, osl⟩ := o
    rw [q] at h
    cases oc with
    | type c =>
      cases od with
      | none =>
        cases dt with
        | dict es n =>
          have h1 : (match decide (c = "dict") && (osl.isEmpty && !(a == sysModules)) with
            | true => some (es.toList.map He.keyOf)
            | false => none) = some (He.keysIn P ks) := h
          have h2 : es.toList.map He.keyOf = He.keysIn P ks := by
            cases y : decide (c = "dict") && (osl.isEmpty && !(a == sysModules)) with
            | false =>
              rw [y] at h1
              cases h1
            | true =>
              rw [y] at h1
              exact Option.some.inj h1
          have hk := keys_mem h2
          unfold PySem.W.nsIn
          rw [q]
          have e1 : es.toList.find? (·.key.isStr z) = none := by
            rw [List.find?_eq_none]
            intro e he
            obtain ⟨x, t, ex, hx⟩ := hk e he
            rw [ex]
            show ¬ (Value.str x t).isStr z = true
            intro hs
            have : x = z := by
              first
                | exact (beq_iff_eq.mp hs)
                | exact of_decide_eq_true hs
                | (simp [Value.isStr] at hs; exact hs)
            exact hz (this ▸ hx)
          have e2 : es.toList.any (·.refKey) = false := by
            rw [List.any_eq_false]
            intro e he
            obtain ⟨x, t, ex, hx⟩ := hk e he
            unfold DictEntry.refKey
            rw [ex]
            simp
          show (match es.toList.find? (·.key.isStr z) with
            | some e => some (some e.val)
            | none => if es.toList.any (·.refKey) then none else some none) = some none
          rw [e1, e2]
          rfl
        | _ => cases h
      | some b => cases dt <;> cases h
    | _ => cases od <;> cases dt <;> cases h
theorem ktab_mk {fa : List He.Fa} {fn : List He.DefD} {ts : List He.Tab} {bx : PySem.W.Frag → Bool} {w : World} {K : PySem.W.Frag} (c : SaysB fa fn ts bx w K) (i : Nat) {t : He.Tab} {kvs : List (Str × He.Dv)}
    (h : ts[i]? = some t) (hk : t.2 = kvs.map (·.1)) (hv : He.valsB K (t.1 K) kvs = true) : KTab K w (t.1 K) (kvs.map fun q => (q.1, q.2.v K)) := by
  have e : ts.map (fun t => He.dicW K (t.1 K)) = ts.map fun t => some (He.keysIn w.params t.2) := congrArg (fun z : He.AlT => z.2) c.t
  have e2 : (ts.map fun t => He.dicW K (t.1 K))[i]? = (ts.map fun t => some (He.keysIn w.params t.2))[i]? := by rw [e]
  rw [List.getElem?_map, List.getElem?_map, h] at e2
  have e3 := Option.some.inj e2
  refine ⟨He.dicW_ok e3, fun q hq => ?_, fun z hz => ns_miss e3 ?_⟩
  · obtain ⟨p, hp, rfl⟩ := List.mem_map.mp hq
    exact He.valsB_ok hv hp
  · rw [hk]
    rw [List.map_map] at hz
    exact hz
def tabGet (kvs : List (Str × V)) (z : Str) : Option V := (kvs.find? fun q => decide (q.1 = z)).map (·.2)
section
variable {X : Cx} {a : Addr} {kvs : List (Str × V)}
theorem ktab_get {K : PySem.W.Frag} {w : World} (T : KTab K w a kvs) (z : Str) : (∃ v u, tabGet kvs z = some v ∧ PySem.W.nsIn K a z = some (some u) ∧ RelV v u) ∨ (tabGet kvs z = none ∧ PySem.W.nsIn K a z = some none) := by
  unfold tabGet
  cases e : kvs.find? fun q => decide (q.1 = z) with
  | none =>
    refine .inr ⟨rfl, T.miss z fun hz => ?_⟩
    obtain ⟨q, hq, rfl⟩ := List.mem_map.mp hz
    have := List.find?_eq_none.mp e q hq
    simp at this
  | some q =>
    have h1 : q.1 = z := by simpa using List.find?_some e
    obtain ⟨u, h2, h3⟩ := T.hit q (List.mem_of_find?_eq_some e)
    rw [h1] at h2
    exact .inl ⟨q.2, u, rfl, h2, h3⟩
/-- z in TABLE -/
theorem op_in_tab (T : KTab X.K X.w a kvs) : OpR X (compareOp .In) (fun x y H Q => ∃ z : Str, x = .str z ∧ y = .ref a ∧ Q (.bl (tabGet kvs z).isSome) H) := by
  obtain ⟨es, n, D⟩ := T.dict
  intro pins s σ H x y v u Q I rx ry h
  obtain ⟨z, rfl, rfl, q⟩ := h
  rcases ktab_get T z with ⟨v0, u0, e1, e2, _⟩ | ⟨e1, e2⟩
  · rw [e1] at q
    exact op_in_kd D pins s σ H _ _ v u Q I rx ry ⟨z, _, rfl, rfl, e2, q⟩
  · rw [e1] at q
    exact op_in_kd D pins s σ H _ _ v u Q I rx ry ⟨z, _, rfl, rfl, e2, q⟩
theorem op_notIn_tab (T : KTab X.K X.w a kvs) : OpR X (compareOp .NotIn) (fun x y H Q => ∃ z : Str, x = .str z ∧ y = .ref a ∧ Q (.bl (!(tabGet kvs z).isSome)) H) := by
  obtain ⟨es, n, D⟩ := T.dict
  intro pins s σ H x y v u Q I rx ry h
  obtain ⟨z, rfl, rfl, q⟩ := h
  rcases ktab_get T z with ⟨v0, u0, e1, e2, _⟩ | ⟨e1, e2⟩
  · rw [e1] at q
    exact op_notIn_kd D pins s σ H _ _ v u Q I rx ry ⟨z, _, rfl, rfl, e2, q⟩
  · rw [e1] at q
    exact op_notIn_kd D pins s σ H _ _ v u Q I rx ry ⟨z, _, rfl, rfl, e2, q⟩
/-- TABLE[z] -/
theorem ix_tab (T : KTab X.K X.w a kvs) : IxR X (fun x y H Q => ∃ (z : Str) (v : V), x = .ref a ∧ y = .str z ∧ tabGet kvs z = some v ∧ Q v H) := by
  intro value slice pins s σ H x y v u Q I rx ry h hs
  obtain ⟨z, v1, rfl, rfl, e, q⟩ := h
  obtain ⟨es, n, D⟩ := T.dict
  rcases ktab_get T z with ⟨v0, u0, e1, e2, e3⟩ | ⟨e1, e2⟩
  · rw [e] at e1
    cases e1
    exact ix_kdict value slice pins s σ H _ _ v u Q I rx ry ⟨a, z, v1, rfl, rfl, ⟨es, n, u0, D.at_, D.lit, e2, e3⟩, q⟩ hs
  · rw [e] at e1
    cases e1
end

/-! ### a written tuple of plain things -/
def tupB (K : PySem.W.Frag) (x : Str) (ds : List He.Dv) : Bool := match K.lookup (He.ga K x) with
  | some ⟨.type "tuple", _, .seq its _, _⟩ => He.relAll (ds.map (He.Dv.v K)) its.toList && decide (its.size ≤ 1000)
  | _ => false
theorem tupB_ok {K : PySem.W.Frag} {x : Str} {ds : List He.Dv} (h : tupB K x ds = true) (H : Hp) : SqT K H (He.ga K x) (ds.map (He.Dv.v K)) := by
  unfold tupB at h
  split at h
  · rename_i od its n sl q
    obtain ⟨h1, h2⟩ := He.ba h
    exact .inr ⟨_, its, n, q, rfl, rfl, Nat.le_trans (of_decide_eq_true h2) (by decide), He.relAll_ok h1⟩
  · cases h
end HG

set_option maxHeartbeats 0
namespace K51
open PySem PySem.Spec PyProof.Rows L2 HG
def top (i : Nat) : Stmt := PySem.Challenge.pw_wholeapart_k51_slots_by_any_hand.main.body.getD i (.Pass ⟨0, 0, 0, 0⟩)
def dd (x : Str) (i : Nat) : He.DefD := ⟨(x, none), x, x, defArgs (top i), defBody (top i), defScope (top i), [], []⟩
def dm (C m q : Str) (i j : Nat) : He.DefD := ⟨(C, some m), m, q, defArgs (inClass (top i) j), defBody (inClass (top i) j), defScope (inClass (top i) j), [], []⟩
def fn : List He.DefD := [dd "set_by" 2, dd "operands_of" 3, dd "operands_of_end" 4, dd "targets" 5, dd "used_variables" 6, dd "variables_of" 7, dd "variable_count" 8, dd "is_integer" 10, dd "used_before" 12, dd "used_at_end" 13, dd "used_at_beginning" 15, dd "later_uses" 16, dd "apart_by" 17, dd "apart" 18, dd "needed_variables" 19, dd "is_assignment" 20, dd "best_slots" 21, dd "_law_deck" 23, dd "_law_draw" 24, dd "_law_pick" 25, dd "_law_names" 26, dd "_law_world" 27, dd "_law_word" 28, dd "_law_operand" 29, dd "_law_first" 30, dd "_law_other_row" 31, dd "_law_row" 32, dd "_law_end" 33, dd "_law_graph" 34, dd "_law_long" 35, dd "_law_operands" 36, dd "_law_variables" 37, dd "_law_sets" 38, dd "_law_ways" 39, dd "_law_used_at_ends" 40, dd "_law_used_behind" 41, dd "_law_used_before" 42, dd "_law_pairs" 43, dd "_law_occur" 44, dd "_law_is_valid" 45, dd "_law_best" 46, dd "_law_spread" 47, dd "_law_merged" 48, dd "_law_bent" 49, dd "_law_some" 50, dd "_law_right" 51, dd "law" 52]
def fa : List He.Fa := [.free "all", .free "bool", .free "enumerate", .free "int", .free "isinstance", .free "len", .free "list", .free "max", .free "range", .free "repr", .free "reversed", .free "set", .free "sorted", .free "tuple", .free "zip", .glo "set_by", .glo "operands_of", .glo "operands_of_end", .glo "targets", .glo "used_variables", .glo "variables_of", .glo "variable_count", .glo "is_integer", .glo "used_before", .glo "used_at_end", .glo "used_at_beginning", .glo "later_uses", .glo "apart_by", .glo "apart", .glo "needed_variables", .glo "is_assignment", .glo "best_slots", .glo "_law_deck", .glo "_law_draw", .glo "_law_pick", .glo "_law_names", .glo "_law_world", .glo "_law_word", .glo "_law_operand", .glo "_law_first", .glo "_law_other_row", .glo "_law_row", .glo "_law_end", .glo "_law_graph", .glo "_law_long", .glo "_law_operands", .glo "_law_variables", .glo "_law_sets", .glo "_law_ways", .glo "_law_used_at_ends", .glo "_law_used_behind", .glo "_law_used_before", .glo "_law_pairs", .glo "_law_occur", .glo "_law_is_valid", .glo "_law_best", .glo "_law_spread", .glo "_law_merged", .glo "_law_bent", .glo "_law_some", .glo "_law_right", .glo "law", .glo "SETTERS"]
def ts : List He.Tab := []
def bx (K : PySem.W.Frag) : Bool := tupB K "SETTERS" [.str "const", .str "copy", .str "op", .str "load", .str "read", .str "call", .str "apply"] && (true)
abbrev R : PySem.W.OpenRow := PySem.W.OpenLaw.row PySem.Challenge.rw_wholeapart_k51_slots_by_any_hand
abbrev hk : PySem.W.Hook := hookB 5 fa fn ts bx
def ob (s : PySem.W.SharedT) : AlB := obsBG 5 fa fn ts bx (HandSHeadRun.getT s)
theorem ob_eq (s : PySem.W.SharedT) : ob s = hk.obs s.abs := obsBG_eq (HandSHeadRun.getT_eq s)
def loose : List Str := (["SETTERS", "set_by", "operands_of", "operands_of_end", "targets", "used_variables", "variables_of", "variable_count", "is_integer", "used_before", "used_at_end", "used_at_beginning", "later_uses", "apart_by", "apart", "needed_variables", "is_assignment", "best_slots", "_law_deck", "_law_draw", "_law_pick", "_law_names", "_law_world", "_law_word", "_law_operand", "_law_first", "_law_other_row", "_law_row", "_law_end", "_law_graph"] : List Str) ++ (["_law_long", "_law_operands", "_law_variables", "_law_sets", "_law_ways", "_law_used_at_ends", "_law_used_behind", "_law_used_before", "_law_pairs", "_law_occur", "_law_is_valid", "_law_best", "_law_spread", "_law_merged", "_law_bent", "_law_some", "_law_right"] : List Str)
theorem run (w : World) : HandSHeadRun.RunEq R (PySem.W.view R.prog [52]) hk ob 6000 loose w := by
  intro os
  kernel_rfl
abbrev FnP (K : PySem.W.Frag) (x : Str) (st : Stmt) : Prop := ∃ fd, FunD K x x (defArgs st) (defBody st) (defScope st) [] [] (He.ga K x) fd
abbrev s_set_by : Stmt := top 2
abbrev N_set_by : List Str := ["instruction"]
theorem sc_set_by : FnScope N_set_by ["instruction"] (defScope s_set_by) := ⟨rfl, rfl, rfl, by decide +kernel, rfl, by decide +kernel, by decide +kernel⟩
abbrev s_operands_of : Stmt := top 3
abbrev N_operands_of : List Str := ["instruction", "word"]
theorem sc_operands_of : FnScope N_operands_of ["instruction"] (defScope s_operands_of) := ⟨rfl, rfl, rfl, by decide +kernel, rfl, by decide +kernel, by decide +kernel⟩
abbrev s_operands_of_end : Stmt := top 4
abbrev N_operands_of_end : List Str := ["terminator"]
theorem sc_operands_of_end : FnScope N_operands_of_end ["terminator"] (defScope s_operands_of_end) := ⟨rfl, rfl, rfl, by decide +kernel, rfl, by decide +kernel, by decide +kernel⟩
abbrev s_targets : Stmt := top 5
abbrev N_targets : List Str := ["terminator"]
theorem sc_targets : FnScope N_targets ["terminator"] (defScope s_targets) := ⟨rfl, rfl, rfl, by decide +kernel, rfl, by decide +kernel, by decide +kernel⟩
abbrev s_used_variables : Stmt := top 6
abbrev N_used_variables : List Str := ["operands", "operand"]
theorem sc_used_variables : FnScope N_used_variables ["operands"] (defScope s_used_variables) := ⟨rfl, rfl, rfl, by decide +kernel, rfl, by decide +kernel, by decide +kernel⟩
abbrev s_variables_of : Stmt := top 7
abbrev N_variables_of : List Str := ["graph", "found", "instructions", "terminator", "instruction", "variable"]
theorem sc_variables_of : FnScope N_variables_of ["graph"] (defScope s_variables_of) := ⟨rfl, rfl, rfl, by decide +kernel, rfl, by decide +kernel, by decide +kernel⟩
abbrev s_variable_count : Stmt := top 8
abbrev N_variable_count : List Str := ["graph"]
theorem sc_variable_count : FnScope N_variable_count ["graph"] (defScope s_variable_count) := ⟨rfl, rfl, rfl, by decide +kernel, rfl, by decide +kernel, by decide +kernel⟩
abbrev s_is_integer : Stmt := top 10
abbrev N_is_integer : List Str := ["thing"]
theorem sc_is_integer : FnScope N_is_integer ["thing"] (defScope s_is_integer) := ⟨rfl, rfl, rfl, by decide +kernel, rfl, by decide +kernel, by decide +kernel⟩
abbrev s_used_before : Stmt := top 12
abbrev N_used_before : List Str := ["instruction", "used", "others", "v"]
theorem sc_used_before : FnScope N_used_before ["instruction", "used"] (defScope s_used_before) := ⟨rfl, rfl, rfl, by decide +kernel, rfl, by decide +kernel, by decide +kernel⟩
abbrev s_used_at_end : Stmt := top 13
abbrev N_used_at_end : List Str := ["block", "claims", "found", "target"]
theorem sc_used_at_end : FnScope N_used_at_end ["block", "claims"] (defScope s_used_at_end) := ⟨rfl, rfl, rfl, by decide +kernel, rfl, by decide +kernel, by decide +kernel⟩
abbrev s_used_at_beginning : Stmt := top 15
abbrev N_used_at_beginning : List Str := ["block", "claims", "used", "instruction"]
theorem sc_used_at_beginning : FnScope N_used_at_beginning ["block", "claims"] (defScope s_used_at_beginning) := ⟨rfl, rfl, rfl, by decide +kernel, rfl, by decide +kernel, by decide +kernel⟩
abbrev s_later_uses : Stmt := top 16
abbrev N_later_uses : List Str := ["graph", "blocks", "claims", "changed", "number", "found"]
theorem sc_later_uses : FnScope N_later_uses ["graph"] (defScope s_later_uses) := ⟨rfl, rfl, rfl, by decide +kernel, rfl, by decide +kernel, by decide +kernel⟩
abbrev s_apart_by : Stmt := top 17
abbrev N_apart_by : List Str := ["instruction", "used", "free", "v"]
theorem sc_apart_by : FnScope N_apart_by ["instruction", "used"] (defScope s_apart_by) := ⟨rfl, rfl, rfl, by decide +kernel, rfl, by decide +kernel, by decide +kernel⟩
abbrev s_apart : Stmt := top 18
abbrev N_apart : List Str := ["graph", "claims", "pairs", "block", "used", "instruction", "v", "w"]
theorem sc_apart : FnScope N_apart ["graph"] (defScope s_apart) := ⟨rfl, rfl, rfl, by decide +kernel, rfl, by decide +kernel, by decide +kernel⟩
abbrev s_needed_variables : Stmt := top 19
abbrev N_needed_variables : List Str := ["graph", "kept", "v"]
theorem sc_needed_variables : FnScope N_needed_variables ["graph", "kept"] (defScope s_needed_variables) := ⟨rfl, rfl, rfl, by decide +kernel, rfl, by decide +kernel, by decide +kernel⟩
abbrev s_is_assignment : Stmt := top 20
abbrev N_is_assignment : List Str := ["graph", "kept", "thing", "needed", "v", "slot", "own", "w"]
theorem sc_is_assignment : FnScope N_is_assignment ["graph", "kept", "thing"] (defScope s_is_assignment) := ⟨rfl, rfl, rfl, by decide +kernel, rfl, by decide +kernel, by decide +kernel⟩
abbrev s_best_slots : Stmt := top 21
abbrev N_best_slots : List Str := ["graph", "kept", "pairs", "slots", "v", "others", "taken", "slot", "one", "w"]
theorem sc_best_slots : FnScope N_best_slots ["graph", "kept"] (defScope s_best_slots) := ⟨rfl, rfl, rfl, by decide +kernel, rfl, by decide +kernel, by decide +kernel⟩
abbrev s__law_deck : Stmt := top 23
abbrev N__law_deck : List Str := ["_law_script", "_law_cells", "_law_total", "_law_cell"]
theorem sc__law_deck : FnScope N__law_deck ["_law_script"] (defScope s__law_deck) := ⟨rfl, rfl, rfl, by decide +kernel, rfl, by decide +kernel, by decide +kernel⟩
abbrev s__law_draw : Stmt := top 24
abbrev N__law_draw : List Str := ["_law_deck_here", "_law_many", "_law_turn", "_law_cell", "_law_mixed"]
theorem sc__law_draw : FnScope N__law_draw ["_law_deck_here", "_law_many"] (defScope s__law_draw) := ⟨rfl, rfl, rfl, by decide +kernel, rfl, by decide +kernel, by decide +kernel⟩
abbrev s__law_pick : Stmt := top 25
abbrev N__law_pick : List Str := ["_law_deck_here", "_law_some_here"]
theorem sc__law_pick : FnScope N__law_pick ["_law_deck_here", "_law_some_here"] (defScope s__law_pick) := ⟨rfl, rfl, rfl, by decide +kernel, rfl, by decide +kernel, by decide +kernel⟩
abbrev s__law_names : Stmt := top 26
abbrev N__law_names : List Str := ["_law_deck_here", "_law_many", "_law_words", "_law_found", "_law_k", "_law_word_here"]
theorem sc__law_names : FnScope N__law_names ["_law_deck_here", "_law_many"] (defScope s__law_names) := ⟨rfl, rfl, rfl, by decide +kernel, rfl, by decide +kernel, by decide +kernel⟩
abbrev s__law_world : Stmt := top 27
abbrev N__law_world : List Str := ["_law_deck_here", "_law_w", "_law_some_here", "_law_lengths"]
theorem sc__law_world : FnScope N__law_world ["_law_deck_here"] (defScope s__law_world) := ⟨rfl, rfl, rfl, by decide +kernel, rfl, by decide +kernel, by decide +kernel⟩
abbrev s__law_word : Stmt := top 28
abbrev N__law_word : List Str := ["_law_deck_here"]
theorem sc__law_word : FnScope N__law_word ["_law_deck_here"] (defScope s__law_word) := ⟨rfl, rfl, rfl, by decide +kernel, rfl, by decide +kernel, by decide +kernel⟩
abbrev s__law_operand : Stmt := top 29
abbrev N__law_operand : List Str := ["_law_deck_here", "_law_kit"]
theorem sc__law_operand : FnScope N__law_operand ["_law_deck_here", "_law_kit"] (defScope s__law_operand) := ⟨rfl, rfl, rfl, by decide +kernel, rfl, by decide +kernel, by decide +kernel⟩
abbrev s__law_first : Stmt := top 30
abbrev N__law_first : List Str := ["_law_deck_here", "_law_world_here", "_law_kit", "_law_rows", "_law_v"]
theorem sc__law_first : FnScope N__law_first ["_law_deck_here", "_law_world_here", "_law_kit"] (defScope s__law_first) := ⟨rfl, rfl, rfl, by decide +kernel, rfl, by decide +kernel, by decide +kernel⟩
abbrev s__law_other_row : Stmt := top 31
abbrev N__law_other_row : List Str := ["_law_deck_here", "_law_world_here", "_law_kit", "_law_one", "_law_two", "_law_way", "_law_f", "_law_g", "_law_some_here"]
theorem sc__law_other_row : FnScope N__law_other_row ["_law_deck_here", "_law_world_here", "_law_kit", "_law_one", "_law_two"] (defScope s__law_other_row) := ⟨rfl, rfl, rfl, by decide +kernel, rfl, by decide +kernel, by decide +kernel⟩
abbrev s__law_row : Stmt := top 32
abbrev N__law_row : List Str := ["_law_deck_here", "_law_world_here", "_law_kit", "_law_way", "_law_one", "_law_two", "_law_v", "_law_f", "_law_row_here", "_law_name", "_law_size"]
theorem sc__law_row : FnScope N__law_row ["_law_deck_here", "_law_world_here", "_law_kit"] (defScope s__law_row) := ⟨rfl, rfl, rfl, by decide +kernel, rfl, by decide +kernel, by decide +kernel⟩
abbrev s__law_end : Stmt := top 33
abbrev N__law_end : List Str := ["_law_deck_here", "_law_kit", "_law_many", "_law_way", "_law_one", "_law_some_here"]
theorem sc__law_end : FnScope N__law_end ["_law_deck_here", "_law_kit", "_law_many"] (defScope s__law_end) := ⟨rfl, rfl, rfl, by decide +kernel, rfl, by decide +kernel, by decide +kernel⟩
abbrev s__law_graph : Stmt := top 34
abbrev N__law_graph : List Str := ["_law_deck_here", "_law_world_here", "_law_most", "_law_count", "_law_kit", "_law_many", "_law_blocks", "_law_number", "_law_rows", "_law_k"]
theorem sc__law_graph : FnScope N__law_graph ["_law_deck_here", "_law_world_here", "_law_most"] (defScope s__law_graph) := ⟨rfl, rfl, rfl, by decide +kernel, rfl, by decide +kernel, by decide +kernel⟩
abbrev s__law_long : Stmt := top 35
abbrev N__law_long : List Str := ["_law_deck_here", "_law_world_here", "_law_kit", "_law_rows", "_law_blocks", "_law_k", "_law_at", "_law_end_here"]
theorem sc__law_long : FnScope N__law_long ["_law_deck_here", "_law_world_here"] (defScope s__law_long) := ⟨rfl, rfl, rfl, by decide +kernel, rfl, by decide +kernel, by decide +kernel⟩
abbrev s__law_operands : Stmt := top 36
abbrev N__law_operands : List Str := ["_law_row_here", "_law_word_here", "_law_first_here"]
theorem sc__law_operands : FnScope N__law_operands ["_law_row_here"] (defScope s__law_operands) := ⟨rfl, rfl, rfl, by decide +kernel, rfl, by decide +kernel, by decide +kernel⟩
abbrev s__law_variables : Stmt := top 37
abbrev N__law_variables : List Str := ["_law_row_here", "_law_one"]
theorem sc__law_variables : FnScope N__law_variables ["_law_row_here"] (defScope s__law_variables) := ⟨rfl, rfl, rfl, by decide +kernel, rfl, by decide +kernel, by decide +kernel⟩
abbrev s__law_sets : Stmt := top 38
abbrev N__law_sets : List Str := ["_law_row_here"]
theorem sc__law_sets : FnScope N__law_sets ["_law_row_here"] (defScope s__law_sets) := ⟨rfl, rfl, rfl, by decide +kernel, rfl, by decide +kernel, by decide +kernel⟩
abbrev s__law_ways : Stmt := top 39
abbrev N__law_ways : List Str := ["_law_end_here"]
theorem sc__law_ways : FnScope N__law_ways ["_law_end_here"] (defScope s__law_ways) := ⟨rfl, rfl, rfl, by decide +kernel, rfl, by decide +kernel, by decide +kernel⟩
abbrev s__law_used_at_ends : Stmt := top 40
abbrev N__law_used_at_ends : List Str := ["_law_shape", "_law_starts", "_law_before", "_law_rows", "_law_end_here", "_law_used", "_law_row_here", "_law_block"]
theorem sc__law_used_at_ends : FnScope N__law_used_at_ends ["_law_shape"] (defScope s__law_used_at_ends) := ⟨rfl, rfl, rfl, by decide +kernel, rfl, by decide +kernel, by decide +kernel⟩
abbrev s__law_used_behind : Stmt := top 41
abbrev N__law_used_behind : List Str := ["_law_end_here", "_law_starts", "_law_used", "_law_way"]
theorem sc__law_used_behind : FnScope N__law_used_behind ["_law_end_here", "_law_starts"] (defScope s__law_used_behind) := ⟨rfl, rfl, rfl, by decide +kernel, rfl, by decide +kernel, by decide +kernel⟩
abbrev s__law_used_before : Stmt := top 42
abbrev N__law_used_before : List Str := ["_law_row_here", "_law_used", "_law_v"]
theorem sc__law_used_before : FnScope N__law_used_before ["_law_row_here", "_law_used"] (defScope s__law_used_before) := ⟨rfl, rfl, rfl, by decide +kernel, rfl, by decide +kernel, by decide +kernel⟩
abbrev s__law_pairs : Stmt := top 43
abbrev N__law_pairs : List Str := ["_law_shape", "_law_found", "_law_block", "_law_used", "_law_row_here", "_law_v", "_law_free", "_law_w"]
theorem sc__law_pairs : FnScope N__law_pairs ["_law_shape"] (defScope s__law_pairs) := ⟨rfl, rfl, rfl, by decide +kernel, rfl, by decide +kernel, by decide +kernel⟩
abbrev s__law_occur : Stmt := top 44
abbrev N__law_occur : List Str := ["_law_shape", "_law_found", "_law_rows", "_law_end_here", "_law_row_here", "_law_v"]
theorem sc__law_occur : FnScope N__law_occur ["_law_shape"] (defScope s__law_occur) := ⟨rfl, rfl, rfl, by decide +kernel, rfl, by decide +kernel, by decide +kernel⟩
abbrev s__law_is_valid : Stmt := top 45
abbrev N__law_is_valid : List Str := ["_law_shape", "_law_held", "_law_pairs_here", "_law_thing", "_law_occur_here", "_law_many", "_law_v", "_law_slot", "_law_is_slot", "_law_own", "_law_both", "_law_w"]
theorem sc__law_is_valid : FnScope N__law_is_valid ["_law_shape", "_law_held", "_law_pairs_here", "_law_thing"] (defScope s__law_is_valid) := ⟨rfl, rfl, rfl, by decide +kernel, rfl, by decide +kernel, by decide +kernel⟩
abbrev s__law_best : Stmt := top 46
abbrev N__law_best : List Str := ["_law_shape", "_law_held", "_law_pairs_here", "_law_occur_here", "_law_many", "_law_found", "_law_v", "_law_others", "_law_taken", "_law_one", "_law_w", "_law_slot"]
theorem sc__law_best : FnScope N__law_best ["_law_shape", "_law_held", "_law_pairs_here"] (defScope s__law_best) := ⟨rfl, rfl, rfl, by decide +kernel, rfl, by decide +kernel, by decide +kernel⟩
abbrev s__law_spread : Stmt := top 47
abbrev N__law_spread : List Str := ["_law_deck_here", "_law_shape", "_law_held", "_law_occur_here", "_law_many", "_law_step", "_law_first_here", "_law_v"]
theorem sc__law_spread : FnScope N__law_spread ["_law_deck_here", "_law_shape", "_law_held"] (defScope s__law_spread) := ⟨rfl, rfl, rfl, by decide +kernel, rfl, by decide +kernel, by decide +kernel⟩
abbrev s__law_merged : Stmt := top 48
abbrev N__law_merged : List Str := ["_law_deck_here", "_law_shape", "_law_held", "_law_slots", "_law_pairs_here", "_law_occur_here", "_law_turn", "_law_v", "_law_w", "_law_other"]
theorem sc__law_merged : FnScope N__law_merged ["_law_deck_here", "_law_shape", "_law_held", "_law_slots", "_law_pairs_here"] (defScope s__law_merged) := ⟨rfl, rfl, rfl, by decide +kernel, rfl, by decide +kernel, by decide +kernel⟩
abbrev s__law_bent : Stmt := top 49
abbrev N__law_bent : List Str := ["_law_deck_here", "_law_slots", "_law_at", "_law_way", "_law_odd", "_law_some_here"]
theorem sc__law_bent : FnScope N__law_bent ["_law_deck_here", "_law_slots"] (defScope s__law_bent) := ⟨rfl, rfl, rfl, by decide +kernel, rfl, by decide +kernel, by decide +kernel⟩
abbrev s__law_some : Stmt := top 50
abbrev N__law_some : List Str := ["_law_deck_here", "_law_shape", "_law_held", "_law_pairs_here", "_law_spread_here", "_law_found", "_law_turn", "_law_careful", "_law_anyway"]
theorem sc__law_some : FnScope N__law_some ["_law_deck_here", "_law_shape", "_law_held", "_law_pairs_here"] (defScope s__law_some) := ⟨rfl, rfl, rfl, by decide +kernel, rfl, by decide +kernel, by decide +kernel⟩
abbrev s__law_right : Stmt := top 51
abbrev N__law_right : List Str := ["_law_deck_here", "_law_shape", "_law_held", "_law_pairs_here", "_law_shown", "_law_due", "_law_told", "_law_thing", "_law_found", "_law_one"]
theorem sc__law_right : FnScope N__law_right ["_law_deck_here", "_law_shape", "_law_held"] (defScope s__law_right) := ⟨rfl, rfl, rfl, by decide +kernel, rfl, by decide +kernel, by decide +kernel⟩
abbrev s_law : Stmt := top 52
abbrev N_law : List Str := ["_law_script", "_law_deck_here", "_law_turn", "_law_world_here", "_law_shape", "_law_held", "_law_k"]
theorem sc_law : FnScope N_law ["_law_script"] (defScope s_law) := ⟨rfl, rfl, rfl, by decide +kernel, rfl, by decide +kernel, by decide +kernel⟩
def gnames : List Str := (["set_by", "operands_of", "operands_of_end", "targets", "used_variables", "variables_of", "variable_count", "is_integer", "used_before", "used_at_end", "used_at_beginning", "later_uses", "apart_by", "apart", "needed_variables", "is_assignment", "best_slots", "_law_deck", "_law_draw", "_law_pick", "_law_names", "_law_world", "_law_word", "_law_operand", "_law_first", "_law_other_row", "_law_row", "_law_end", "_law_graph", "_law_long"] : List Str) ++ (["_law_operands", "_law_variables", "_law_sets", "_law_ways", "_law_used_at_ends", "_law_used_behind", "_law_used_before", "_law_pairs", "_law_occur", "_law_is_valid", "_law_best", "_law_spread", "_law_merged", "_law_bent", "_law_some", "_law_right", "law", "SETTERS"] : List Str)
structure Txt (w : World) (K : PySem.W.Frag) (mg : Str → Option Value) : Prop where
  d_set_by : FnP K "set_by" s_set_by
  d_operands_of : FnP K "operands_of" s_operands_of
  d_operands_of_end : FnP K "operands_of_end" s_operands_of_end
  d_targets : FnP K "targets" s_targets
  d_used_variables : FnP K "used_variables" s_used_variables
  d_variables_of : FnP K "variables_of" s_variables_of
  d_variable_count : FnP K "variable_count" s_variable_count
  d_is_integer : FnP K "is_integer" s_is_integer
  d_used_before : FnP K "used_before" s_used_before
  d_used_at_end : FnP K "used_at_end" s_used_at_end
  d_used_at_beginning : FnP K "used_at_beginning" s_used_at_beginning
  d_later_uses : FnP K "later_uses" s_later_uses
  d_apart_by : FnP K "apart_by" s_apart_by
  d_apart : FnP K "apart" s_apart
  d_needed_variables : FnP K "needed_variables" s_needed_variables
  d_is_assignment : FnP K "is_assignment" s_is_assignment
  d_best_slots : FnP K "best_slots" s_best_slots
  d__law_deck : FnP K "_law_deck" s__law_deck
  d__law_draw : FnP K "_law_draw" s__law_draw
  d__law_pick : FnP K "_law_pick" s__law_pick
  d__law_names : FnP K "_law_names" s__law_names
  d__law_world : FnP K "_law_world" s__law_world
  d__law_word : FnP K "_law_word" s__law_word
  d__law_operand : FnP K "_law_operand" s__law_operand
  d__law_first : FnP K "_law_first" s__law_first
  d__law_other_row : FnP K "_law_other_row" s__law_other_row
  d__law_row : FnP K "_law_row" s__law_row
  d__law_end : FnP K "_law_end" s__law_end
  d__law_graph : FnP K "_law_graph" s__law_graph
  d__law_long : FnP K "_law_long" s__law_long
  d__law_operands : FnP K "_law_operands" s__law_operands
  d__law_variables : FnP K "_law_variables" s__law_variables
  d__law_sets : FnP K "_law_sets" s__law_sets
  d__law_ways : FnP K "_law_ways" s__law_ways
  d__law_used_at_ends : FnP K "_law_used_at_ends" s__law_used_at_ends
  d__law_used_behind : FnP K "_law_used_behind" s__law_used_behind
  d__law_used_before : FnP K "_law_used_before" s__law_used_before
  d__law_pairs : FnP K "_law_pairs" s__law_pairs
  d__law_occur : FnP K "_law_occur" s__law_occur
  d__law_is_valid : FnP K "_law_is_valid" s__law_is_valid
  d__law_best : FnP K "_law_best" s__law_best
  d__law_spread : FnP K "_law_spread" s__law_spread
  d__law_merged : FnP K "_law_merged" s__law_merged
  d__law_bent : FnP K "_law_bent" s__law_bent
  d__law_some : FnP K "_law_some" s__law_some
  d__law_right : FnP K "_law_right" s__law_right
  d_law : FnP K "law" s_law
  u_SETTERS : ∀ H, SqT K H (He.ga K "SETTERS") [.str "const", .str "copy", .str "op", .str "load", .str "read", .str "call", .str "apply"]
  n_all : mg "all" = none
  n_bool : mg "bool" = none
  n_enumerate : mg "enumerate" = none
  n_int : mg "int" = none
  n_isinstance : mg "isinstance" = none
  n_len : mg "len" = none
  n_list : mg "list" = none
  n_max : mg "max" = none
  n_range : mg "range" = none
  n_repr : mg "repr" = none
  n_reversed : mg "reversed" = none
  n_set : mg "set" = none
  n_sorted : mg "sorted" = none
  n_tuple : mg "tuple" = none
  n_zip : mg "zip" = none
  g : ∀ x ∈ gnames, mg x = some (.ref (He.ga K x))
theorem glos {K : PySem.W.Frag} {h : Heap} {mg : Str → Option Value} (X : K.In h) (G : h.Ns mainGlobals mg) : ∀ {l : List Str}, (∀ x ∈ l, (He.Fa.glo x).ok K = true) → ∀ x ∈ l, mg x = some (.ref (He.ga K x)) := fun h x hx => He.glo_ok X G (h x hx)
theorem txt {w : World} {K : PySem.W.Frag} {h : Heap} {mg : Str → Option Value} (X : K.In h) (G : h.Ns mainGlobals mg) (c : SaysB fa fn ts bx w K) : Txt w K mg where
  d_set_by := c.d.def_ 0 (d := dd "set_by" 2) rfl
  d_operands_of := c.d.def_ 1 (d := dd "operands_of" 3) rfl
  d_operands_of_end := c.d.def_ 2 (d := dd "operands_of_end" 4) rfl
  d_targets := c.d.def_ 3 (d := dd "targets" 5) rfl
  d_used_variables := c.d.def_ 4 (d := dd "used_variables" 6) rfl
  d_variables_of := c.d.def_ 5 (d := dd "variables_of" 7) rfl
  d_variable_count := c.d.def_ 6 (d := dd "variable_count" 8) rfl
  d_is_integer := c.d.def_ 7 (d := dd "is_integer" 10) rfl
  d_used_before := c.d.def_ 8 (d := dd "used_before" 12) rfl
  d_used_at_end := c.d.def_ 9 (d := dd "used_at_end" 13) rfl
  d_used_at_beginning := c.d.def_ 10 (d := dd "used_at_beginning" 15) rfl
  d_later_uses := c.d.def_ 11 (d := dd "later_uses" 16) rfl
  d_apart_by := c.d.def_ 12 (d := dd "apart_by" 17) rfl
  d_apart := c.d.def_ 13 (d := dd "apart" 18) rfl
  d_needed_variables := c.d.def_ 14 (d := dd "needed_variables" 19) rfl
  d_is_assignment := c.d.def_ 15 (d := dd "is_assignment" 20) rfl
  d_best_slots := c.d.def_ 16 (d := dd "best_slots" 21) rfl
  d__law_deck := c.d.def_ 17 (d := dd "_law_deck" 23) rfl
  d__law_draw := c.d.def_ 18 (d := dd "_law_draw" 24) rfl
  d__law_pick := c.d.def_ 19 (d := dd "_law_pick" 25) rfl
  d__law_names := c.d.def_ 20 (d := dd "_law_names" 26) rfl
  d__law_world := c.d.def_ 21 (d := dd "_law_world" 27) rfl
  d__law_word := c.d.def_ 22 (d := dd "_law_word" 28) rfl
  d__law_operand := c.d.def_ 23 (d := dd "_law_operand" 29) rfl
  d__law_first := c.d.def_ 24 (d := dd "_law_first" 30) rfl
  d__law_other_row := c.d.def_ 25 (d := dd "_law_other_row" 31) rfl
  d__law_row := c.d.def_ 26 (d := dd "_law_row" 32) rfl
  d__law_end := c.d.def_ 27 (d := dd "_law_end" 33) rfl
  d__law_graph := c.d.def_ 28 (d := dd "_law_graph" 34) rfl
  d__law_long := c.d.def_ 29 (d := dd "_law_long" 35) rfl
  d__law_operands := c.d.def_ 30 (d := dd "_law_operands" 36) rfl
  d__law_variables := c.d.def_ 31 (d := dd "_law_variables" 37) rfl
  d__law_sets := c.d.def_ 32 (d := dd "_law_sets" 38) rfl
  d__law_ways := c.d.def_ 33 (d := dd "_law_ways" 39) rfl
  d__law_used_at_ends := c.d.def_ 34 (d := dd "_law_used_at_ends" 40) rfl
  d__law_used_behind := c.d.def_ 35 (d := dd "_law_used_behind" 41) rfl
  d__law_used_before := c.d.def_ 36 (d := dd "_law_used_before" 42) rfl
  d__law_pairs := c.d.def_ 37 (d := dd "_law_pairs" 43) rfl
  d__law_occur := c.d.def_ 38 (d := dd "_law_occur" 44) rfl
  d__law_is_valid := c.d.def_ 39 (d := dd "_law_is_valid" 45) rfl
  d__law_best := c.d.def_ 40 (d := dd "_law_best" 46) rfl
  d__law_spread := c.d.def_ 41 (d := dd "_law_spread" 47) rfl
  d__law_merged := c.d.def_ 42 (d := dd "_law_merged" 48) rfl
  d__law_bent := c.d.def_ 43 (d := dd "_law_bent" 49) rfl
  d__law_some := c.d.def_ 44 (d := dd "_law_some" 50) rfl
  d__law_right := c.d.def_ 45 (d := dd "_law_right" 51) rfl
  d_law := c.d.def_ 46 (d := dd "law" 52) rfl
  u_SETTERS := fun H => tupB_ok (ds := [.str "const", .str "copy", .str "op", .str "load", .str "read", .str "call", .str "apply"]) (He.ba c.b).1 H
  n_all := He.free_ok X G (c.d.fact 0 (f := .free "all") rfl)
  n_bool := He.free_ok X G (c.d.fact 1 (f := .free "bool") rfl)
  n_enumerate := He.free_ok X G (c.d.fact 2 (f := .free "enumerate") rfl)
  n_int := He.free_ok X G (c.d.fact 3 (f := .free "int") rfl)
  n_isinstance := He.free_ok X G (c.d.fact 4 (f := .free "isinstance") rfl)
  n_len := He.free_ok X G (c.d.fact 5 (f := .free "len") rfl)
  n_list := He.free_ok X G (c.d.fact 6 (f := .free "list") rfl)
  n_max := He.free_ok X G (c.d.fact 7 (f := .free "max") rfl)
  n_range := He.free_ok X G (c.d.fact 8 (f := .free "range") rfl)
  n_repr := He.free_ok X G (c.d.fact 9 (f := .free "repr") rfl)
  n_reversed := He.free_ok X G (c.d.fact 10 (f := .free "reversed") rfl)
  n_set := He.free_ok X G (c.d.fact 11 (f := .free "set") rfl)
  n_sorted := He.free_ok X G (c.d.fact 12 (f := .free "sorted") rfl)
  n_tuple := He.free_ok X G (c.d.fact 13 (f := .free "tuple") rfl)
  n_zip := He.free_ok X G (c.d.fact 14 (f := .free "zip") rfl)
  g := by
    refine glos X G (l := gnames) ?_
    intro x hx
    obtain ⟨i, hi⟩ := List.getElem?_of_mem hx
    have e : fa[15 + i]? = some (He.Fa.glo x) := by
      have : (gnames.map He.Fa.glo)[i]? = some (He.Fa.glo x) := by rw [List.getElem?_map, hi]; rfl
      have h2 : fa.drop 15 = gnames.map He.Fa.glo := rfl
      rw [← h2, List.getElem?_drop] at this
      exact this
    exact c.d.fact (15 + i) e
end K51

set_option maxHeartbeats 4000000
/-! HB: order of tuples of ints and texts, mixed: t < u, sorted of a dict with such keys. -/
namespace HG
open PySem PySem.SeqAt PySem.W PyProof.Rows
/-- the first unequal place is of one kind -/
inductive LexR : List L2.Key → List L2.Key → Bool → Prop
  | nn : LexR [] [] false
  | nc {b : L2.Key} {s : List L2.Key} : LexR [] (b :: s) true
  | cn {a : L2.Key} {r : List L2.Key} : LexR (a :: r) [] false
  | eq {a : L2.Key} {r s : List L2.Key} {z : Bool} : LexR r s z → LexR (a :: r) (a :: s) z
  | ii {i j : Int} {r s : List L2.Key} : i ≠ j → LexR (Sum.inl i :: r) (Sum.inl j :: s) (decide (i < j))
  | ss {x y : Str} {r s : List L2.Key} : x ≠ y → LexR (Sum.inr x :: r) (Sum.inr y :: s) (decide (x.cps.toList < y.cps.toList))
inductive LexV (fin : Bool) : List (Value × Value) → Bool → Prop
  | nil : LexV fin [] fin
  | eq {p q : Value} {r : List (Value × Value)} {z : Bool} : (∀ A s, EqAt A s p q true) → LexV fin r z → LexV fin ((p, q) :: r) z
  | ne {p q : Value} {r : List (Value × Value)} {z : Bool} : (∀ A s, EqAt A s p q false) → (∀ A s, Ob.RcOp .Lt A s p q z) →
      (∀ (prog : Program) (w : World) (A : Around) (E : Value → Shared → Prop) (s : Shared) (f : Bool) (Q : Bool → Shared → Prop), Q z s → wpAny (model prog w) A (PyProof.Rows.oneLt' f p q) Q E s) → LexV fin ((p, q) :: r) z
theorem rcLt_strs (A : Around) (s : Shared) (x : Str) (t : Tok) (y : Str) (u : Tok) : Ob.RcOp .Lt A s (.str x t) (.str y u) (decide (x.cps.toList < y.cps.toList)) := fun _ _ _ _ h => PyProof.Rows.lt_str h
theorem lexV_of {ks ls : List L2.Key} {z : Bool} (h : LexR ks ls z) : ∀ {us ws : List Value}, L2.Vals (ks.map L2.kV) us → L2.Vals (ls.map L2.kV) ws → LexV (decide (us.length < ws.length)) (us.zip ws) z := by
  induction h with
  | nn =>
    intro us ws h1 h2
    cases h1
    cases h2
    exact .nil
  | nc =>
    intro us ws h1 h2
    cases h1
    cases h2 with
    | cons r1 t1 =>
      rename_i w ws
      have e : decide (([] : List Value).length < (w :: ws).length) = true := decide_eq_true (by simp)
      rw [e]
      exact .nil
  | cn =>
    intro us ws h1 h2
    cases h2
    cases h1 with
    | cons _ _ => exact .nil
  | @eq a r s z _ ih =>
    intro us ws h1 h2
    cases h1 with
    | cons r1 t1 =>
      cases h2 with
      | cons r2 t2 =>
        have h3 := ih t1 t2
        rw [List.zip_cons_cons, List.length_cons, List.length_cons]
        have e : ∀ a b : Nat, decide (a + 1 < b + 1) = decide (a < b) := fun a b => by simp
        rw [e]
        refine .eq ?_ h3
        cases a with
        | inl i =>
          obtain ⟨t, rfl⟩ := r1
          obtain ⟨u, rfl⟩ := r2
          intro A s
          have := EqAt.int_int (A := A) (s := s) i t i u
          rw [beq_self_eq_true] at this
          exact this
        | inr x =>
          obtain ⟨t, rfl⟩ := r1
          obtain ⟨u, rfl⟩ := r2
          intro A s
          have := EqAt.str_str (A := A) (s := s) x t x u
          rw [beq_self_eq_true] at this
          exact this
  | @ii i j r s hne =>
    intro us ws h1 h2
    cases h1 with
    | cons r1 t1 =>
      cases h2 with
      | cons r2 t2 =>
        obtain ⟨t, rfl⟩ := r1
        obtain ⟨u, rfl⟩ := r2
        refine .ne (fun A s => ?_) (fun A s => Ob.RcOp.lt_int i j t u) (fun prog w A E s f Q hQ => oneLt_any_int hQ)
        have := EqAt.int_int (A := A) (s := s) i t j u
        rw [show (i == j) = false from by simpa using hne] at this
        exact this
  | @ss x y r s hne =>
    intro us ws h1 h2
    cases h1 with
    | cons r1 t1 =>
      cases h2 with
      | cons r2 t2 =>
        obtain ⟨t, rfl⟩ := r1
        obtain ⟨u, rfl⟩ := r2
        refine .ne (fun A s => ?_) (fun A s => rcLt_strs A s x t y u) (fun prog w A E s f Q hQ => oneLt_any_str hQ)
        have := EqAt.str_str (A := A) (s := s) x t y u
        rw [show (x == y) = false from by simpa using hne] at this
        exact this
section
open PySem.AutoSeq1 (wpAny_loadPart')
open PySem.MeetsSeq PySem.MeetsSeq2 PySem.MeetsSeq3
theorem tuple_ltL (l b : Addr) (xs ys : Array Value) (n n2 : Nat) (dd dd2 : Option Addr) (sl sl2 : Array (Option Value)) (z : Bool) (hz : LexV (decide (xs.size < ys.size)) (xs.toList.zip ys.toList) z) :
    Meets (Builtin.«tuple.__lt__» ⟨[.ref l, .ref b], []⟩)
      (fun _ R s => s.heap.get? l = some ⟨.type "tuple", dd, .seq xs n, sl⟩ ∧ s.heap.get? b = some ⟨.type "tuple", dd2, .seq ys n2, sl2⟩ ∧ R (.ok (.ret (.bool z))) s) :=
  .of_wp fun prog w A R s h => by
    obtain ⟨hp, g, d, tk, os⟩ := s
    obtain ⟨hl, hb, h⟩ := h
    have f2 := AutoSeq1.sub_tuple_tuple
    wp_walk using wpAny_loadPart' hl, wpAny_loadPart' hb, wpAny_forIn_list _ (fun rest b s' => b.1 = none ∧ s' = ⟨hp, g, d, tk, os⟩ ∧ LexV (decide (xs.size < ys.size)) rest z) _
    case turn =>
      rintro ⟨y, x⟩ rest b s' ⟨hb', rfl, hv⟩
      cases hv with
      | eq h1 h2 =>
        refine wpAny_bind (h1 A.in1 _ prog w _ _ ?_)
        wp_walk
        exact ⟨rfl, rfl, h2⟩
      | ne h1 h2 h3 =>
        refine wpAny_bind (h1 A.in1 _ prog w _ _ ?_)
        have hri := h2 A.in1 ⟨hp, g, d, tk, os⟩ prog w
        wp_walk using hri
        exact ⟨_, rfl, by simpa using h⟩
    case fin =>
      rintro ⟨b1, b2⟩ s' ⟨hb', rfl, hv⟩
      simp only at hb'
      subst hb'
      cases hv
      wp_walk
      exact ⟨_, rfl, by simpa [Builtin.Tuple.tupleCompareSizes] using h⟩
    case h => exact ⟨rfl, rfl, hz⟩
end
end HG
namespace HG
open PySem PySem.Spec PyProof.Rows L2
section
variable {X : Cx}
/-- t < u, tuples of ints and texts -/
def rLtK (K : PySem.W.Frag) : R2 := fun x y H Q => ∃ (a b : Addr) (ks ls : List Key) (z : Bool), x = .ref a ∧ y = .ref b ∧ SqT K H a (ks.map kV) ∧ SqT K H b (ls.map kV) ∧ LexR ks ls z ∧ Q (.bl z) H
theorem op_ltK (hu : X.A.units < cLine) : OpR X (compareOp .Lt) (rLtK X.K) := by
  intro pins s σ H x y v u Q I rx ry h
  obtain ⟨a, b, ks, ls, z, rfl, rfl, ha, hb, hz, q⟩ := h
  cases rx
  cases ry
  obtain ⟨us, r1, p1, _⟩ := I.tuple ha
  obtain ⟨ws, r2, p2, _⟩ := I.tuple hb
  obtain ⟨⟨c1, d1, e1, s1⟩, ho1, hc1, n1, hd1⟩ := p1
  obtain ⟨⟨c2, d2, e2, s2⟩, ho2, hc2, n2, hd2⟩ := p2
  dsimp only at hc1 hd1 hc2 hd2
  subst hc1 hd1 hc2 hd2
  have hv := lexV_of hz r1 r2
  have hv' : LexV (decide (us.toArray.size < ws.toArray.size)) (us.toArray.toList.zip ws.toArray.toList) z := by simpa using hv
  exact richCompare_meets_room (op := .Lt) ⟨_, ho1, rfl⟩ ⟨_, ho2, rfl⟩ PySem.F.slot_tuple_lt PySem.F.entry_tuple_lt (PySem.F.args_tuple_lt_2 _ _) (tuple_ltL a b _ _ n1 n2 d1 d2 s1 s2 z hv')
    ⟨ho1, ho2, show Value.bool z ≠ Value.notImplemented ∧ EP X pins σ Q (.bool z) s from ⟨(fun y => nomatch y), ⟨.bl z, H, I, rfl, q⟩⟩⟩ hu
theorem katlex_of {prog : Program} {w : World} {A : Around} {s : Shared} {b fin z : Bool} {Q : Bool → Shared → Prop} {l : List (Value × Value)} (h : LexV fin l z) (hq : Q z s) : ∀ i, PySem.W.KatLex prog w A b fin Q l i s := by
  induction h with
  | nil => intro i; exact PySem.W.kat_nil hq
  | eq h1 _ ih => intro i; exact PySem.W.kat_cons (h1 A s prog w _ _ (PySem.W.kat_yes (ih hq (i + 1))))
  | ne h1 h2 h3 => intro i; exact PySem.W.kat_cons (h1 A s prog w _ _ (PySem.W.kat_no (h3 prog w A _ s _ Q hq)))
theorem kV_inj : ∀ {a b : Key}, kV a = kV b → a = b
  | .inl _, .inl _, h => by cases h; rfl
  | .inr _, .inr _, h => by cases h; rfl
  | .inl _, .inr _, h => by cases h
  | .inr _, .inl _, h => by cases h
theorem kVs_inj : ∀ {a b : List Key}, a.map kV = b.map kV → a = b
  | [], [], _ => rfl
  | x :: a, y :: b, h => by
    rw [List.map_cons, List.map_cons] at h
    injection h with h1 h2
    rw [kV_inj h1, kVs_inj h2]
  | [], _ :: _, h => by simp at h
  | _ :: _, [], h => by simp at h
/-- sorted(d), d a dict with tuples of ints and texts as keys, each with a text ahead -/
def rSortDT : List V → Hp → VK → Prop := fun vs H Q => ∃ (a : Addr) (kvs : List (List Key × V)) (ρ : List Key → Int), vs = [.ref a] ∧ H a = some (.dT kvs) ∧ kvs.length < 64 ∧ (∀ k ∈ kvs.map (·.1), ∃ x r, k = Sum.inr x :: r) ∧
  (∀ k ∈ kvs.map (·.1), ∀ k' ∈ kvs.map (·.1), LexR k k' (decide (ρ k < ρ k'))) ∧
  ∀ (l : Addr) (ps : List (Addr × List Key)), H l = none → (ps.map (·.2)).Perm (kvs.map (·.1)) → (ps.map (·.2)).Pairwise (fun e f => ρ e ≤ ρ f) → (∀ z ∈ ps, H z.1 = some (.tup (z.2.map kV))) → Q (.ref l) (upd H l (.lst (ps.map fun z => V.ref z.1)))
theorem cr_sortedDT (hc : X.calm = true) (hu : X.A.units + 64 < cLine) : CallR X (.builtin "sorted") rSortDT := by
  intro pins s σ H xs us Q I r h
  obtain ⟨a, kvs, ρ, rfl, ha, h64, hhd, hlx, q⟩ := h
  obtain rfl := Vals.ref1 r
  obtain ⟨_, lo, xs', rel, o, es, ep, ho, hx, hdat, hes, his, hnd⟩ := dt_of I.hok ha
  have l1 : kvs.length = xs'.length := Paired.length rel
  have l2 : es.size = xs'.length := size_of_entries hes
  have keys : kvs.map (·.1) = xs'.map (·.1) := by
    have key : ∀ {A : List (List Key × V)} {B : List (List Key × Addr × Value)}, KT H A B → A.map (·.1) = B.map (·.1) := by
      intro A B rel
      induction rel with
      | nil => rfl
      | cons h _ ih => rw [List.map_cons, List.map_cons, ih, h.1]
    exact key rel
  have trk : ∀ x ∈ xs', H x.2.1 = some (.tup (x.1.map kV)) := by
    intro x hx'
    obtain ⟨j, hj⟩ := List.getElem?_of_mem hx'
    obtain ⟨e0, _, r1, r2, _⟩ := DX.pget rel hj
    rw [← r1]
    exact r2
  -- the rank of a value
  let rk : Value → Int := fun v => match xs'.find? (fun x => Value.ref x.2.1 == v) with
    | some x => ρ x.1
    | none => 0
  have rk_is : ∀ x ∈ xs', rk (.ref x.2.1) = ρ x.1 := by
    intro x hx'
    show (match xs'.find? (fun y => Value.ref y.2.1 == Value.ref x.2.1) with | some y => ρ y.1 | none => 0) = ρ x.1
    cases hf : xs'.find? (fun y => Value.ref y.2.1 == Value.ref x.2.1) with
    | none =>
      have := List.find?_eq_none.mp hf x hx'
      simp at this
    | some y =>
      have h1 := List.mem_of_find?_eq_some hf
      have h2 := List.find?_some hf
      have h3 : y.2.1 = x.2.1 := by simpa using h2
      have h4 := trk y h1
      rw [h3, trk x hx'] at h4
      have h5 : x.1.map kV = y.1.map kV := by injection (Option.some.inj h4)
      rw [kVs_inj h5]
  refine Calls.call_function_entry PyProof.Rows.kind_sorted PyProof.Rows.plain_sorted PyProof.Rows.entry_sorted (PyProof.Rows.args_sorted1 _) ?_
  unfold Builtin.«sorted»
  refine wpAny_bind (m := checkCount "sorted" 1 1 _) (wpAny_pure ?_)
  refine wpAny_bind (PySem.W.kdu_collect (A := X.A.in1) (PySem.KdlSrc.rawDict (es := es) (ep := ep) lo) (I.ok.hd hc) ⟨o, ho, hx, hdat⟩ (by rw [l2, ← l1, sizeLine_eq]; omega) fun h' tk acc hk hacc => ?_)
  have hal : acc.toList.length = xs'.length := by rw [Array.length_toList, hacc.1, l2]
  have hav : acc.toList = xs'.map fun x => Value.ref x.2.1 := by
    refine List.ext_getElem? fun j => ?_
    rw [List.getElem?_map]
    cases hxj : xs'[j]? with
    | none =>
      show acc.toList[j]? = none
      rw [List.getElem?_eq_none_iff] at hxj ⊢
      omega
    | some x =>
      have hj : j < acc.toList.length := by rw [hal]; exact (List.getElem?_eq_some_iff.mp hxj).1
      obtain ⟨v, hv⟩ : ∃ v, acc.toList[j]? = some v := ⟨_, List.getElem?_eq_getElem hj⟩
      rw [hv]
      obtain ⟨hi, rfl⟩ := hacc.2 j v (by rw [← Array.getElem?_toList]; exact hv)
      have e1 := entry_at hes j
      rw [hxj, Array.getElem?_eq_getElem hi] at e1
      have e2 : es[j] = entryOfKey (tupleKind (mixKind X.prog X.w)) x := Option.some.inj e1
      rw [e2]
      rfl
  refine wpAny_bind (wpAny_newList ?_ (by rw [hal, ← l1, sizeLine_eq]; omega))
  have hob : (h'.push (seqObj "list" acc.toList.toArray 0)).get? h'.objs.size = some (seqObj "list" acc.toList.toArray 0) := Heap.get?_push_size _ rfl
  show wpAny _ _ _ _ _ { s with heap := h'.push (seqObj "list" acc.toList.toArray 0), toks := tk }
  have kb : ∀ b u, s.heap.get? b = some u → b ≠ h'.objs.size ∧ (h'.push (seqObj "list" acc.toList.toArray 0)).get? b = some u := fun b u e => ⟨Nat.ne_of_lt (Heap.lt_size (hk b u e)), Heap.get?_push_of_some _ (hk b u e)⟩
  have ka : ∀ b u, h'.get? b = some u → b ≠ h'.objs.size ∧ (h'.push (seqObj "list" acc.toList.toArray 0)).get? b = some u := fun b u e => ⟨Nat.ne_of_lt (Heap.lt_size e), Heap.get?_push_of_some _ e⟩
  have I1 : Inv X pins σ H { s with heap := h', toks := tk } := I.kept hk
  generalize hh2 : h'.push (seqObj "list" acc.toList.toArray 0) = h2 at hob kb ka ⊢
  -- the tuples in the heap of the sort
  have tup : ∀ x ∈ xs', ∃ (ot : Obj) (its : List Value) (nt : Nat), Vals (x.1.map kV) its ∧ (TS.midHeap h2 h'.objs.size acc.toList).get? x.2.1 = some ot ∧ ot.cls = .type "tuple" ∧ ot.data = .seq its.toArray nt := by
    intro x hx'
    obtain ⟨_, its, rv, ot, hot, hct, nt, hdt⟩ := (show ObjOk X.prog X.w H s.heap x.2.1 (.tup (x.1.map kV)) from I.hok _ _ (trk x hx'))
    obtain ⟨k1, k2⟩ := kb _ _ hot
    exact ⟨ot, its, nt, rv, TS.midHeap_old k1 k2, hct, hdt⟩
  have mem : ∀ v ∈ acc.toList, ∃ x ∈ xs', v = .ref x.2.1 := by
    intro v hv
    rw [hav] at hv
    obtain ⟨x, hx', e⟩ := List.mem_map.mp hv
    exact ⟨x, hx', e.symm⟩
  have inK : ∀ x ∈ xs', x.1 ∈ kvs.map (·.1) := fun x hx' => by rw [keys]; exact List.mem_map_of_mem hx'
  have firsts : ∀ vs : List Value, (∀ v ∈ vs, ∃ x ∈ xs', v = .ref x.2.1) → ∃ fs : List Value, PySem.W.KatTups (TS.midHeap h2 h'.objs.size acc.toList) vs fs ∧ fs.length = vs.length ∧ ∀ f ∈ fs, ∃ x t, f = Value.str x t := by
    intro vs
    induction vs with
    | nil => intro _; exact ⟨[], .nil, rfl, fun _ h => nomatch h⟩
    | cons v vs ih =>
      intro hm
      obtain ⟨fs, k1, k2, k3⟩ := ih fun u hu' => hm u (List.mem_cons_of_mem _ hu')
      obtain ⟨x, hx', rfl⟩ := hm v List.mem_cons_self
      obtain ⟨ot, its, nt, rv, ho', hc', hd'⟩ := tup x hx'
      obtain ⟨y, rr, ey⟩ := hhd x.1 (inK x hx')
      rw [ey] at rv
      cases rv with
      | cons r1 r2 =>
        obtain ⟨t, rfl⟩ := r1
        refine ⟨.str y t :: fs, .cons ho' hc' hd' rfl k1, by rw [List.length_cons, List.length_cons, k2], fun f hf => ?_⟩
        rcases List.mem_cons.mp hf with rfl | hf
        · exact ⟨y, t, rfl⟩
        · exact k3 f hf
  refine wpAny_bind (wpAny_holding (wpAny_call_entry PyProof.Rows.slot_list_sort ⟨_, hob, rfl⟩ PyProof.Rows.entry_list_sort
    (SK.plain_sort (s := { s with heap := h2, toks := tk }) (r := rk) hob (by rw [hal, ← l1]; exact h64) (fun h2' Qk hQk => ?_) fun ps out o1 o2 o3 => ⟨.none, rfl, ?_⟩) (PyProof.Rows.args_list_sort _)))
  · obtain ⟨fs, k1, k2, k3⟩ := firsts acc.toList mem
    refine PySem.W.kat_kind (T := Value.type "str") k1 (by omega) (fun f hf => ?_) rfl (hQk _ ?_)
    · obtain ⟨x, t, rfl⟩ := k3 f hf
      exact .now
    · intro p q' hp hq Q' E' hQ
      rw [pairsOf_toList] at hp hq
      have mp := (mem_zip_self hp).2
      have mq := (mem_zip_self hq).2
      obtain ⟨x, hx1, e1⟩ := mem _ mp
      obtain ⟨y, hy1, e2⟩ := mem _ mq
      obtain ⟨ot, its, nt, rv, ho1, _, hd1⟩ := tup x hx1
      obtain ⟨ot2, its2, nt2, rv2, ho2, _, hd2⟩ := tup y hy1
      rw [e1, e2, rk_is x hx1, rk_is y hy1] at hQ
      rw [e1, e2]
      refine PySem.W.kat_lt ho1 hd1 ho2 hd2 (katlex_of ?_ hQ 0)
      have hv := lexV_of (hlx x.1 (inK x hx1) y.1 (inK y hy1)) rv rv2
      simpa using hv
  · have hzip : (xs'.map fun x => (x.2.1, x.1)).map (fun z : Addr × List Key => (Value.ref z.1, Value.ref z.1)) = acc.toList.zip acc.toList := by
      have zs0 : ∀ l : List Value, l.zip l = l.map fun v => (v, v) := fun l => by
        induction l with
        | nil => rfl
        | cons v l ih => rw [List.zip_cons_cons, ih]; rfl
      rw [zs0, hav, List.map_map, List.map_map]
      rfl
    obtain ⟨zs, pz, ez⟩ := perm_lift (fun z : Addr × List Key => (Value.ref z.1, Value.ref z.1)) o2 _ hzip
    have hout : out.toList = zs.map fun z => Value.ref z.1 := by
      rw [o1, ← ez, List.map_map]
      rfl
    have hin : ∀ z ∈ zs, ∃ x ∈ xs', z = (x.2.1, x.1) := fun z hz => by
      obtain ⟨x, hx', e⟩ := List.mem_map.mp (pz.mem_iff.mp hz)
      exact ⟨x, hx', e.symm⟩
    have hperm : (zs.map (·.2)).Perm (kvs.map (·.1)) := by
      have e := pz.map (·.2)
      rw [List.map_map] at e
      rw [keys]
      exact e
    have hsort : (zs.map (·.2)).Pairwise (fun e f => ρ e ≤ ρ f) := by
      rw [← ez, List.pairwise_map] at o3
      rw [List.pairwise_map]
      refine List.Pairwise.imp_of_mem (fun {u v} hu' hv' h => ?_) o3
      obtain ⟨x, hx', rfl⟩ := hin u hu'
      obtain ⟨y, hy', rfl⟩ := hin v hv'
      have h3 : rk (.ref x.2.1) ≤ rk (.ref y.2.1) := h
      rw [rk_is x hx', rk_is y hy'] at h3
      exact h3
    obtain ⟨eF, heF⟩ := PyProof.Rows.sortedHeap_at (vs := acc.toList) (out := out) hob
    have hlen : (zs.map fun z => V.ref z.1).length ≤ sizeLine := by
      have e := hperm.length_eq
      rw [List.length_map, List.length_map] at e
      rw [List.length_map, sizeLine_eq]
      omega
    have rv : Vals (zs.map fun z => V.ref z.1) out.toList := by
      rw [hout]
      clear hout hin hperm hsort pz ez hlen
      induction zs with
      | nil => exact .nil
      | cons z zs ih => exact .cons rfl ih
    refine wpAny_pure ⟨_, rfl, .ref h'.objs.size, upd H h'.objs.size (.lst (zs.map fun z => V.ref z.1)), I1.laid (t' := tk) (fun b u e => ?_) (Nat.le_refl _) ⟨hlen, out.toList, eF, rv, heF⟩, rfl, q _ zs (I1.hok.fresh (Nat.le_refl _)) hperm hsort fun z hz => ?_⟩
    · obtain ⟨k1, k2⟩ := ka b u e
      exact (PyProof.Rows.sortedHeap_old k1 (Heap.lt_size k2)).trans k2
    · obtain ⟨x, hx', rfl⟩ := hin z hz
      exact trk x hx'
end
end HG

set_option maxHeartbeats 4000000
/-! HX: more rules: x is True of any value, text * int, {None: .., True: .., False: ..}[x], len(set(texts)). -/
namespace HG
open PySem PySem.Spec PyProof.Rows L2
section
variable {X : Cx}
/-- x is True, x is False -/
theorem op_isTF : OpR X (compareOp .Is) (fun x y H Q => ∃ b : Bool, y = .bl b ∧ Q (.bl (decide (x = .bl b))) H) := by
  intro pins s σ H x y v u Q I rx ry h
  obtain ⟨b, rfl, q⟩ := h
  cases (show u = Value.bool b from ry)
  by_cases e : x = .bl b
  · subst e
    cases (show v = Value.bool b from rx)
    exact wpAny_is_self rfl ⟨.bl true, H, I, rfl, by simpa using q⟩
  · have q' : Q (.bl false) H := by simpa [e] using q
    cases x with
    | non => cases rx; exact wpAny_is_other rfl (fun z => nomatch z) ⟨.bl false, H, I, rfl, q'⟩
    | bl a => cases rx; exact wpAny_is_other rfl (fun z => e (congrArg V.bl (Value.bool.inj z))) ⟨.bl false, H, I, rfl, q'⟩
    | int i => obtain ⟨t, rfl⟩ := rx; exact wpAny_is_other rfl (fun z => nomatch z) ⟨.bl false, H, I, rfl, q'⟩
    | str i => obtain ⟨t, rfl⟩ := rx; exact wpAny_is_other rfl (fun z => nomatch z) ⟨.bl false, H, I, rfl, q'⟩
    | byt i => obtain ⟨t, rfl⟩ := rx; exact wpAny_is_other rfl (fun z => nomatch z) ⟨.bl false, H, I, rfl, q'⟩
    | flt i => obtain ⟨t, rfl⟩ := rx; exact wpAny_is_other rfl (fun z => nomatch z) ⟨.bl false, H, I, rfl, q'⟩
    | ref i => cases rx; exact wpAny_is_other rfl (fun z => nomatch z) ⟨.bl false, H, I, rfl, q'⟩
    | ty i => cases rx; exact wpAny_is_other rfl (fun z => nomatch z) ⟨.bl false, H, I, rfl, q'⟩
/-- text * int -/
theorem op_mul_str : OpR X (binaryOp .Mult) (fun x y H Q => ∃ (z : Str) (n : Int), x = .str z ∧ y = .int n ∧ MulOk z n ∧ Q (.str (Txt.mul z n)) H) := by
  intro pins s σ H x y v u Q I rx ry h
  obtain ⟨z, n, rfl, rfl, ok, q⟩ := h
  obtain ⟨t, rfl⟩ := rx
  obtain ⟨t', rfl⟩ := ry
  exact SB.mul ok fun t' k => ⟨.str _, H, I.tok _, ⟨_, rfl⟩, q⟩
end
theorem mulOk_of {z : Str} {n : Int} (h0 : 0 ≤ n) (h : z.length * n.toNat ≤ 1000000) (hn : n < 2 ^ 40) (hz : z.length ≤ 1000000) : MulOk z n := by
  refine ⟨?_, fun h1 _ h2 => ?_, fun h1 _ => ?_⟩
  · rw [decide_eq_false (by omega), decide_eq_false (by omega)]
    rfl
  · have h3 : (1000000 : Int) ≤ (2 ^ 63 - 1) / n := by
      refine (Int.le_ediv_iff_mul_le (by omega)).mpr ?_
      omega
    omega
  · show decide (_ > _) = false
    refine decide_eq_false ?_
    rw [show (sizeLine : Nat) = 16777216 from sizeLine_eq]
    omega

theorem call_reprK {X : Cx} {K : PySem.W.Frag} (hK : X.K = K) (hgd : X.A.guards = some []) (hr : Room 0 X.A) : CallR X (.builtin "repr") (rRepr K) := by
  subst hK
  exact call_repr hgd hr
/-! ### keywords alone -/
theorem kbn0 {K : PySem.W.Frag} {x qual : Str} {params : Arguments} {body : List Stmt} {scope : Scope} {kws : List (Str × V)} {f : Addr} {fd : FuncData} {ks ps : List Str} {g : List Value → List Value} {gV : List V → List V}
    (F : FunD K x qual params body scope [] kws f fd)
    (h : ∀ (kV doc pm : Value) (an : Option Addr) (cdv ct : Value) (ws : List Value), ws.length = ks.length → bindArgs (PySem.W.fnOf x qual params body scope .none kV doc pm an cdv ct) ⟨[], ks.zip ws⟩ = pure (ps.zip (g ws)))
    (rel : ∀ {zs : List V} {ws : List Value}, Vals zs ws → Vals (gV zs) (g ws)) : KBn K fd ps 0 ks (fun _ ws => g ws) (fun _ zs => gV zs) := by
  obtain ⟨oc, od, dV, kV, doc, pm, an, cdv, ct, osl, rfl, lk, hcd, hD, hK⟩ := F.ex
  rcases hD with ⟨_, rfl⟩ | ⟨e, _⟩
  · refine ⟨fun s us ws _ hu hw => ?_, fun _ r => rel r⟩
    obtain rfl : us = [] := List.length_eq_zero_iff.mp hu
    exact .of_eq (h kV doc pm an cdv ct ws hw)
  · exact absurd rfl e

/-! ### objects made by a class of the top -/
structure MkC (P : Program) (w : World) (K : PySem.W.Frag) (mg : Str → Option Value) (base : Heap) (x : Str) (k : Nat) (sp : Sp) : Prop where
  ex : ∃ (f : Addr) (fd : FuncData) (ps : List Str), Mk K (He.ga K x) f ∧ FnOk P w K mg base CX0 k f fd ps sp ∧ Binds K fd ps []
  gl : mg x = some (.ref (He.ga K x))
theorem pe_mk {X : Cx} {k : Nat} {x : Str} {sp : Sp} {p pos : Pos} {e : Expr} {es : List Expr} {t : TA} (C : MkC X.prog X.w X.K X.mg X.base x k sp) (hr : Room (k + 1) X.A) (hg : Gl X x) (ha : PA X (e :: es) t)
    (hdb : (x == ("__debug__" : Str)) = false := by decide)
    (he : starEach (e :: es) X.env = (false, eval e X.env) :: starEach es X.env := by rfl)
    (hpl : (backTo pos (starEach es X.env)).any (·.1) = false := by rfl) : PE X (.Call (.Name x p) (e :: es) [] pos) (tMake (He.ga X.K x) sp [] E0 t) := by
  obtain ⟨f, fd, ps, M, F, b⟩ := C.ex
  exact pe_make M F hr hg C.gl b .nil pass0 ha hdb he hpl

/-! ### None and bools as keys -/
def nbV : Option Bool → V
  | none => .non
  | some b => .bl b
def nbIs : Option Bool → Value → Bool
  | none, .none => true
  | none, _ => false
  | some k, v => PpSet.isB k v
theorem nb_none {v : Value} (h : nbIs none v = true) : v = .none := by
  cases v with
  | none => rfl
  | _ => exact nomatch (show false = true from h)
def nbU : Option Bool → Value
  | none => .none
  | some b => .bool b
theorem nb_shape {k : Option Bool} {v : Value} (h : nbIs k v = true) : v = nbU k := by
  cases k with
  | none => exact nb_none h
  | some b => exact PpSet.isB_shape h
theorem nb_of {k : Option Bool} {v : Value} (h : RelV (nbV k) v) : nbIs k v = true := by
  cases k with
  | none => cases (show v = Value.none from h); rfl
  | some b => cases (show v = Value.bool b from h); exact beq_self_eq_true b
def nbKind (prog : Program) (w : World) : PySem.KeyKind prog w (Option Bool) where
  is := nbIs
  hash := fun k => match k with
    | none => reduceHash 0xFCA86420
    | some k => PpSet.hB k
  inj := fun v a b ha hb => by
    have e1 := nb_shape ha
    have e2 := nb_shape hb
    rw [e1] at e2
    cases a with
    | none => cases b with
      | none => rfl
      | some _ => cases e2
    | some x => cases b with
      | none => cases e2
      | some y => exact congrArg some (Value.bool.inj e2)
  byValue := fun k v h => by
    rw [nb_shape h]
    cases k <;> rfl
  pyHash := @fun A E s k v Q hv h => by
    cases k with
    | none =>
      have e := nb_none hv
      subst e
      exact PySem.W.pyHash_slot (T := "NoneType") rfl PySem.F.slot_NoneType_hash PySem.F.entry_NoneType_hash (PySem.F.args_NoneType_hash_1 _) (beq_builtin_none _) (.inl rfl) (wpAny_bind (wpAny_pure (wpAny_bind (wpAny_mkInt (wpAny_pure ⟨_, _, rfl, h⟩)))))
    | some k => exact (PpSet.boolK prog w).pyHash (k := k) hv h
  eqBool := @fun A E s a b u v Q hu hv h => by
    have e1 := nb_shape hu
    have e2 := nb_shape hv
    subst e1 e2
    cases a with
    | none =>
      cases b with
      | none =>
        rw [decide_eq_true rfl] at h
        exact SeqAt.EqAt.same _ _ _ _ _ h
      | some k =>
        rw [decide_eq_false (fun z => nomatch z)] at h
        exact SeqAt.EqAt.none_bool k _ _ _ _ h
    | some k =>
      cases b with
      | none =>
        rw [decide_eq_false (fun z => nomatch z)] at h
        exact SeqAt.EqAt.bool_none k _ _ _ _ h
      | some j =>
        have e : decide ((some k : Option Bool) = some j) = (k == j) := by cases k <;> cases j <;> rfl
        rw [e] at h
        exact SeqAt.EqAt.bool_bool k j _ _ _ _ h
  «strs» := fun k x t v h => by
    cases k with
    | none => exact nomatch (show false = true from h)
    | some k => exact absurd h Bool.false_ne_true
abbrev NB (P : Program) (w : World) (a : Addr) (vs : List (Option Bool × Value)) : HO := .ext fun h => h.DictOf (nbKind P w) a vs
theorem nb_new {P : Program} {w : World} {H : Hp} {h : Heap} {a : Addr} {vs : List (Option Bool × Value)} (R : h.DictOf (nbKind P w) a vs) : ObjOk P w H h a (NB P w a vs) := by
  refine ⟨R, ?_, fun h1 h2 p k => ?_⟩
  · obtain ⟨o, _, _, ho, _⟩ := R
    exact ⟨o, ho⟩
  · obtain ⟨o, es, ep, ho, r⟩ := p
    exact ⟨o, es, ep, k o ho, r⟩
/-- {None: 'x', True: 'y', False: 'z'}[e] -/
def tNb3 (x y z : Str) (te : TE) : TE := fun σ H Q => ∀ (p : Addr) (o : HO), H p = none → te σ (upd H p o) fun v H2 => H2 p = some o ∧ ∃ k : Option Bool, v = nbV k ∧ Q (.str (match k with | none => x | some true => y | some false => z)) H2
section
variable {X : Cx}
theorem pe_nb3 {x y z : Str} {e : Expr} {te : TE} {p1 p2 p3 p4 p5 p6 p7 pos : Pos} {k4 k5 k6 k7 k8 k9 : Nat} (he : PE X e te) (hs : NoSl e) :
    PE X (.Subscript (.Dict [some (.Constant .none k4 p1), some (.Constant (.bool true) k5 p2), some (.Constant (.bool false) k6 p3)] [.Constant (.str x) k7 p4, .Constant (.str y) k8 p5, .Constant (.str z) k9 p6] p7) e pos) (tNb3 x y z te) := by
  refine ⟨fun pins s σ H Q I h => ?_⟩
  refine subD_of PySem.F.slot_dict_getitem.lookup hs ?_
  have hn := I.hok.fresh (Nat.le_refl s.heap.objs.size)
  have I1 := I.laid (a := s.heap.objs.size) (o := NB X.prog X.w s.heap.objs.size []) (h' := s.heap.push { cls := .type "dict", data := .dict #[] }) (t' := s.toks) (fun _ _ q => Heap.get?_push_of_some _ q) (Nat.le_refl _) (nb_new (Heap.DictOf.new _))
  have PP : PPs X p7 [some (.Constant .none k4 p1), some (.Constant (.bool true) k5 p2), some (.Constant (.bool false) k6 p3)] [.Constant (.str x) k7 p4, .Constant (.str y) k8 p5, .Constant (.str z) k9 p6]
      [(tC .non, tC (.str x)), (tC (.bl true), tC (.str y)), (tC (.bl false), tC (.str z))] := pps_cons pe_non pe_str (pps_cons pe_bl pe_str (pps_cons pe_bl pe_str pps_nil))
  refine wpAny_Dict_walk (knd := nbKind X.prog X.w) rfl rfl (fun z => nomatch z) (show 3 ≤ 15 by decide) ?_
  refine thn (PP.run pins _ σ _ (fun ps H2 => ps = [(.non, .str x), (.bl true, .str y), (.bl false, .str z)] ∧ H2 = upd H s.heap.objs.size (NB X.prog X.w s.heap.objs.size [])) I1 ⟨rfl, rfl⟩) ?_
  rintro ws s2 ⟨ps, H2, I2, rel, rfl, rfl⟩
  cases rel with
  | @cons _ a1 _ _ r1 rel =>
  cases rel with
  | @cons _ a2 _ _ r2 rel =>
  cases rel with
  | @cons _ a3 _ _ r3 rel =>
  cases rel
  obtain ⟨c1, d1⟩ := a1
  obtain ⟨c2, d2⟩ := a2
  obtain ⟨c3, d3⟩ := a3
  have dd := (I2.hok _ _ upd_same).1
  refine ⟨[(none, d1), (some true, d2), (some false, d3)], ⟨nb_of (k := none) r1.1, rfl, nb_of (k := some true) r2.1, rfl, nb_of (k := some false) r3.1, rfl, trivial⟩, dd, fun h' dd' hsb => ?_⟩
  have em : merged [] [((none : Option Bool), d1), (some true, d2), (some false, d3)] = [(none, d1), (some true, d2), (some false, d3)] := rfl
  rw [em] at dd'
  have he' : ∃ q, h'.get? s.heap.objs.size = some q := let ⟨q, _, _, hq, _⟩ := dd'; ⟨q, hq⟩
  have I3 := d_write (t' := s2.toks + 3) (ob := NB X.prog X.w s.heap.objs.size [(none, d1), (some true, d2), (some false, d3)]) I2 (by rw [upd_same]; exact True.intro) hsb he' (nb_new dd')
  have eu : upd (upd H s.heap.objs.size (NB X.prog X.w s.heap.objs.size [])) s.heap.objs.size (NB X.prog X.w s.heap.objs.size [(none, d1), (some true, d2), (some false, d3)]) = upd H s.heap.objs.size (NB X.prog X.w s.heap.objs.size [(none, d1), (some true, d2), (some false, d3)]) := by
    funext b
    by_cases e : b = s.heap.objs.size
    · subst e; rw [upd_same, upd_same]
    · rw [upd_ne e, upd_ne e, upd_ne e]
  rw [eu] at I3
  refine thn (he.run pins _ σ _ _ I3 (h _ _ hn)) ?_
  rintro iv s3 ⟨v, H3, I4, rv, h3, k, rfl, q⟩
  have D3 : s3.heap.DictOf (nbKind X.prog X.w) s.heap.objs.size [(none, d1), (some true, d2), (some false, d3)] := (I4.hok _ _ h3).1
  refine ⟨D3.mapOf.typeIs, ?_⟩
  cases k with
  | none => exact wpAny_getItem_of (k := none) (nb_of rv) D3.mapOf rfl ⟨.str x, H3, I4.tok _, r1.2, q⟩
  | some b =>
    cases b with
    | true => exact wpAny_getItem_of (k := some true) (nb_of rv) D3.mapOf rfl ⟨.str y, H3, I4.tok _, r2.2, q⟩
    | false => exact wpAny_getItem_of (k := some false) (nb_of rv) D3.mapOf rfl ⟨.str z, H3, I4.tok _, r3.2, q⟩
end
end HG

set_option maxHeartbeats 4000000
/-! HA: texts of signs below 128, and what repr shows of data. -/
namespace HG
open PySem PySem.Spec PyProof.Rows L2
open TL (numL tl_num numL_digits numL_ne numL_inj numL_val numL_len)
def asc (z : Str) : Prop := ∀ c ∈ cp z, c < 128
theorem asc_app {a b : Str} (ha : asc a) (hb : asc b) : asc (a ++ b) := fun c hc => by
  rw [cp_app] at hc
  exact (List.mem_append.mp hc).elim (ha c) (hb c)
theorem asc_ok {z : Str} (h : asc z) : PyData.strOk z = true := by
  unfold PyData.strOk
  rw [← Array.all_toList]
  refine List.all_eq_true.mpr fun c hc => ?_
  have := h c hc
  exact decide_eq_true (by omega)
theorem asc_repr {z : Str} (h : asc z) : asc (reprText z) := by
  have hq : reprQuote z = 39 ∨ reprQuote z = 34 := by
    unfold reprQuote
    split
    · exact .inr rfl
    · exact .inl rfl
  have sm : ∀ q, q = 39 ∨ q = 34 → ∀ c, c < 128 → ∀ d ∈ Builtin.Str.reprChar q c, d < 128 := by
    have h1 : ∀ c : Nat, c < 128 → ∀ d ∈ Builtin.Str.reprChar 39 c, d < 128 := by decide +kernel
    have h2 : ∀ c : Nat, c < 128 → ∀ d ∈ Builtin.Str.reprChar 34 c, d < 128 := by decide +kernel
    rintro q (rfl | rfl)
    · exact h1
    · exact h2
  have key : ∀ (l : List Nat) (acc : Array Nat), (∀ c ∈ l, c < 128) → (∀ d ∈ acc.toList, d < 128) → ∀ d ∈ (l.foldl (fun out c => out ++ (Builtin.Str.reprChar (reprQuote z) c).toArray) acc).toList, d < 128 := by
    intro l
    induction l with
    | nil => intro acc _ ha; exact ha
    | cons c r ih =>
      intro acc hl ha
      rw [List.foldl_cons]
      refine ih _ (fun x hx => hl x (List.mem_cons_of_mem _ hx)) fun d hd => ?_
      rw [Array.toList_append] at hd
      rcases List.mem_append.mp hd with z | z
      · exact ha d z
      · exact sm _ hq c (hl c List.mem_cons_self) d z
  intro d hd
  unfold cp reprText at hd
  rw [Array.toList_push, ← Array.foldl_toList] at hd
  have q128 : reprQuote z < 128 := by rcases hq with e | e <;> rw [e] <;> decide
  rcases List.mem_append.mp hd with y | y
  · refine key _ _ h (fun x hx => ?_) d y
    have : x = reprQuote z := by simpa using hx
    rw [this]
    exact q128
  · rw [List.mem_singleton.mp y]
    exact q128
theorem asc_join : ∀ {l : List Str}, (∀ z ∈ l, asc z) → asc (Str.join ", " l)
  | [], _ => fun c hc => nomatch hc
  | [x], h => h x List.mem_cons_self
  | x :: y :: r, h => by
    show asc (x ++ ", " ++ Str.join ", " (y :: r))
    exact asc_app (asc_app (h x List.mem_cons_self) (by unfold asc; decide +kernel)) (asc_join fun z hz => h z (List.mem_cons_of_mem _ hz))
theorem asc_from : ∀ {l : List Str} (k : Nat) (acc : Str), asc acc → (∀ z ∈ l, asc z) → asc (textFrom k acc l)
  | [], _, _, h, _ => h
  | t :: ts, k, acc, h, hl => by
    show asc (textFrom (k + 1) (acc ++ (if k > 0 then ", " else "" : String) ++ t) ts)
    refine asc_from (k + 1) _ (asc_app (asc_app h ?_) (hl t List.mem_cons_self)) fun z hz => hl z (List.mem_cons_of_mem _ hz)
    split
    · unfold asc; decide +kernel
    · unfold asc; decide +kernel
theorem asc_list {l : List Str} (h : ∀ z ∈ l, asc z) : asc (listText l) := asc_app (asc_from 0 _ (by unfold asc; decide +kernel) h) (by unfold asc; decide +kernel)
theorem asc_tuple {l : List Str} (h : ∀ z ∈ l, asc z) : asc (tupleText l) := by
  refine asc_app (asc_app (by unfold asc; decide +kernel) (asc_join h)) ?_
  split
  · unfold asc; decide +kernel
  · unfold asc; decide +kernel
theorem asc_nat (n : Nat) : asc (Str.ofString (toString ((n : Nat) : Int))) := fun c hc => by
  have e : cp (Str.ofString (toString ((n : Nat) : Int))) = numL n := tl_num n
  rw [e] at hc
  have := numL_digits n c hc
  omega
theorem asc_int (i : Int) : asc (Str.ofString (toString i)) := by
  by_cases h : i < 0
  · rw [toString_neg h]
    obtain ⟨n, hn⟩ := Int.eq_ofNat_of_zero_le (show 0 ≤ 0 - i by omega)
    rw [hn]
    have e2 : cp (Str.ofString ("-" ++ toString ((n : Nat) : Int))) = 45 :: cp (Str.ofString (toString ((n : Nat) : Int))) := by
      unfold cp
      rw [Str.ofString_eq_toList, Str.ofString_eq_toList, String.toList_append, List.map_append]
      rfl
    intro c hc
    rw [e2] at hc
    rcases List.mem_cons.mp hc with rfl | hc
    · decide
    · exact asc_nat n c hc
  · obtain ⟨n, rfl⟩ := Int.eq_ofNat_of_zero_le (Int.not_lt.mp h)
    exact asc_nat n
theorem asc_all : ∀ {ds : List PyData}, (∀ d ∈ ds, asc d.shown) → ∀ z ∈ PyData.shownAll ds, asc z
  | [], _, z, hz => by simp only [PyData.shownAll] at hz; exact nomatch hz
  | d :: ds, h, z, hz => by
    simp only [PyData.shownAll] at hz
    rcases List.mem_cons.mp hz with rfl | hz
    · exact h d List.mem_cons_self
    · exact asc_all (fun e he => h e (List.mem_cons_of_mem _ he)) z hz
end HG

set_option maxHeartbeats 4000000
/-! HK: rules that name the written part K, for use in comprehensions. -/
namespace HG
open PySem PySem.Spec PyProof.Rows L2
section
variable {X : Cx} {K : PySem.W.Frag}
theorem isiK (h : X.K = K) : CallR X (.builtin "isinstance") (rIsi K) := h ▸ call_isi
theorem isiTK (h : X.K = K) : CallR X (.builtin "isinstance") (rIsiT K) := h ▸ call_isiT
def rLenK (K : PySem.W.Frag) : List V → Hp → VK → Prop := fun xs H Q => ∃ x n, xs = [x] ∧ LenV K x H n ∧ Q (.int (n : Nat)) H
theorem lenK (h : X.K = K) : CallR X (.builtin "len") (rLenK K) := h ▸ call_len
theorem ix_listK (h : X.K = K) : IxR X (rIxL K) := h ▸ ix_list
theorem ix_tupK (h : X.K = K) : IxR X (rIxT K) := h ▸ ix_tup
theorem ix_seqK (h : X.K = K) : IxR X (rIx K) := h ▸ ix_seq
theorem sl_tupK (h : X.K = K) : SlR X (rSlT K) := h ▸ sl_tup
theorem sl_listK (h : X.K = K) : SlR X (rSlL K) := h ▸ sl_list
theorem op_catTK (h : X.K = K) : OpR X (binaryOp .Add) (rCatT K) := h ▸ op_catT
theorem op_in_seqK (h : X.K = K) : OpR X (compareOp .In) (rIn K false) := h ▸ op_in_seq
theorem op_ltKK (h : X.K = K) (hu : X.A.units < cLine) : OpR X (compareOp .Lt) (rLtK K) := h ▸ op_ltK hu
theorem op_eqDK (h : X.K = K) (hu : X.A.units + 64 < cLine) : OpR X (compareOp .Eq) (rEqD K) := h ▸ op_eqD hu
theorem op_neDK (h : X.K = K) (hu : X.A.units + 64 < cLine) : OpR X (compareOp .NotEq) (rNeD K) := h ▸ op_neD hu
/-- x < y: ints, texts, tuples of both -/
theorem op_lt3 (h : X.K = K) (hu : X.A.units + 64 < cLine) : OpR X (compareOp .Lt) (fun x y H Q => (rI0 (fun i j => .bl (decide (i < j)))) x y H Q ∨ (∃ i j, x = .str i ∧ y = .str j ∧ Q (.bl (decide (i.cps.toList < j.cps.toList))) H) ∨ rLtK K x y H Q) :=
  op_lt.or (op_lt_str.or (op_ltKK h (Nat.lt_of_le_of_lt (Nat.le_add_right _ 64) hu)))
end
end HG

set_option maxHeartbeats 4000000
namespace K51
open PySem PySem.Spec PyProof.Rows L2 HG
/-! ### the deck: a dict of three -/
abbrev kC : Key := Sum.inr "cells"
abbrev kM : Key := Sum.inr "total"
abbrev kN : Key := Sum.inr "draws"
def deckD (c : Addr) (m t : Int) : List (Key × V) := [(kC, .ref c), (kM, .int m), (kN, .int t)]
structure Deck (d c : Addr) (n : Nat) (H : Hp) : Prop where
  ex : ∃ (ns : List Int) (m t : Int), H d = some (.dK (deckD c m t)) ∧ H c = some (.lst (ns.map V.int)) ∧ 0 ≤ t ∧ t ≤ n ∧ ns.length ≤ 63
theorem Deck.ne {d c : Addr} {n : Nat} {H : Hp} (D : Deck d c n H) : d ≠ c := fun e => by
  obtain ⟨ns, m, t, h1, h2, _⟩ := D.ex
  rw [e, h2] at h1
  cases h1
theorem Deck.up {d c : Addr} {n m : Nat} {H : Hp} (D : Deck d c n H) (h : n ≤ m) : Deck d c m H := by
  obtain ⟨ns, x, t, h1, h2, h4, h5, h6⟩ := D.ex
  exact ⟨ns, x, t, h1, h2, h4, by omega, h6⟩
theorem Deck.upd {d c p : Addr} {n : Nat} {H : Hp} {o : HO} (D : Deck d c n H) (h1 : p ≠ d) (h2 : p ≠ c) : Deck d c n (upd H p o) := by
  obtain ⟨ns, m, t, e1, e2, r⟩ := D.ex
  exact ⟨ns, m, t, by rw [upd_ne h1.symm]; exact e1, by rw [upd_ne h2.symm]; exact e2, r⟩
theorem Deck.has {d c p : Addr} {n : Nat} {H : Hp} (D : Deck d c n H) (hp : H p = none) : p ≠ d ∧ p ≠ c := by
  obtain ⟨ns, m, t, e1, e2, r⟩ := D.ex
  exact ⟨(ne_of_none e1 hp).symm, (ne_of_none e2 hp).symm⟩
theorem Deck.new {d c p : Addr} {n : Nat} {H : Hp} {o : HO} (D : Deck d c n H) (hp : H p = none) : Deck d c n (L2.upd H p o) := D.upd (D.has hp).1 (D.has hp).2
theorem Deck.same {d c : Addr} {n : Nat} {H H' : Hp} (D : Deck d c n H) (s : Same H H') : Deck d c n H' := by
  obtain ⟨ns, m, t, e1, e2, r⟩ := D.ex
  exact ⟨ns, m, t, s _ _ e1, s _ _ e2, r⟩
section
variable {d c : Addr} {m t : Int} {H : Hp}
theorem get_c (h : H d = some (.dK (deckD c m t))) : DGet H d (.str "cells") (some (.ref c)) := DGet.k (k := kC) h
theorem get_m (h : H d = some (.dK (deckD c m t))) : DGet H d (.str "total") (some (.int m)) := DGet.k (k := kM) h
theorem get_t (h : H d = some (.dK (deckD c m t))) : DGet H d (.str "draws") (some (.int t)) := DGet.k (k := kN) h
theorem put_t {x : Int} (h : H d = some (.dK (deckD c m t))) : DPut H d (.str "draws") (.int x) (upd H d (.dK (deckD c m x))) := DPut.k (k := kN) h (by show 3 < sizeLine; decide)
end
section
variable {P : Program} {w : World} {K : PySem.W.Frag} {mg : Str → Option Value} {base : Heap}
/-! ### _law_draw -/
def spDraw : Sp := fun vs H Q _ => ∃ (d c : Addr) (n : Nat) (many : Int), vs = [.ref d, .int many] ∧ 0 < many ∧ many < 10 ^ 40 ∧ n < 2 ^ 60 ∧ Deck d c n H ∧
  ∀ (r : Int) (H' : Hp), 0 ≤ r → r < many → Deck d c (n + 1) H' → Ext d c H H' → Q (.int r) H'
theorem many_small {many : Int} (h0 : 0 < many) (h : many < 10 ^ 40) : many.natAbs < 2 ^ 200 := by
  have e : (10 : Int) ^ 40 < 2 ^ 200 := by decide
  omega
theorem mod_small (x : Int) {m : Int} (h0 : 0 < m) (hm : m < 2 ^ 63) : -(2 ^ 64) < x % m ∧ x % m < 2 ^ 64 := by
  have h1 := Int.emod_nonneg x (show m ≠ 0 by omega)
  have h2 := Int.emod_lt_of_pos x h0
  omega
set_option pp.maxSteps 600 in
theorem c_draw (T : Txt w K mg) : Cal P w K mg base "_law_draw" 1 ["_law_deck_here", "_law_many"] spDraw := by
  obtain ⟨fd, F⟩ := T.d__law_draw
  refine ⟨⟨fd, F.ok sc__law_draw (fun vs H Q E h => ?_) (fun cdv A outer s H vs Q E hr h => ?_), F.bindsN fun _ _ _ _ _ _ us hl => match us, hl with | [_, _], _ => rfl⟩, T.g _ (by decide), F.kp⟩
  · obtain ⟨d, c, n, many, rfl, _⟩ := h
    rfl
  obtain ⟨d, c, n, many, rfl, hm0, hm1, hn, D, q⟩ := h
  obtain ⟨ns, m, t, hd, hc, ht, htn, hns⟩ := D.ex
  have hu := hu_of hr
  have ndc := D.ne
  refine ⟨_, PSs.nox (pss_cons (ps_par (i := 2) (j := 3) rfl sc__law_draw.nd rfl rfl (by decide) rfl rfl (pa_cons (pe_op op_add (pe_dget hu (pv 0) pe_str (fun _ _ => rfl)) pe_int) (pa_cons (pe_dget hu (pv 0) pe_str (fun _ _ => rfl)) pa_nil)) (by rfl))
      (pss_cons (ps_dput hu (pv 0) pe_str (pv 2) rfl)
      (pss_cons (ps_if (pt_cmpR (op_neDK (K := K) rfl hr.units) (pe_dget hu (pv 0) pe_str (fun _ _ => rfl)) (pe_lst pa_nil) (nomark _)) (pss_cons (ps_set (i := 3) sc__law_draw.nd rfl (.inl rfl) (pe_bm0 PySem.F.plainAttrs_list PySem.F.slot_list_pop PySem.F.type_list_pop mt_pop (pe_dget hu (pv 0) pe_str (fun _ _ => rfl))))
      (pss_cons (ps_if (pt_cmpR op_ge (pv 3) (pe_op op_pow pe_int pe_int) (nomark _)) (pss_cons (ps_expr (pe_bm PySem.F.plainAttrs_list PySem.F.slot_list_append PySem.F.type_list_append mt_append (pe_dget hu (pv 0) pe_str (fun _ _ => rfl)) (pa_cons (pe_op op_fdivW (pv 3) (pv 1)) pa_nil)))
      (pss_one (ps_ret (pe_op op_mod (pv 3) (pv 1))))) pss_nil)
      (pss_one (ps_set (i := 3) sc__law_draw.nd rfl (.inl rfl) (pe_op op_add (pv 3) (pe_dget hu (pv 0) pe_str (fun _ _ => rfl))))))) pss_nil)
      (pss_cons (ps_set (i := 4) sc__law_draw.nd rfl (.inl rfl) (pe_op op_mod (pe_op op_mul (pe_op op_add (pe_op op_add (pe_op op_mod (pv 3) pe_int) (pe_op op_mul (pe_op op_mul pe_int (pv 2)) (pv 2))) pe_int) pe_int) pe_int))
      (pss_cons (ps_set (i := 4) sc__law_draw.nd rfl (.inl rfl) (pe_op op_mod (pe_op op_add (pe_op op_add (pe_op op_mul (pv 4) (pv 4)) (pe_op op_mul pe_int (pv 2))) pe_int) pe_int))
      (pss_one (ps_ret (pe_op op_mod (pe_op op_fdiv (pe_op op_mod (pe_op op_mul (pv 4) pe_int) pe_int) pe_int) (pv 1))))))))), ?_⟩
  refine ⟨.ref d, rfl, d, .int t, rfl, get_t hd, t, 1, rfl, rfl, .ref d, rfl, d, .int m, rfl, get_m hd, ?_⟩
  refine ⟨_, _, rfl, .int (t + 1), rfl, .ref d, rfl, d, _, rfl, put_t hd, ?_⟩
  have hd1 : (upd H d (.dK (deckD c m (t + 1)))) d = some (.dK (deckD c m (t + 1))) := upd_same
  have hc1 : (upd H d (.dK (deckD c m (t + 1)))) c = some (.lst (ns.map V.int)) := by rw [upd_ne ndc.symm]; exact hc
  have x1 : Ext d c H (upd H d (.dK (deckD c m (t + 1)))) := Ext.d
  generalize upd H d (.dK (deckD c m (t + 1))) = H1 at hd1 hc1 x1 ⊢
  -- if d['cells'] != []
  refine ⟨.ref d, rfl, d, .ref c, rfl, get_c hd1, Nat.zero_le _, fun p hp => ?_⟩
  have hd2 := upd_get (o := .lst []) hp hd1
  have hc2 := upd_get (o := .lst []) hp hc1
  have x2 : Ext d c H (upd H1 p (.lst [])) := x1.trans (Ext.new hp)
  have hp2 : (upd H1 p (.lst [])) p = some (.lst []) := upd_same
  generalize upd H1 p (.lst []) = H2 at hd2 hc2 x2 hp2 ⊢
  refine ⟨.list (ns.map PyData.int), .list [], .lst (.inl (.inl hc2)) (dpInts ns), .lst (.inl (.inl hp2)) .nil, shaped_ints ns, shaped_ints [], _, rfl, ?_⟩
  have dk : ∀ (H3 : Hp) (ns' : List Int), H3 d = some (.dK (deckD c m (t + 1))) → H3 c = some (.lst (ns'.map V.int)) → ns'.length ≤ 63 → Deck d c (n + 1) H3 :=
    fun H3 ns' a1 a2 a4 => ⟨ns', m, t + 1, a1, a2, by omega, by omega, a4⟩
  cases ns with
  | nil =>
    refine iteF ?_
    exact ⟨.int m, rfl, m, _, rfl, rfl, (by decide : (0 : Int) < 2147483629), .int (t + 1), rfl, _, _, rfl, rfl, .inl ⟨by decide, by decide⟩, .int (t + 1), rfl, _, _, rfl, rfl, .inr ⟨by omega, by omega⟩, _, _, rfl, rfl, _, _, rfl, rfl, _, _, rfl, rfl, .inr ⟨by decide, by decide⟩, _, _, rfl, rfl, (by decide : (0 : Int) < 2147483647),
      _, rfl, _, rfl, _, _, rfl, rfl, .inl (mod_small _ (by decide) (by decide)), .int (t + 1), rfl, _, _, rfl, rfl, .inl ⟨by decide, by decide⟩, _, _, rfl, rfl, _, _, rfl, rfl, _, _, rfl, rfl, (by decide : (0 : Int) < 2147483587),
      _, rfl, _, _, rfl, rfl, .inr ⟨by decide, by decide⟩, _, _, rfl, rfl, (by decide : (0 : Int) < 2147483563), _, _, rfl, rfl, ⟨by decide, by decide⟩, .int many, rfl, _, _, rfl, rfl, hm0,
      q _ _ (Int.emod_nonneg _ (by omega)) (Int.emod_lt_of_pos _ hm0) (dk H2 [] hd2 hc2 hns) x2⟩
  | cons x r =>
    refine iteT ?_
    obtain ⟨y, hy⟩ : ∃ y, (x :: r)[(x :: r).length - 1]? = some y := ⟨_, List.getElem?_eq_getElem (by simp)⟩
    refine ⟨.ref d, rfl, d, .ref c, rfl, get_c hd2, .inl ⟨rfl, _, .inl (.inl hc2)⟩, c, _, .int y, rfl, rfl, hc2, ?_, ?_⟩
    · rw [List.length_map, List.getElem?_map, hy]
      rfl
    have er : ((x :: r).map V.int).dropLast = ((x :: r).dropLast).map V.int := (List.map_dropLast ..).symm
    rw [er]
    have hr1 : ((x :: r).dropLast).length ≤ 62 := by rw [List.length_dropLast]; omega
    generalize (x :: r).dropLast = rs at hr1 ⊢
    generalize eH : upd H2 c (.lst (rs.map V.int)) = H3
    have hd3 : H3 d = some (.dK (deckD c m (t + 1))) := by rw [← eH, upd_ne ndc]; exact hd2
    have hc3 : H3 c = some (.lst (rs.map V.int)) := by rw [← eH]; exact upd_same
    have x3 : Ext d c H H3 := by rw [← eH]; exact x2.trans Ext.c
    refine ⟨.int y, rfl, _, _, rfl, rfl, ⟨by decide, by decide, by decide⟩, _, _, rfl, rfl, _, rfl, ite2 (fun e1 => ?_) (fun e1 => ?_)⟩
    · have wx : CDivW y many := wide_div hm0 (many_small hm0 hm1) (by decide) (by decide)
      refine ⟨.ref d, rfl, d, .ref c, rfl, get_c hd3, .inl ⟨rfl, _, .inl (.inl hc3)⟩, .int y, rfl, .int many, rfl, y, many, rfl, rfl, wx, c, _, _, rfl, rfl, hc3, ?_, ?_⟩
      · rw [List.length_map]
        exact Nat.lt_of_le_of_lt hr1 (by decide)
      refine ⟨.int y, rfl, .int many, rfl, y, many, rfl, rfl, hm0, ?_⟩
      refine q _ _ (Int.emod_nonneg _ (by omega)) (Int.emod_lt_of_pos _ hm0) (dk _ (rs ++ [y / many]) ?_ ?_ ?_) (x3.trans Ext.c)
      · rw [upd_ne ndc]; exact hd3
      · rw [upd_same, List.map_append]; rfl
      · rw [List.length_append]
        show rs.length + 1 ≤ 63
        omega
    refine ⟨.int y, rfl, .ref d, rfl, d, .int m, rfl, get_m hd3, y, m, rfl, rfl, ?_⟩
    exact ⟨.int (y + m), rfl, (y + m), _, rfl, rfl, (by decide : (0 : Int) < 2147483629), .int (t + 1), rfl, _, _, rfl, rfl, .inl ⟨by decide, by decide⟩, .int (t + 1), rfl, _, _, rfl, rfl, .inr ⟨by omega, by omega⟩, _, _, rfl, rfl, _, _, rfl, rfl, _, _, rfl, rfl, .inr ⟨by decide, by decide⟩, _, _, rfl, rfl, (by decide : (0 : Int) < 2147483647),
      _, rfl, _, rfl, _, _, rfl, rfl, .inl (mod_small _ (by decide) (by decide)), .int (t + 1), rfl, _, _, rfl, rfl, .inl ⟨by decide, by decide⟩, _, _, rfl, rfl, _, _, rfl, rfl, _, _, rfl, rfl, (by decide : (0 : Int) < 2147483587),
      _, rfl, _, _, rfl, rfl, .inr ⟨by decide, by decide⟩, _, _, rfl, rfl, (by decide : (0 : Int) < 2147483563), _, _, rfl, rfl, ⟨by decide, by decide⟩, .int many, rfl, _, _, rfl, rfl, hm0,
      q _ _ (Int.emod_nonneg _ (by omega)) (Int.emod_lt_of_pos _ hm0) (dk H3 rs hd3 hc3 (by omega)) x3⟩
/-! ### _law_deck -/
theorem cut_to (xs : List V) (k : Nat) : cutV xs none (some (k : Int)) = xs.take k := by
  unfold cutV
  rw [HT.sIx_none, HT.sIx_nat, Nat.sub_zero, List.drop_zero]
  by_cases h : k ≤ xs.length
  · rw [Nat.min_eq_left h]
  · rw [Nat.min_eq_right (by omega), List.take_length, List.take_of_length_le (by omega)]
theorem cut63 {ns : List Int} (h : ns.length ≤ 63) : cutV (ns.map V.int) none (some 63) = ns.map V.int := by
  have e := cut_to (ns.map V.int) 63
  rw [List.take_of_length_le (by rw [List.length_map]; exact h)] at e
  exact e
def spDeck (K : PySem.W.Frag) : Sp := fun vs H Q _ => ∃ (a : Addr) (ns : List Int), vs = [.ref a] ∧ SqL K H a (ns.map V.int) ∧ ns.length ≤ 63 ∧ ∀ (d c : Addr) (H' : Hp), Same H H' → Deck d c 0 H' → Q (.ref d) H'
set_option pp.maxSteps 600 in
theorem c_deck (T : Txt w K mg) : Cal P w K mg base "_law_deck" 1 ["_law_script"] (spDeck K) := by
  obtain ⟨fd, F⟩ := T.d__law_deck
  refine ⟨⟨fd, F.ok sc__law_deck (fun vs H Q E h => ?_) (fun cdv A outer s H vs Q E hr h => ?_), F.bindsN fun _ _ _ _ _ _ us hl => match us, hl with | [_], _ => rfl⟩, T.g _ (by decide), F.kp⟩
  · obtain ⟨a, ns, rfl, _⟩ := h
    rfl
  obtain ⟨a, ns, rfl, hS, hn, q⟩ := h
  refine ⟨_, PSs.nox (pss_cons (ps_par (i := 1) (j := 2) rfl sc__law_deck.nd rfl rfl (by decide) rfl rfl (pa_cons (pe_callTy call_list_of (by rfl) T.n_list (by decide +kernel) (pa_cons (pe_slice (sl_listK (K := K) rfl) (pv 0) po_none (po_some pe_int)) pa_nil)) (pa_cons pe_int pa_nil)) (by rfl))
      (pss_cons (ps_for PassesOwn.never rfl (pi_list (pv 1)) (pg_name (i := 3) sc__law_deck.nd rfl (.inl rfl)) (pss_one (ps_set (i := 2) sc__law_deck.nd rfl (.inl rfl) (pe_op op_mod (pe_op op_add (pe_op op_add (pe_op op_mul (pv 2) pe_int) (pe_op op_mod (pv 3) pe_int)) pe_int) pe_int))))
      (pss_one (ps_ret (pe_disp (pps_cons pe_str (pe_revL (pv 1)) (pps_cons pe_str (pv 2) (pps_cons pe_str pe_int pps_nil))) (by rfl) (by rfl) (fun z => by cases z) (by decide)))))), ?_⟩
  refine ⟨.ref a, rfl, 63, rfl, a, _, rfl, hS, fun p1 hp1 => ?_⟩
  rw [cut63 hn]
  have s1 : Same H (upd H p1 (.lst (ns.map V.int))) := fun b o h => upd_get hp1 h
  have h1 : (upd H p1 (.lst (ns.map V.int))) p1 = some (.lst (ns.map V.int)) := upd_same
  generalize upd H p1 (.lst (ns.map V.int)) = H1 at s1 h1 ⊢
  refine ⟨p1, _, rfl, .inl (.inl (.inl h1)), fun c0 hc0 => ?_⟩
  have s2 : Same H1 (upd H1 c0 (.lst (ns.map V.int))) := fun b o h => upd_get hc0 h
  have h2 : (upd H1 c0 (.lst (ns.map V.int))) c0 = some (.lst (ns.map V.int)) := upd_same
  have s02 := s1.trans s2
  generalize upd H1 c0 (.lst (ns.map V.int)) = H2 at s2 s02 h2 ⊢
  refine ⟨_, _, rfl, .ref c0, rfl, c0, rfl, ⟨_, .inl (.inl h2)⟩, ?_⟩
  refine for_list (xs := ns.map V.int) (fun i σ H3 => ∃ m x3, σ = [some (.ref a), some (.ref c0), some (.int m), x3] ∧ H3 = H2) ⟨_, _, rfl, rfl⟩ ?_ ?_ ?_
  · rintro i σ H3 _ ⟨m, x3, rfl, rfl⟩
    exact .inl (.inl h2)
  · rintro i x σ H3 hx ⟨m, x3, rfl, rfl⟩
    rw [List.getElem?_map] at hx
    obtain ⟨z, hz, rfl⟩ := Option.map_eq_some_iff.mp hx
    exact ⟨.int m, rfl, _, _, rfl, rfl, .inr ⟨by decide, by decide⟩, .int z, rfl, _, _, rfl, rfl, (by decide : (0 : Int) < 2147483563 + 66), _, _, rfl, rfl, _, _, rfl, rfl, _, _, rfl, rfl, (by decide : (0 : Int) < 2147483587), _, _, rfl, rfl⟩
  · rintro σ H3 ⟨m, x3, rfl, rfl⟩
    intro d hd
    have s3 : Same H3 (upd H3 d (.dK [])) := fun b o h => upd_get hd h
    have h3 : (upd H3 d (.dK [])) d = some (.dK []) := upd_same
    generalize upd H3 d (.dK []) = H4 at s3 h3 ⊢
    refine ⟨.ref c0, rfl, c0, _, rfl, .inl (.inl (s3 _ _ h2)), fun c hc => ?_⟩
    rw [← List.map_reverse]
    have s4 : Same H4 (upd H4 c (.lst (ns.reverse.map V.int))) := fun b o h => upd_get hc h
    have h4 : (upd H4 c (.lst (ns.reverse.map V.int))) c = some (.lst (ns.reverse.map V.int)) := upd_same
    generalize upd H4 c (.lst (ns.reverse.map V.int)) = H5 at s4 h4 ⊢
    have hd5 : H5 d = some (.dK []) := s4 _ _ h3
    refine ⟨.int m, rfl, hd5, [(kC, .ref c), (kM, .int m), (kN, .int 0)], rfl, (by show 3 ≤ 15; decide), ?_⟩
    have ndc : c ≠ d := fun e => by rw [e, hd5] at h4; cases h4
    refine q d c _ (fun b o h => ?_) ⟨ns.reverse, m, 0, upd_same, by rw [upd_ne ndc]; exact h4, by decide, by decide, by rw [List.length_reverse]; exact hn⟩
    have hb := s02 _ _ h
    rw [upd_ne (ne_of_none hb hd)]
    exact s4 _ _ (s3 _ _ hb)
/-! ### _law_pick -/
def spPick (K : PySem.W.Frag) : Sp := fun vs H Q _ => ∃ (d c a : Addr) (n : Nat) (xs : List V), vs = [.ref d, .ref a] ∧ Deck d c n H ∧ n < 2 ^ 60 ∧ SqL K (off d c H) a xs ∧ 0 < xs.length ∧ xs.length ≤ 1000 ∧ ∀ (j : Nat) (y : V) (H' : Hp), xs[j]? = some y → Deck d c (n + 1) H' → Ext d c H H' → Q y H'
theorem c_pick (T : Txt w K mg) : Cal P w K mg base "_law_pick" 2 ["_law_deck_here", "_law_some_here"] (spPick K) := by
  obtain ⟨fd, F⟩ := T.d__law_pick
  have C__law_draw := c_draw (P := P) (w := w) (base := base) T
  refine ⟨⟨fd, F.ok sc__law_pick (fun vs H Q E h => ?_) (fun cdv A outer s H vs Q E hr h => ?_), F.bindsN fun _ _ _ _ _ _ us hl => match us, hl with | [_, _], _ => rfl⟩, T.g _ (by decide), F.kp⟩
  · obtain ⟨d, c, a, n, xs, rfl, _⟩ := h
    rfl
  obtain ⟨d, c, a, n, xs, rfl, D, hn, hS, h0, h1, q⟩ := h
  refine ⟨_, PSs.nox (pss_one (ps_ret (pe_ix (ix_listK (K := K) rfl) (pv 1) (pe_cal C__law_draw (hr.mono (by omega)) (by rfl) (pa_cons (pv 0) (pa_cons (pe_callB (lenK (K := K) rfl) (by rfl) T.n_len (by decide +kernel) (pa_cons (pv 1) pa_nil)) pa_nil))) (fun _ _ => rfl)))), ?_⟩
  refine ⟨.ref a, rfl, .ref d, rfl, .ref a, rfl, .ref a, xs.length, rfl, .inl ⟨xs, offL hS, rfl⟩, d, c, n, xs.length, rfl, by omega, ?_, hn, D, fun r H' r0 r1 D' X => ?_⟩
  · have : (1000 : Int) < 10 ^ 40 := by decide
    omega
  · obtain ⟨j, rfl⟩ := Int.eq_ofNat_of_zero_le r0
    have hj : j < xs.length := by omega
    exact ⟨a, xs, j, xs[j], rfl, rfl, offL (X.sqL hS), atI_nat (List.getElem?_eq_getElem hj), q j _ _ (List.getElem?_eq_getElem hj) D' X⟩
end
end K51

set_option maxHeartbeats 4000000
/-! P54: objects as data: what is_object says. -/
namespace P54
open PySem HG
abbrev byName : List Str := ["definer", "body", "length", "live", "taken", "writes", "prints", "traps", "ends", "pure", "recursive", "constant", "unread", "result", "signature", "importable"]
abbrev byNum : List Str := ["targets", "writes_by", "pure_by"]
abbrev byPar : List Str := ["unused", "argument"]
def isN : PyData → Bool
  | .int _ => true
  | _ => false
def isNat : PyData → Bool
  | .int i => decide (0 ≤ i)
  | _ => false
def items : PyData → List PyData
  | .tuple ds => ds
  | _ => []
def at_ (d : PyData) (i : Nat) : PyData := (items d).getD i .none
/-- is_question -/
def isQ : PyData → Bool
  | .tuple [.str a, x] => if a ∈ byNum then isN x else decide (a ∈ byName) && isS x
  | .tuple [.str a, y, x] => decide (a ∈ byPar) && (isS y && isN x)
  | _ => false
/-- one key of a question's tuple -/
def key : PyData → L2.Key
  | .int i => Sum.inl i
  | .str z => Sum.inr z
  | _ => Sum.inl 0
def keys (d : PyData) : List L2.Key := (items d).map key
def ltK : L2.Key → L2.Key → Bool
  | .inl i, .inl j => decide (i < j)
  | .inr x, .inr y => decide (x.cps.toList < y.cps.toList)
  | _, _ => false
def lexB : List L2.Key → List L2.Key → Bool
  | [], [] => false
  | [], _ :: _ => true
  | _ :: _, [] => false
  | a :: r, b :: s => if a = b then lexB r s else ltK a b
/-- the three orders that are asked -/
def ltD : PyData → PyData → Bool
  | .int i, .int j => decide (i < j)
  | .str x, .str y => decide (x.cps.toList < y.cps.toList)
  | .tuple xs, .tuple ys => lexB (xs.map key) (ys.map key)
  | _, _ => false
def asc : List PyData → Bool
  | a :: b :: r => ltD a b && asc (b :: r)
  | _ => true
def isSig : PyData → Bool
  | .tuple [.tuple ds, b] => ds.all isNat && (asc ds && isB b)
  | _ => false
def isNamed (n : Nat) (d : PyData) : Bool := isT d && (decide ((items d).length = n) && (isS (at_ d 0) && isSig (at_ d 1)))
def isDer : PyData → Bool
  | .tuple [.tuple _, .tuple _] => true
  | _ => false
def areNamed (n : Nat) (d : PyData) : Bool := isT d && ((items d).all (isNamed n) && asc ((items d).map fun e => at_ e 0))
def areDefs (d : PyData) : Bool := areNamed 4 d && (items d).all fun e => isDer (at_ e 3)
def isFact (d : PyData) : Bool := isT d && (decide ((items d).length = 2) && isQ (at_ d 0))
def areFacts (d : PyData) : Bool := isT d && ((items d).all isFact && asc ((items d).map fun e => at_ e 0))
def isObj (d : PyData) : Bool := isT d && (decide ((items d).length = 5) && (isS (at_ d 0) && (isS (at_ d 1) && (areDefs (at_ d 2) && (areNamed 2 (at_ d 3) && areFacts (at_ d 4))))))
/-! ### questions and their order -/
inductive QS : PyData → Prop
  | num {a : Str} {i : Int} : a ∈ byNum → QS (.tuple [.str a, .int i])
  | name {a z : Str} : a ∈ byName → QS (.tuple [.str a, .str z])
  | par {a z : Str} {i : Int} : a ∈ byPar → QS (.tuple [.str a, .str z, .int i])
theorem qs_of {d : PyData} (h : isQ d = true) : QS d := by
  unfold isQ at h
  split at h
  · rename_i a x
    split at h
    · rename_i ha
      cases x with
      | int i => exact .num ha
      | none => simp [isN] at h
      | bool _ => simp [isN] at h
      | str _ => simp [isN] at h
      | list _ => simp [isN] at h
      | tuple _ => simp [isN] at h
      | dict _ => simp [isN] at h
    · simp only [Bool.and_eq_true, decide_eq_true_eq] at h
      cases x with
      | str z => exact .name h.1
      | none => simp [isS] at h
      | bool _ => simp [isS] at h
      | int _ => simp [isS] at h
      | list _ => simp [isS] at h
      | tuple _ => simp [isS] at h
      | dict _ => simp [isS] at h
  · rename_i a y x
    simp only [Bool.and_eq_true, decide_eq_true_eq] at h
    obtain ⟨ha, hy, hx⟩ := h
    cases y <;> simp [isS] at hy
    cases x <;> simp [isN] at hx
    exact .par ha
  · cases h
theorem isQ_of {d : PyData} (h : QS d) : isQ d = true := by
  cases h with
  | num ha => simp only [isQ, if_pos ha, isN]
  | @name a z ha =>
    have : a ∉ byNum := by
      intro h2
      revert a
      decide +kernel
    simp only [isQ, if_neg this, isS, decide_eq_true ha, Bool.and_self]
  | par ha => simp only [isQ, isS, isN, decide_eq_true ha, Bool.and_self]
theorem num_name {a : Str} (h : a ∈ byNum) : a ∉ byName := by
  revert a
  decide +kernel
theorem num_par {a : Str} (h : a ∈ byNum) : a ∉ byPar := by
  revert a
  decide +kernel
theorem name_par {a : Str} (h : a ∈ byName) : a ∉ byPar := by
  revert a
  decide +kernel
theorem lex_int (i j : Int) (r : List L2.Key) : LexR (Sum.inl i :: r) (Sum.inl j :: r) (lexB (Sum.inl i :: r) (Sum.inl j :: r)) ∨ r ≠ [] := by
  by_cases hr : r = []
  · subst hr
    left
    by_cases h : i = j
    · subst h
      have : lexB [Sum.inl i] [Sum.inl i] = false := by simp [lexB]
      rw [this]
      exact .eq .nn
    · have : lexB [Sum.inl i] [Sum.inl j] = decide (i < j) := by simp [lexB, h, ltK]
      rw [this]
      exact .ii h
  · exact .inr hr
theorem lex_head {a b : Str} (h : a ≠ b) (r s : List L2.Key) : LexR (Sum.inr a :: r) (Sum.inr b :: s) (lexB (Sum.inr a :: r) (Sum.inr b :: s)) := by
  have : lexB (Sum.inr a :: r) (Sum.inr b :: s) = decide (a.cps.toList < b.cps.toList) := by simp [lexB, h, ltK]
  rw [this]
  exact .ss h
theorem lex_eq {a : L2.Key} {r s : List L2.Key} (h : LexR r s (lexB r s)) : LexR (a :: r) (a :: s) (lexB (a :: r) (a :: s)) := by
  have : lexB (a :: r) (a :: s) = lexB r s := by simp [lexB]
  rw [this]
  exact .eq h
theorem lex_i {i j : Int} : LexR [Sum.inl i] [Sum.inl j] (lexB [Sum.inl i] [Sum.inl j]) := (lex_int i j []).resolve_right (fun h => h rfl)
theorem lex_s {x y : Str} {r s : List L2.Key} (h : x = y → LexR r s (lexB r s)) : LexR (Sum.inr x :: r) (Sum.inr y :: s) (lexB (Sum.inr x :: r) (Sum.inr y :: s)) := by
  by_cases e : x = y
  · subst e
    exact lex_eq (h rfl)
  · exact lex_head e r s
theorem lex_nil : LexR [] [] (lexB [] []) := .nn
/-- any two questions may be compared -/
theorem q_lex {d e : PyData} (hd : QS d) (he : QS e) : LexR (keys d) (keys e) (ltD d e) := by
  cases hd with
  | @num a i ha =>
    cases he with
    | @num b j hb => exact lex_s fun _ => lex_i
    | @name b z hb => exact lex_s fun e => absurd hb (num_name (e ▸ ha))
    | @par b z j hb => exact lex_s fun e => absurd hb (num_par (e ▸ ha))
  | @name a y ha =>
    cases he with
    | @num b j hb => exact lex_s fun e => absurd ha (num_name (e ▸ hb))
    | @name b z hb => exact lex_s fun _ => lex_s fun _ => lex_nil
    | @par b z j hb => exact lex_s fun e => absurd hb (name_par (e ▸ ha))
  | @par a y i ha =>
    cases he with
    | @num b j hb => exact lex_s fun e => absurd ha (num_par (e ▸ hb))
    | @name b z hb => exact lex_s fun e => absurd ha (name_par (e ▸ hb))
    | @par b z j hb => exact lex_s fun _ => lex_s fun _ => lex_i
end P54

set_option maxHeartbeats 4000000
/-! P54W: how much data show; places in data. -/
namespace P54
open PySem HG PyProof.Rows
mutual
def Sm (k : Nat) : PyData → Prop
  | .none => True
  | .bool _ => True
  | .int i => -(10 ^ 39 + (k : Int)) ≤ i ∧ i ≤ 10 ^ 39 + (k : Int)
  | .str z => OkS (2000 + k) z
  | .tuple ds => SmAll k ds
  | .list ds => SmAll k ds
  | .dict _ => False
def SmAll (k : Nat) : List PyData → Prop
  | [] => True
  | d :: ds => Sm k d ∧ SmAll k ds
end
mutual
def wt : PyData → Nat
  | .tuple ds => 5 + wtAll ds
  | .list ds => 5 + wtAll ds
  | .none => 5
  | .bool _ => 6
  | .int i => (PyData.shown (.int i)).length + 1
  | .str z => (PyData.shown (.str z)).length + 1
  | .dict _ => 0
def wtAll : List PyData → Nat
  | [] => 0
  | d :: ds => wt d + 2 + wtAll ds
end
structure Fine (k W d : Nat) (D : PyData) : Prop where
  sm : Sm k D
  wt : wt D ≤ W
  dp : D.depth ≤ d
theorem smAll_mem {k : Nat} : ∀ {ds : List PyData}, SmAll k ds ↔ ∀ d ∈ ds, Sm k d
  | [] => by simp [SmAll]
  | d :: ds => by
    simp only [SmAll, smAll_mem (ds := ds), List.mem_cons]
    constructor
    · rintro ⟨a, b⟩ x (rfl | hx)
      · exact a
      · exact b x hx
    · exact fun h => ⟨h d (.inl rfl), fun x hx => h x (.inr hx)⟩
theorem wtAll_mem : ∀ {ds : List PyData} {d : PyData}, d ∈ ds → wt d + 2 ≤ wtAll ds
  | e :: ds, d, h => by
    simp only [wtAll]
    rcases List.mem_cons.mp h with rfl | h
    · omega
    · have := wtAll_mem h
      omega
theorem wtAll_len : ∀ ds : List PyData, ds.length ≤ wtAll ds
  | [] => Nat.zero_le _
  | d :: ds => by
    have := wtAll_len ds
    simp only [wtAll, List.length_cons]
    omega
theorem wtAll_app : ∀ ds es : List PyData, wtAll (ds ++ es) = wtAll ds + wtAll es
  | [], es => by simp [wtAll]
  | d :: ds, es => by
    have := wtAll_app ds es
    simp only [List.cons_append, wtAll]
    omega
theorem depthAll_mem : ∀ {ds : List PyData} {d : PyData}, d ∈ ds → d.depth ≤ PyData.depthAll ds
  | e :: ds, d, h => by
    simp only [PyData.depthAll]
    rcases List.mem_cons.mp h with rfl | h
    · omega
    · have := depthAll_mem h
      omega
theorem depthAll_le {n : Nat} : ∀ {ds : List PyData}, (∀ d ∈ ds, d.depth ≤ n) → PyData.depthAll ds ≤ n
  | [], _ => by simp [PyData.depthAll]
  | d :: ds, h => by
    have h1 := h d List.mem_cons_self
    have h2 := depthAll_le (ds := ds) fun x hx => h x (List.mem_cons_of_mem _ hx)
    simp only [PyData.depthAll]
    omega
theorem dp_tup (ds : List PyData) : (PyData.tuple ds).depth = PyData.depthAll ds + 1 := by simp only [PyData.depth]
theorem dp_lst (ds : List PyData) : (PyData.list ds).depth = PyData.depthAll ds + 1 := by simp only [PyData.depth]
theorem wt_tup (ds : List PyData) : wt (.tuple ds) = 5 + wtAll ds := by simp only [wt]
theorem wt_lst (ds : List PyData) : wt (.list ds) = 5 + wtAll ds := by simp only [wt]
theorem sm_tup {k : Nat} {ds : List PyData} : Sm k (.tuple ds) ↔ ∀ d ∈ ds, Sm k d := by simp only [Sm]; exact smAll_mem
theorem sm_lst {k : Nat} {ds : List PyData} : Sm k (.list ds) ↔ ∀ d ∈ ds, Sm k d := by simp only [Sm]; exact smAll_mem
theorem Fine.mem {k W d : Nat} {ds : List PyData} (h : Fine k W d (.tuple ds)) : ∀ e ∈ ds, Fine k W d e := fun e he => by
  refine ⟨sm_tup.mp h.sm e he, ?_, ?_⟩
  · have := wtAll_mem he
    have := h.wt
    rw [wt_tup] at this
    omega
  · have := depthAll_mem he
    have := h.dp
    rw [dp_tup] at this
    omega
mutual
theorem Sm.up {k m : Nat} (hk : k ≤ m) : ∀ {D : PyData}, Sm k D → Sm m D
  | .none, _ => by simp only [Sm]
  | .bool _, _ => by simp only [Sm]
  | .int i, h => by
    simp only [Sm] at h ⊢
    omega
  | .str z, h => by
    simp only [Sm] at h ⊢
    exact h.up (by omega)
  | .tuple ds, h => by
    simp only [Sm] at h ⊢
    exact SmAll.up hk h
  | .list ds, h => by
    simp only [Sm] at h ⊢
    exact SmAll.up hk h
  | .dict _, h => by simp only [Sm] at h
theorem SmAll.up {k m : Nat} (hk : k ≤ m) : ∀ {ds : List PyData}, SmAll k ds → SmAll m ds
  | [], _ => by simp only [SmAll]
  | d :: ds, h => by
    simp only [SmAll] at h ⊢
    exact ⟨Sm.up hk h.1, SmAll.up hk h.2⟩
end
theorem Fine.up {k W d k' W' d' : Nat} {D : PyData} (h : Fine k W d D) (h1 : k ≤ k') (h2 : W ≤ W') (h3 : d ≤ d') : Fine k' W' d' D :=
  ⟨h.sm.up h1, Nat.le_trans h.wt h2, Nat.le_trans h.dp h3⟩
/-! ### what is shown -/
theorem log_small {i : Int} {k : Nat} (hk : k ≤ 1000) (h1 : -(10 ^ 39 + (k : Int)) ≤ i) (h2 : i ≤ 10 ^ 39 + (k : Int)) : i.natAbs.log2 < 1920 := by
  have h : i.natAbs < 2 ^ 200 := by
    have e : (10 : Int) ^ 39 + 1000 < 2 ^ 200 := by decide
    omega
  exact Nat.lt_of_lt_of_le (PySem.Flt.log2_lt_of (by decide) h) (by decide)
mutual
theorem shown_len {k : Nat} (hk : k ≤ 1000) : ∀ {D : PyData}, Sm k D → D.showable = true ∧ D.shown.length ≤ wt D
  | .none, _ => ⟨by simp only [PyData.showable], by decide⟩
  | .bool b, _ => ⟨by simp only [PyData.showable], by cases b <;> decide⟩
  | .int i, h => by
    simp only [Sm] at h
    exact ⟨by simp only [PyData.showable]; exact decide_eq_true (log_small hk h.1 h.2), by simp only [wt]; omega⟩
  | .str z, h => ⟨by simp only [PyData.showable], by simp only [wt]; omega⟩
  | .tuple ds, h => by
    simp only [Sm] at h
    obtain ⟨a, c, e⟩ := shownAll_len hk h
    have h3 := tupleText_len_le (PyData.shownAll ds)
    refine ⟨by simp only [PyData.showable, a], ?_⟩
    simp only [PyData.shown, wt]
    omega
  | .list ds, h => by
    simp only [Sm] at h
    obtain ⟨a, c, e⟩ := shownAll_len hk h
    have h3 := listText_len_le (PyData.shownAll ds)
    refine ⟨by simp only [PyData.showable, a], ?_⟩
    simp only [PyData.shown, wt]
    omega
  | .dict _, h => by simp only [Sm] at h
theorem shownAll_len {k : Nat} (hk : k ≤ 1000) : ∀ {ds : List PyData}, SmAll k ds → PyData.showableAll ds = true ∧ ((PyData.shownAll ds).map (·.length)).sum + 2 * (PyData.shownAll ds).length ≤ wtAll ds ∧ (PyData.shownAll ds).length = ds.length
  | [], _ => ⟨by simp only [PyData.showableAll], by simp only [PyData.shownAll, List.map_nil, List.sum_nil, wtAll, List.length_nil]; omega, by simp only [PyData.shownAll, List.length_nil]⟩
  | d :: ds, h => by
    simp only [SmAll] at h
    obtain ⟨a, c, e⟩ := shownAll_len hk h.2
    obtain ⟨q1, q2⟩ := shown_len hk h.1
    refine ⟨by simp only [PyData.showableAll, q1, a, Bool.and_self], ?_, by simp only [PyData.shownAll, List.length_cons, e]⟩
    simp only [PyData.shownAll, List.map_cons, List.sum_cons, List.length_cons, wtAll]
    omega
end
/-! ### atoms -/
theorem Fine.none (k d : Nat) : Fine k 100 d .none := ⟨by simp only [Sm], by decide, by simp only [PyData.depth]; omega⟩
theorem Fine.bool (k d : Nat) (b : Bool) : Fine k 100 d (.bool b) := ⟨by simp only [Sm], by simp only [P54.wt]; omega, by simp only [PyData.depth]; omega⟩
theorem Fine.int {k : Nat} (d : Nat) {i : Int} (hk : k ≤ 1000) (h1 : -(10 ^ 39 + (k : Int)) ≤ i) (h2 : i ≤ 10 ^ 39 + (k : Int)) : Fine k 2000 d (.int i) := by
  refine ⟨by simp only [Sm]; exact ⟨h1, h2⟩, ?_, by simp only [PyData.depth]; omega⟩
  have e := int_text_len_1921 (log_small hk h1 h2)
  simp only [P54.wt, PyData.shown]
  omega
theorem Fine.str {k m : Nat} (d : Nat) {z : Str} (h : OkS m z) (hm : m ≤ 2000 + k) : Fine k (10 * m + 3) d (.str z) := by
  refine ⟨by simp only [Sm]; exact h.up hm, ?_, by simp only [PyData.depth]; omega⟩
  have e := h.repr
  simp only [P54.wt, PyData.shown]
  omega
theorem wt_pos {D : PyData} {k : Nat} (h : Sm k D) : 1 ≤ wt D := by
  cases D with
  | dict _ => simp only [Sm] at h
  | _ => simp only [wt]; omega
/-! ### tuples -/
theorem wtAll_le {W n : Nat} : ∀ {ds : List PyData}, (∀ e ∈ ds, wt e ≤ W) → ds.length ≤ n → wtAll ds ≤ n * (W + 2)
  | [], _, _ => by simp only [wtAll]; omega
  | d :: ds, h, hn => by
    obtain ⟨m, rfl⟩ : ∃ m, n = m + 1 := ⟨n - 1, by rw [List.length_cons] at hn; omega⟩
    have h1 := h d List.mem_cons_self
    have h2 := wtAll_le (W := W) (n := m) (ds := ds) (fun x hx => h x (List.mem_cons_of_mem _ hx)) (by rw [List.length_cons] at hn; omega)
    simp only [wtAll]
    rw [Nat.add_mul, Nat.one_mul]
    omega
theorem Fine.tupN {k W d n : Nat} {ds : List PyData} (h : ∀ e ∈ ds, Fine k W d e) (hn : ds.length ≤ n) : Fine k (5 + n * (W + 2)) (d + 1) (.tuple ds) := by
  refine ⟨sm_tup.mpr fun e he => (h e he).sm, ?_, ?_⟩
  · rw [wt_tup]
    have := wtAll_le (W := W) (n := n) (fun e he => (h e he).wt) hn
    omega
  · rw [dp_tup]
    have := depthAll_le fun e he => (h e he).dp
    omega
theorem Fine.tup1 {k W d : Nat} {D : PyData} (h : Fine k W d D) : Fine k (W + 7) (d + 1) (.tuple [D]) := by
  refine ⟨sm_tup.mpr fun e he => by rw [List.mem_singleton.mp he]; exact h.sm, ?_, ?_⟩
  · rw [wt_tup]
    have := h.wt
    simp only [wtAll]
    omega
  · have := h.dp
    simp only [PyData.depth, PyData.depthAll]
    omega
theorem Fine.lst1 {k W d : Nat} {D : PyData} (h : Fine k W d D) : Fine k (W + 7) (d + 1) (.list [D]) := by
  refine ⟨sm_lst.mpr fun e he => by rw [List.mem_singleton.mp he]; exact h.sm, ?_, ?_⟩
  · rw [wt_lst]
    have := h.wt
    simp only [wtAll]
    omega
  · have := h.dp
    simp only [PyData.depth, PyData.depthAll]
    omega
theorem Fine.lst {k W d : Nat} {ds : List PyData} (h : Fine k W d (.tuple ds)) : Fine k W d (.list ds) :=
  ⟨sm_lst.mpr (sm_tup.mp h.sm), by have := h.wt; rw [wt_tup] at this; rw [wt_lst]; exact this, by have := h.dp; rw [dp_tup] at this; rw [dp_lst]; exact this⟩
/-- a tuple made of parts of a tuple -/
theorem Fine.sub {k W d : Nat} {ds es : List PyData} (h : Fine k W d (.tuple ds)) (hm : ∀ e ∈ es, e ∈ ds) (hw : wtAll es ≤ wtAll ds) : Fine k W d (.tuple es) := by
  refine ⟨sm_tup.mpr fun e he => sm_tup.mp h.sm e (hm e he), ?_, ?_⟩
  · have := h.wt
    rw [wt_tup] at this ⊢
    omega
  · have h1 := h.dp
    rw [dp_tup] at h1 ⊢
    have : PyData.depthAll es ≤ PyData.depthAll ds := depthAll_le fun e he => depthAll_mem (hm e he)
    omega
/-! ### places -/
mutual
def places : PyData → List (List Nat)
  | .tuple ds => [] :: placesAll 0 ds
  | _ => [[]]
def placesAll (i : Nat) : List PyData → List (List Nat)
  | [] => []
  | d :: ds => (places d).map (i :: ·) ++ placesAll (i + 1) ds
end
def getAt : PyData → List Nat → PyData
  | D, [] => D
  | D, i :: p => getAt (at_ D i) p
def putAt : PyData → List Nat → PyData → PyData
  | _, [], P => P
  | D, i :: p, P => .tuple ((items D).take i ++ [putAt (at_ D i) p P] ++ (items D).drop (i + 1))
def valid : PyData → List Nat → Prop
  | _, [] => True
  | D, i :: p => (∃ ds, D = .tuple ds ∧ i < ds.length) ∧ valid (at_ D i) p
theorem placesAll_len : ∀ (i : Nat) (ds : List PyData), (∀ d ∈ ds, (places d).length ≤ wt d) → (placesAll i ds).length ≤ wtAll ds
  | _, [], _ => by simp [placesAll]
  | i, d :: ds, h => by
    have h1 := h d List.mem_cons_self
    have h2 := placesAll_len (i + 1) ds fun x hx => h x (List.mem_cons_of_mem _ hx)
    simp only [placesAll, List.length_append, List.length_map, wtAll]
    omega
mutual
theorem places_len {k : Nat} : ∀ {D : PyData}, Sm k D → (places D).length ≤ wt D
  | .none, _ => by decide
  | .bool _, _ => by simp only [places, wt, List.length_singleton]; omega
  | .int _, _ => by simp only [places, wt, List.length_singleton]; omega
  | .str _, _ => by simp only [places, wt, List.length_singleton]; omega
  | .list ds, _ => by simp only [places, wt, List.length_singleton]; omega
  | .dict _, h => by simp only [Sm] at h
  | .tuple ds, h => by
    simp only [Sm] at h
    have := placesAll_lenS (i := 0) h
    simp only [places, wt, List.length_cons]
    omega
theorem placesAll_lenS {k i : Nat} : ∀ {ds : List PyData}, SmAll k ds → (placesAll i ds).length ≤ wtAll ds
  | [], _ => by simp [placesAll]
  | d :: ds, h => by
    simp only [SmAll] at h
    have h1 := places_len h.1
    have h2 := placesAll_lenS (i := i + 1) h.2
    simp only [placesAll, List.length_append, List.length_map, wtAll]
    omega
end
theorem placesAll_mem {i : Nat} {p : List Nat} : ∀ {ds : List PyData}, p ∈ placesAll i ds → ∃ j q d, p = (i + j) :: q ∧ ds[j]? = some d ∧ q ∈ places d
  | [], h => by simp [placesAll] at h
  | d :: ds, h => by
    simp only [placesAll, List.mem_append, List.mem_map] at h
    rcases h with ⟨q, hq, rfl⟩ | h
    · exact ⟨0, q, d, rfl, rfl, hq⟩
    · obtain ⟨j, q, e, rfl, he, hq⟩ := placesAll_mem (i := i + 1) h
      exact ⟨j + 1, q, e, by rw [Nat.add_assoc, Nat.add_comm 1], by simpa using he, hq⟩
theorem at_get {ds : List PyData} {j : Nat} {d : PyData} (h : ds[j]? = some d) : at_ (.tuple ds) j = d := by
  show ds.getD j .none = d
  rw [List.getD_eq_getElem?_getD, h]
  rfl
theorem places_valid : ∀ {p : List Nat} {D : PyData}, p ∈ places D → valid D p
  | [], _, _ => by simp only [valid]
  | i :: p, D, h => by
    cases D with
    | tuple ds =>
      simp only [places, List.mem_cons] at h
      rcases h with h | h
      · cases h
      · obtain ⟨j, q, d, e, hd, hq⟩ := placesAll_mem h
        injection e with e1 e2
        subst e2
        have : i = j := by omega
        subst this
        simp only [valid]
        refine ⟨⟨ds, rfl, (List.getElem?_eq_some_iff.mp hd).1⟩, ?_⟩
        rw [at_get hd]
        exact places_valid hq
    | none => simp [places] at h
    | bool _ => simp [places] at h
    | int _ => simp [places] at h
    | str _ => simp [places] at h
    | list _ => simp [places] at h
    | dict _ => simp [places] at h
theorem valid_len : ∀ {p : List Nat} {D : PyData}, valid D p → p.length ≤ D.depth
  | [], _, _ => Nat.zero_le _
  | i :: p, D, h => by
    simp only [valid] at h
    obtain ⟨⟨ds, rfl, hi⟩, hv⟩ := h
    have h1 := valid_len hv
    have hm : at_ (.tuple ds) i ∈ ds := by
      rw [at_get (List.getElem?_eq_getElem hi)]
      exact List.getElem_mem hi
    have := depthAll_mem hm
    rw [dp_tup, List.length_cons]
    omega
theorem getAt_fine {k W d : Nat} : ∀ {p : List Nat} {D : PyData}, valid D p → Fine k W d D → Fine k W d (getAt D p)
  | [], _, _, h => h
  | i :: p, D, hv, h => by
    simp only [valid] at hv
    obtain ⟨⟨ds, rfl, hi⟩, hv⟩ := hv
    simp only [getAt]
    refine getAt_fine hv ?_
    rw [at_get (List.getElem?_eq_getElem hi)]
    exact h.mem _ (List.getElem_mem hi)
theorem take_drop {ds : List PyData} {i : Nat} (hi : i < ds.length) : ds = ds.take i ++ [at_ (.tuple ds) i] ++ ds.drop (i + 1) := by
  rw [at_get (List.getElem?_eq_getElem hi)]
  simp
theorem putAt_fine {k W d U e : Nat} {P : PyData} (hP : Fine k U e P) : ∀ {p : List Nat} {D : PyData}, valid D p → Fine k W d D → Fine k (W + U) (d + e) (putAt D p P)
  | [], _, _, _ => hP.up (Nat.le_refl _) (by omega) (by omega)
  | i :: p, D, hv, h => by
    simp only [valid] at hv
    obtain ⟨⟨ds, rfl, hi⟩, hv⟩ := hv
    have hm : at_ (.tuple ds) i ∈ ds := by
      rw [at_get (List.getElem?_eq_getElem hi)]
      exact List.getElem_mem hi
    have hw := h.wt
    have hd := h.dp
    rw [wt_tup] at hw
    rw [dp_tup] at hd
    have ew : wtAll ds = wtAll (ds.take i) + (wt (at_ (.tuple ds) i) + 2) + wtAll (ds.drop (i + 1)) := by
      conv => lhs; rw [take_drop hi]
      rw [wtAll_app, wtAll_app]
      simp only [wtAll]
    have ih := putAt_fine (W := wt (at_ (.tuple ds) i)) (d := d - 1) hP hv ⟨sm_tup.mp h.sm _ hm, Nat.le_refl _, by have := depthAll_mem hm; omega⟩
    simp only [putAt, items]
    refine ⟨sm_tup.mpr fun x hx => ?_, ?_, ?_⟩
    · simp only [List.mem_append, List.mem_singleton] at hx
      rcases hx with (hx | rfl) | hx
      · exact sm_tup.mp h.sm x (List.mem_of_mem_take hx)
      · exact ih.sm
      · exact sm_tup.mp h.sm x (List.mem_of_mem_drop hx)
    · rw [wt_tup, wtAll_app, wtAll_app]
      have := ih.wt
      simp only [wtAll]
      omega
    · rw [dp_tup]
      have : PyData.depthAll (ds.take i ++ [putAt (at_ (.tuple ds) i) p P] ++ ds.drop (i + 1)) ≤ d - 1 + e := depthAll_le fun x hx => by
        simp only [List.mem_append, List.mem_singleton] at hx
        rcases hx with (hx | rfl) | hx
        · have := depthAll_mem (List.mem_of_mem_take hx)
          omega
        · exact ih.dp
        · have := depthAll_mem (List.mem_of_mem_drop hx)
          omega
      omega
end P54

set_option maxHeartbeats 4000000
/-! P52: graphs as data, and what the code of one is. -/
namespace P52
open PySem HG
inductive Opd where
  | w (i : Int)
  | v (n : Nat)
  deriving DecidableEq
abbrev vD (n : Nat) : PyData := .tuple [.str "var", .int (n : Int)]
def oD : Opd → PyData
  | .w i => .int i
  | .v n => vD n
def ovD : Option Nat → PyData
  | none => .none
  | some n => .int (n : Int)
inductive Rw where
  | cw (v : Nat) (i : Int)
  | cf (v : Nat) (x : Str)
  | cp (v u : Nat)
  | op (v : Nat) (x : Str) (a b : Opd)
  | ld (v : Nat) (x : Str)
  | rd (v : Nat) (x : Str) (a : Opd)
  | ca (v : Option Nat) (x : Str) (as : List Opd)
  | ap (v : Option Nat) (f : Nat) (as : List Opd)
  | st (x : Str) (a : Opd)
  | pr (a : Opd)
  | wr (x : Str) (a b : Opd)
def Rw.word : Rw → Str
  | .cw .. => "const"
  | .cf .. => "const"
  | .cp .. => "copy"
  | .op .. => "op"
  | .ld .. => "load"
  | .rd .. => "read"
  | .ca .. => "call"
  | .ap .. => "apply"
  | .st .. => "store"
  | .pr .. => "print"
  | .wr .. => "write"
def Rw.rest : Rw → List PyData
  | .cw v i => [.int v, .int i]
  | .cf v x => [.int v, .tuple [.str "func", .str x]]
  | .cp v u => [.int v, .int u]
  | .op v x a b => [.int v, .str x, oD a, oD b]
  | .ld v x => [.int v, .str x]
  | .rd v x a => [.int v, .str x, oD a]
  | .ca v x as => [ovD v, .str x, .tuple (as.map oD)]
  | .ap v f as => [ovD v, .int f, .tuple (as.map oD)]
  | .st x a => [.str x, oD a]
  | .pr a => [oD a]
  | .wr x a b => [.str x, oD a, oD b]
abbrev Rw.L (R : Rw) : List PyData := .str R.word :: R.rest
abbrev Rw.D (R : Rw) : PyData := .tuple R.L
def Rw.ops : Rw → List Opd
  | .cw .. => []
  | .cf .. => []
  | .cp _ u => [.v u]
  | .op _ _ a b => [a, b]
  | .ld .. => []
  | .rd _ _ a => [a]
  | .ca _ _ as => as
  | .ap _ f as => .v f :: as
  | .st _ a => [a]
  | .pr a => [a]
  | .wr _ a b => [a, b]
def Rw.set : Rw → Option Nat
  | .cw v _ => some v
  | .cf v _ => some v
  | .cp v _ => some v
  | .op v _ _ _ => some v
  | .ld v _ => some v
  | .rd v _ _ => some v
  | .ca v _ _ => v
  | .ap v _ _ => v
  | .st .. => none
  | .pr .. => none
  | .wr .. => none
/-! ### in slots -/
abbrev sv (S : List PyData) (n : Nat) : PyData := S.getD n .none
def oS (S : List PyData) : Opd → PyData
  | .w i => .int i
  | .v n => .tuple [.str "var", sv S n]
def ovS (S : List PyData) : Option Nat → PyData
  | none => .none
  | some n => sv S n
/-- with the operands in slots -/
def Rw.wo (S : List PyData) : Rw → List PyData
  | .cw v i => [.str "const", .int v, .int i]
  | .cf v x => [.str "const", .int v, .tuple [.str "func", .str x]]
  | .cp v u => [.str "copy", .int v, sv S u]
  | .op v x a b => [.str "op", .int v, .str x, oS S a, oS S b]
  | .ld v x => [.str "load", .int v, .str x]
  | .rd v x a => [.str "read", .int v, .str x, oS S a]
  | .ca v x as => [.str "call", ovD v, .str x, .tuple (as.map (oS S))]
  | .ap v f as => [.str "apply", ovD v, sv S f, .tuple (as.map (oS S))]
  | .st x a => [.str "store", .str x, oS S a]
  | .pr a => [.str "print", oS S a]
  | .wr x a b => [.str "write", .str x, oS S a, oS S b]
def Rw.S (S : List PyData) : Rw → List PyData
  | .cw v i => [.str "const", sv S v, .int i]
  | .cf v x => [.str "const", sv S v, .tuple [.str "func", .str x]]
  | .cp v u => [.str "copy", sv S v, sv S u]
  | .op v x a b => [.str "op", sv S v, .str x, oS S a, oS S b]
  | .ld v x => [.str "load", sv S v, .str x]
  | .rd v x a => [.str "read", sv S v, .str x, oS S a]
  | .ca v x as => [.str "call", ovS S v, .str x, .tuple (as.map (oS S))]
  | .ap v f as => [.str "apply", ovS S v, sv S f, .tuple (as.map (oS S))]
  | .st x a => [.str "store", .str x, oS S a]
  | .pr a => [.str "print", oS S a]
  | .wr x a b => [.str "write", .str x, oS S a, oS S b]
/-! ### ends -/
inductive Stp where
  | jp (n : Nat)
  | br (a : Opd) (n m : Nat)
  | rt (a : Option Opd)
  | ht (i : Int)
def ooD : Option Opd → PyData
  | none => .none
  | some a => oD a
def ooS (S : List PyData) : Option Opd → PyData
  | none => .none
  | some a => oS S a
def Stp.word : Stp → Str
  | .jp _ => "jump"
  | .br .. => "branch"
  | .rt _ => "return"
  | .ht _ => "halt"
def Stp.rest : Stp → List PyData
  | .jp n => [.int n]
  | .br a n m => [oD a, .int n, .int m]
  | .rt a => [ooD a]
  | .ht i => [.int i]
abbrev Stp.L (E : Stp) : List PyData := .str E.word :: E.rest
abbrev Stp.D (E : Stp) : PyData := .tuple E.L
def Stp.ops : Stp → List Opd
  | .jp _ => []
  | .br a _ _ => [a]
  | .rt none => []
  | .rt (some a) => [a]
  | .ht _ => []
def Stp.S (S : List PyData) : Stp → List PyData
  | .jp n => [.str "jump", .int n]
  | .br a n m => [.str "branch", oS S a, .int n, .int m]
  | .rt a => [.str "return", ooS S a]
  | .ht i => [.str "halt", .int i]
/-- the instructions of an end; the next block is k -/
def Stp.code (S : List PyData) (k : Nat) : Stp → List (List PyData)
  | .jp n => if n = k then [] else [[.str "jump", .int n]]
  | .br a n m => if m = k then [[.str "branch", oS S a, .int n]] else if n = k then [[.str "unless", oS S a, .int m]] else [[.str "branch", oS S a, .int n], [.str "jump", .int m]]
  | .rt a => [[.str "return", ooS S a]]
  | .ht i => [[.str "halt", .int i]]
def Stp.to : Stp → List Nat
  | .jp n => [n]
  | .br _ n m => [n, m]
  | .rt _ => []
  | .ht _ => []
/-! ### blocks, graphs -/
structure Blk where
  rows : List Rw
  stop : Stp
abbrev Blk.D (b : Blk) : PyData := .tuple [.tuple (b.rows.map Rw.D), b.stop.D]
structure Gr where
  count : Nat
  blocks : List Blk
abbrev Gr.D (g : Gr) : PyData := .tuple [.int (g.count : Int), .tuple (g.blocks.map Blk.D)]
def Blk.code (S : List PyData) (k : Nat) (b : Blk) : List (List PyData) := b.rows.map (Rw.S S) ++ b.stop.code S (k + 1)
def partsFrom (S : List PyData) : Nat → List Blk → List (List (List PyData))
  | _, [] => []
  | k, b :: r => b.code S k :: partsFrom S (k + 1) r
abbrev Gr.parts (S : List PyData) (g : Gr) : List (List (List PyData)) := partsFrom S 0 g.blocks
/-- where each part begins -/
def startsFrom : Nat → List (List (List PyData)) → List Nat
  | _, [] => []
  | n, p :: r => n :: startsFrom (n + p.length) r
def isJ (x : Str) : Bool := L2.inV (.str x) [.str "jump", .str "branch", .str "unless"]
def place (ps : List Nat) : List PyData → List PyData
  | .str x :: ds => if isJ x = true then (.str x :: ds).dropLast ++ [match ((PyData.str x :: ds).getLast?) with
      | some (.int i) => .int ((ps.getD i.toNat 0 : Nat) : Int)
      | _ => .none] else .str x :: ds
  | ds => ds
def Gr.code (S : List PyData) (g : Gr) : List (List PyData) := (g.parts S).flatten.map (place (startsFrom 0 (g.parts S)))
/-! ### variables -/
def Opd.vars : Opd → List Nat
  | .w _ => []
  | .v n => [n]
def opsVars (l : List Opd) : List Nat := l.flatMap Opd.vars
def Rw.vars (R : Rw) : List Nat := opsVars R.ops ++ R.set.toList
def Blk.vars (b : Blk) : List Nat := opsVars b.stop.ops ++ b.rows.flatMap Rw.vars
def Gr.vars (g : Gr) : List Nat := g.blocks.flatMap Blk.vars
/-- its variables and its places are there -/
structure Gr.Ok (g : Gr) (S : List PyData) : Prop where
  vars : ∀ n ∈ g.vars, n < S.length
  to : ∀ b ∈ g.blocks, ∀ n ∈ b.stop.to, n < g.blocks.length
end P52

set_option maxHeartbeats 4000000
/-! P52C: parts and their starts, block by block. -/
namespace P52
open PySem HG
theorem partsFrom_snoc (S : List PyData) (b : Blk) : ∀ (k : Nat) (l : List Blk), partsFrom S k (l ++ [b]) = partsFrom S k l ++ [b.code S (k + l.length)]
  | k, [] => rfl
  | k, x :: l => by
    rw [List.cons_append]
    simp only [partsFrom]
    rw [partsFrom_snoc S b (k + 1) l, List.length_cons, List.cons_append, Nat.add_assoc, Nat.add_comm 1]
theorem startsFrom_snoc (q : List (List PyData)) : ∀ (n : Nat) (l : List (List (List PyData))), startsFrom n (l ++ [q]) = startsFrom n l ++ [n + l.flatten.length]
  | n, [] => rfl
  | n, x :: l => by
    rw [List.cons_append]
    simp only [startsFrom]
    rw [startsFrom_snoc q (n + x.length) l, List.flatten_cons, List.length_append, List.cons_append, Nat.add_assoc]
theorem parts_take {S : List PyData} {bs : List Blk} {i : Nat} {b : Blk} (h : bs[i]? = some b) : partsFrom S 0 (bs.take (i + 1)) = partsFrom S 0 (bs.take i) ++ [b.code S i] := by
  have hi := (List.getElem?_eq_some_iff.mp h).1
  rw [List.take_add_one, h]
  show partsFrom S 0 (bs.take i ++ [b]) = _
  rw [partsFrom_snoc, List.length_take, Nat.zero_add, Nat.min_eq_left (by omega)]
theorem partsFrom_len (S : List PyData) : ∀ (k : Nat) (l : List Blk), (partsFrom S k l).length = l.length
  | _, [] => rfl
  | k, b :: l => by simp only [partsFrom, List.length_cons, partsFrom_len S (k + 1) l]
theorem startsFrom_len : ∀ (n : Nat) (l : List (List (List PyData))), (startsFrom n l).length = l.length
  | _, [] => rfl
  | n, p :: l => by simp only [startsFrom, List.length_cons, startsFrom_len (n + p.length) l]
theorem partsFrom_mem {S : List PyData} {p : List (List PyData)} : ∀ {k : Nat} {l : List Blk}, p ∈ partsFrom S k l → ∃ b ∈ l, ∃ j, p = b.code S j
  | k, [], h => by cases h
  | k, b :: l, h => by
    simp only [partsFrom] at h
    rcases List.mem_cons.mp h with z | z
    · exact ⟨b, List.mem_cons_self, k, z⟩
    · obtain ⟨b', h1, h2⟩ := partsFrom_mem z
      exact ⟨b', List.mem_cons_of_mem _ h1, h2⟩
theorem code_len (S : List PyData) (k : Nat) (E : Stp) : (E.code S k).length ≤ 2 := by
  cases E with
  | jp n =>
    simp only [Stp.code]
    split <;> simp
  | br a n m =>
    simp only [Stp.code]
    split
    · simp
    · split <;> simp
  | rt a => simp [Stp.code]
  | ht i => simp [Stp.code]
theorem flat_len {S : List PyData} {m : Nat} : ∀ {k : Nat} {l : List Blk}, (∀ b ∈ l, b.rows.length ≤ m) → (partsFrom S k l).flatten.length ≤ l.length * (m + 2)
  | _, [], _ => by simp [partsFrom]
  | k, b :: l, h => by
    have h1 := flat_len (S := S) (k := k + 1) (l := l) fun b hb => h b (List.mem_cons_of_mem _ hb)
    have h2 := h b List.mem_cons_self
    have h3 := code_len S (k + 1) b.stop
    simp only [partsFrom, List.flatten_cons, List.length_append, List.length_cons, Blk.code, List.length_map]
    rw [Nat.add_mul, Nat.one_mul]
    omega
/-- its variables are there, its places too; it is not too great -/
structure Gr.In (g : Gr) (S : List PyData) : Prop where
  ops : ∀ b ∈ g.blocks, ∀ R ∈ b.rows, ∀ a ∈ R.ops, ∀ n ∈ a.vars, n < S.length
  set : ∀ b ∈ g.blocks, ∀ R ∈ b.rows, ∀ n, R.set = some n → n < S.length
  end_ : ∀ b ∈ g.blocks, ∀ a ∈ b.stop.ops, ∀ n ∈ a.vars, n < S.length
  to : ∀ b ∈ g.blocks, ∀ n ∈ b.stop.to, n < g.blocks.length
  len : ∀ b ∈ g.blocks, ∀ R ∈ b.rows, R.ops.length ≤ 1000
  rows : ∀ b ∈ g.blocks, b.rows.length ≤ 100
  many : g.blocks.length ≤ 100
end P52

set_option maxHeartbeats 4000000
/-! HU: a lambda that captures one name, handed to a def and called there. The cell of the name is known to the def that is called (CellO), and hidden again while the lambda runs. -/
namespace HG
open PySem PySem.Spec PyProof.Rows L2 LamX NdefX
def CellO (c : Addr) (o : Obj) : HO := .ext fun h => h.get? c = some o
def CellV (o : Obj) (v : V) : Prop := ∃ u, o.data = .cell (some u) ∧ RelV v u
structure LF where
  qual : Str
  params : Arguments
  body : Expr
  scope : Scope
def LamO (f : Addr) (F : LF) (y : Str) (c' cs : Addr) : HO :=
  .ext fun h => ∃ (cl : List (Str × Addr)) (pm ctv : Value), h.get? f = some (PySem.W.kla_obj "<lambda>" F.qual F.params F.body F.scope cl pm c' ctv) ∧ cl.lookup y = some cs ∧ ∀ z c, cl.lookup z = some c → z = y
def hide (H : Hp) (c : Addr) : Hp := fun b => if b = c then none else H b
theorem hide_same {H : Hp} {c : Addr} : hide H c c = none := if_pos rfl
theorem hide_ne {H : Hp} {c b : Addr} (h : b ≠ c) : hide H c b = H b := if_neg h
theorem hide_none {H : Hp} {c b : Addr} (h : H b = none) : hide H c b = none := by
  unfold hide
  split
  · rfl
  · exact h
section
variable {P : Program} {w : World} {K : PySem.W.Frag} {mg : Str → Option Value} {base : Heap} {A : Around} {outer : List Env} {s s' : Shared} {H : Hp} {h : Heap} {c : Addr} {o : Obj} {Q : VK} {E : XK} {r : Result}
theorem cellO_get (hok : HOk P w H h) (e : H c = some (CellO c o)) : h.get? c = some o := by
  obtain ⟨z, _, _⟩ := hok c _ e
  exact z
theorem cell_ne {u : HO} (hu : ∀ φ, u ≠ .ext φ) {b : Addr} (e : H c = some (CellO c o)) (q : H b = some u) : b ≠ c := fun z => by
  rw [z, e] at q
  exact hu _ (Option.some.inj q).symm
theorem hok_hide (hok : HOk P w H h) (e : H c = some (CellO c o)) : HOk P w (hide H c) h := by
  intro a u q
  have na : a ≠ c := fun z => by
    rw [z, hide_same] at q
    cases q
  rw [hide_ne na] at q
  refine (hok a u q).stay (fun _ _ _ z => z) (fun b z => ?_) (fun b xs z => ?_)
  · rw [hide_ne (cell_ne (fun _ y => by cases y) e z)]; exact z
  · rw [hide_ne (cell_ne (fun _ y => by cases y) e z)]; exact z
theorem hok_adopt (hok : HOk P w H h) (n : H c = none) (g : h.get? c = some o) : HOk P w (upd H c (CellO c o)) h := by
  intro a u q
  by_cases z : a = c
  · subst z
    rw [upd_same] at q
    cases q
    exact ⟨g, ⟨o, g⟩, fun h1 h2 p st => st _ p⟩
  · rw [upd_ne z] at q
    refine (hok a u q).stay (fun _ _ _ z => z) (fun b y => ?_) (fun b xs y => ?_)
    · rw [upd_ne (ne_of_none y n)]; exact y
    · rw [upd_ne (ne_of_none y n)]; exact y
theorem env0_hide (e0 : Env0 P w K mg base A outer s H) (e : H c = some (CellO c o)) : Env0 P w K mg base A outer s (hide H c) where
  frames := e0.frames
  mod := e0.mod
  bs := fun b u q => ⟨(e0.bs b u q).1, hide_none (e0.bs b u q).2⟩
  bsz := e0.bsz
  funs := e0.funs
  frf := fun b hb => hide_none (e0.frf b hb)
  hok := hok_hide e0.hok e
  bare := e0.bare
theorem env0_adopt (e0 : Env0 P w K mg base A outer s H) (n : H c = none) (g : s.heap.get? c = some o) (nb : base.get? c = none) (nf : c ∉ frs outer) : Env0 P w K mg base A outer s (upd H c (CellO c o)) where
  frames := e0.frames
  mod := e0.mod
  bs := fun b u q => ⟨(e0.bs b u q).1, by
    rw [upd_ne (fun z => by rw [z, nb] at q; cases q)]
    exact (e0.bs b u q).2⟩
  bsz := e0.bsz
  funs := e0.funs
  frf := fun b hb => by
    have z : b ≠ c := fun z => nf (by rw [← z]; exact hb)
    rw [upd_ne z]
    exact e0.frf b hb
  hok := hok_adopt e0.hok n g
  bare := e0.bare
theorem cr_hide (e : H c = some (CellO c o)) (e0 : Env0 P w K mg base A outer s H) (h : CR CX0 outer P w (hide H c) s (fun v H2 => H2 c = none → Q v (upd H2 c (CellO c o))) E r s') : CR CX0 outer P w H s Q E r s' := by
  cases r with
  | error _ => exact h.elim
  | ok fl =>
    cases fl with
    | next => exact h.elim
    | brk => exact h.elim
    | cont => exact h.elim
    | ret u =>
      obtain ⟨v, H2, os, bare, un, hok2, rv, q⟩ := h
      have nf : c ∉ frs outer := fun z => by
        have := e0.frf c z
        rw [e] at this
        cases this
      have g := cellO_get e0.hok e
      have g' : s'.heap.get? c = some o := un.keep c o g hide_same nf (by simp)
      have n2 : H2 c = none := un.free c o g hide_same (by simp)
      have nn : ∀ {b : Addr}, H b = none → b ≠ c := fun {b} n z => by rw [z, e] at n; cases n
      refine ⟨v, upd H2 c (CellO c o), os, bare, ⟨fun b u q n hb hx => un.keep b u q (hide_none n) hb hx, fun b u q n hb hx => un.slot b u q (hide_none n) hb hx, fun b u q n hx => ?_, un.there, fun b xs q => ?_, fun b o' u q => ?_, fun b ps q => ?_⟩, hok_adopt hok2 n2 g', rv, q n2⟩
      · rw [upd_ne (nn n)]
        exact un.free b u q (hide_none n) hx
      · have nb := cell_ne (u := .tup xs) (fun _ y => by cases y) e q
        rw [upd_ne nb]
        exact un.tups b xs ((hide_ne nb).trans q)
      · have nb := cell_ne (u := .frz o' u) (fun _ y => by cases y) e q
        rw [upd_ne nb]
        exact un.frzs b o' u ((hide_ne nb).trans q)
      · have nb := cell_ne (u := .tbl ps) (fun _ y => by cases y) e q
        rw [upd_ne nb]
        exact un.tbls b ps ((hide_ne nb).trans q)
theorem cr_adopt (n : H c = none) (g : s.heap.get? c = some o) (nf : c ∉ frs outer) (h : CR CX0 outer P w (upd H c (CellO c o)) s (fun v H2 => H2 c = some (CellO c o) ∧ Q v (hide H2 c)) E r s') : CR CX0 outer P w H s Q E r s' := by
  cases r with
  | error _ => exact h.elim
  | ok fl =>
    cases fl with
    | next => exact h.elim
    | brk => exact h.elim
    | cont => exact h.elim
    | ret u =>
      obtain ⟨v, H2, os, bare, un, hok2, rv, e2, q⟩ := h
      have g' := cellO_get hok2 e2
      have up : ∀ {b : Addr} {u : HO}, H b = some u → upd H c (CellO c o) b = some u := fun {b u} q => by rw [upd_ne (ne_of_none q n)]; exact q
      refine ⟨v, hide H2 c, os, bare, ⟨fun b u qb n1 hb hx => ?_, fun b u q n1 hb hx => ?_, fun b u q n1 hx => ?_, fun b u q hx => un.there b u q hx, fun b xs q => ?_, fun b o' u q => ?_, fun b ps q => ?_⟩, hok_hide hok2 e2, rv, q⟩
      · by_cases z : b = c
        · subst z
          rw [g] at qb
          cases qb
          exact g'
        · exact un.keep b u qb (by rw [upd_ne z]; exact n1) hb hx
      · have z : b ≠ c := fun z => nf (by rw [← z]; exact hb)
        exact un.slot b u q (by rw [upd_ne z]; exact n1) hb hx
      · by_cases z : b = c
        · rw [z]; exact hide_same
        · exact hide_none (un.free b u q (by rw [upd_ne z]; exact n1) hx)
      · rw [hide_ne (ne_of_none q n)]; exact un.tups b xs (up q)
      · rw [hide_ne (ne_of_none q n)]; exact un.frzs b o' u (up q)
      · rw [hide_ne (ne_of_none q n)]; exact un.tbls b ps (up q)
end
/-! ### the lambda's run -/
structure LOk (P : Program) (w : World) (K : PySem.W.Frag) (mg : Str → Option Value) (base : Heap) (k : Nat) (F : LF) (y : Str) (sp : V → Sp) : Prop where
  run : ∀ (A : Around) (outer : List Env) (s : Shared) (H : Hp) (us : List Value) (vs : List V) (v : V) (cs c' f : Addr) (o : Obj) (Q : VK), Room k A → Env0 P w K mg base A outer s H → H f = some (LamO f F y c' cs) → H c' = some (CodeO c' F.qual) →
    H cs = some (CellO cs o) → CellV o v → Vals vs us → sp v vs (hide H cs) (fun r H2 => H2 cs = none → Q r (upd H2 cs (CellO cs o))) E0 → codeAny (model P w) A (.call (.ref f) ⟨us, []⟩) (CR CX0 outer P w H s Q E0) s
abbrev LF.nf (F : LF) (cl : List (Str × Addr)) (c' : Addr) : NF := ⟨"<lambda>", F.qual, F.params, [], F.scope, cl, c'⟩
theorem lok_of {P : Program} {w : World} {K : PySem.W.Frag} {mg : Str → Option Value} {base : Heap} {k : Nat} {F : LF} {y : Str} {sp : V → Sp} {N ps : List Str} (S : NScope N ps [y] F.scope)
    (hb : ∀ (cl : List (Str × Addr)) (pm cv ctv : Value) (us : List Value), us.length = ps.length → bindArgs (PySem.W.kla_fn "<lambda>" F.qual F.params F.body F.scope cl pm cv ctv) ⟨us, []⟩ = pure (ps.zip us))
    (len : ∀ v vs H Q, sp v vs H Q E0 → vs.length = ps.length)
    (hbody : ∀ (A : Around) (outer : List Env) (s : Shared) (H : Hp) (vs : List V) (v : V) (cl : List (Str × Addr)) (c' f : Addr) (Q : VK), Room k (A.deeper (envF (F.nf cl c') f s.heap.objs.size)) → sp v vs H Q E0 →
      ∃ t, PE (ncx CX0 P w K mg base N (F.nf cl c') f A outer s H E0) F.body t ∧ t (startF N vs [some v]) H Q) : LOk P w K mg base (k + 1) F y sp := by
  refine ⟨fun A outer s H us vs v cs c' f o Q hr e0 hf hc hcs hv r hsp => ?_⟩
  obtain ⟨⟨cl, pm, ctv, ho, hy, hz⟩, _, _⟩ := e0.hok f _ hf
  have hl := len _ _ _ _ hsp
  have g := cellO_get e0.hok hcs
  refine codeAny_mono (R := CR CX0 outer P w (hide H cs) s (fun v H2 => H2 cs = none → Q v (upd H2 cs (CellO cs o))) E0) ?_ (fun r s' h => cr_hide hcs e0 h)
  have e1 := env0_hide e0 hcs
  have lim : s.heap.NoLimit := e0.mod.nolimit.keeps fun b o e => (e0.bs b o e).1
  refine PySem.W.kla_callFunE hr.depth ho rfl S.co S.gen rfl (codeO_at e0.hok hc) ?_
  rw [hb cl pm (.ref c') ctv us (by rw [← r.length]; exact hl)]
  refine wpAny_pure (wpAny_newFunctionEnv S.nocell (fun ⟨n, _⟩ hy => S.par n (List.of_mem_zip hy).1) (fun h₁ hns hsb => ⟨lim.fresh _ hsb, ?_⟩) S.kind)
  show codeAny _ _ (.expr F.body (envF (F.nf cl c') f s.heap.objs.size)) _ _
  have kp : ∀ b u, s.heap.get? b = some u → h₁.get? b = some u := fun b u e => hsb.extBut b u (Nat.ne_of_lt (Heap.lt_size e)) (Heap.get?_push_of_some _ e)
  obtain ⟨u0, hd0, ru0⟩ := hv
  have C : CellsAt cl [y] [some v] s.heap (hide H cs) := by
    refine ⟨rfl, fun z c e => ?_, fun a b c e1 e2 => (hz a c e1).trans (hz b c e2).symm, fun i z e => ?_⟩
    · have ez := hz z c e
      subst ez
      rw [hy] at e
      cases e
      exact ⟨hide_same, some u0, o, g, hd0⟩
    · match i, e with
      | 0, e =>
        cases e
        refine ⟨cs, hy, fun v' e' => ?_⟩
        cases e'
        exact ⟨u0, ru0, o, g, hd0⟩
      | i + 1, e => cases e
  obtain ⟨t, ht, hq⟩ := hbody A outer s (hide H cs) vs v cl c' f _ (hr.deeper _) hsp
  have J : Inv (ncx CX0 P w K mg base N (F.nf cl c') f A outer s (hide H cs) E0) [] (startF N vs [some v]) (hide H cs) { s with heap := h₁, toks := s.toks + (ps.zip us).length } := inv_startN S hr.hd e1 hl r C hns kp
  refine PySem.W.kla_codeExpr (wpAny_mono (ht.run [] _ _ _ _ J hq) (fun v s' hq => ?_) fun e s' hq => hq)
  obtain ⟨w', H', J', rv, q⟩ := hq
  exact ⟨w', H', J'.os, J'.bare, J'.base, J'.hok, rv, q⟩
/-! ### its call -/
def tCallLam (i : Nat) (F : LF) (y : Str) (sp : V → Sp) (t : TA) : TE := fun σ H Q => ∃ (f c' cs : Addr) (o : Obj) (v : V), σ[i]? = some (some (.ref f)) ∧ H f = some (LamO f F y c' cs) ∧
  t σ H fun vs H1 => H1 f = some (LamO f F y c' cs) ∧ H1 c' = some (CodeO c' F.qual) ∧ H1 cs = some (CellO cs o) ∧ CellV o v ∧ sp v vs (hide H1 cs) (fun r H2 => H2 cs = none → Q r (upd H2 cs (CellO cs o))) E0
section
variable {X : Cx} {k i j : Nat} {F : LF} {x y : Str} {sp : V → Sp} {p pos : Pos} {e : Expr} {es : List Expr} {t : TA}
theorem lam_at {pins : List (Addr × Obj)} {σ : L2.St} {H : Hp} {s : Shared} {f c' cs : Addr} (I : Inv X pins σ H s) (e : H f = some (LamO f F y c' cs)) : PySem.W.FnAt f s.heap := by
  obtain ⟨⟨cl, pm, ctv, ho, _⟩, _, _⟩ := I.hok f _ e
  exact ⟨_, _, _, _, ho⟩
theorem pe_callLam (L : LOk X.prog X.w X.K X.mg X.base k F y sp) (hr : Room k X.A) (hN : X.N[i]? = some x) (hv : Vis X.env.scope x) (ha : PA X (e :: es) t)
    (hd : (x == ("__debug__" : Str)) = false := by decide) (hcd : (x == ("__classdict__" : Str)) = false := by decide)
    (he : starEach (e :: es) X.env = (false, eval e X.env) :: starEach es X.env := by rfl) (hpl : (backTo pos (starEach es X.env)).any (·.1) = false := by rfl) :
    PE X (.Call (.Name x p) (e :: es) [] pos) (tCallLam i F y sp t) := by
  constructor
  rintro pins s σ H Q I ⟨f, c', cs, o, v, hs, hf, ht⟩
  refine wpAny_Call_Name_kw (thn ((pe_var (pos := p) hN hv hd hcd).run pins s σ H (fun v H1 => v = .ref f ∧ H1 = H) I ⟨.ref f, hs, rfl, rfl⟩) ?_)
  rintro u s1 ⟨v1, H1, I1, r1, rfl, rfl⟩
  obtain rfl : u = Value.ref f := r1
  refine PySem.W.callWith_F (first := []) (lam_at I1 hf) (thn (ha.run pos pins s1 σ H1 _ I1 ht) ?_) he hpl
  rintro us s2 ⟨vs, H2, I2, r, h1, h2, h3, h4, q⟩
  refine ⟨lam_at I2 h1, ?_⟩
  show wpAny _ _ (call (.ref f) us) _ _ _
  refine wpAny_call (codeAny_mono (L.run X.A X.stack s2 H2 us vs v cs c' f o Q hr I2.env0 h1 h2 h3 h4 r q) fun r s' hq => ?_)
  exact fin_call pass0 I2 hq
/-! ### a lambda as a value -/
def tLm (T : List (Addr × Str)) (F : LF) (y : Str) (cs : Addr) : TE := fun σ H Q => Tabs T H ∧ ∀ (f c' : Addr) (H1 : Hp), ExtN H H1 → (∀ b, H1 b = none → H b = none) → Tabs T H1 → H f = none → H1 f = some (LamO f F y c' cs) → H1 c' = some (CodeO c' F.qual) → Q (.ref f) H1
theorem lamO_ne {f c' cs : Addr} (ps : Array Value) : LamO f F y c' cs ≠ .tbl ps := fun z => by
  unfold LamO at z
  cases z
theorem tabs_ext {T : List (Addr × Str)} {H H' : Hp} (t : Tabs T H) (s : Same H H') : Tabs T H' := t.ext s
theorem pe_lam {T : List (Addr × Str)} {c P : Addr} {params : Arguments} {body : Expr} {scope : Scope} (TB : TabB X.base X.mg c P) (hcode : X.env.code = .ref c)
    (hm : (P, X.env.qual ++ "<lambda>") ∈ T) (hu : ∀ p ∈ T, p.1 = P → p.2 = X.env.qual ++ "<lambda>") (hdef : defaultsOf params X.env = ([], []))
    (hy : (y, NameKind.free) ∈ scope.names) (hk : X.env.scope.names.lookup y = some .cell) (only : ∀ z ∈ scope.names, z.2 = .free → z.1 = y) :
    PE X (.Lambda params body scope pos) (tLm T ⟨X.env.qual ++ "<lambda>", params, body, scope⟩ y ((X.env.cells.lookup y).getD 0)) := by
  constructor
  rintro pins s σ H Q I ⟨hT, hq⟩
  obtain ⟨ps, hP, ht, ha⟩ := hT _ hm
  have hfree : ∀ z ∈ scope.names, z.2 = .free → ∃ c, X.env.cells.lookup z.1 = some c := fun z hz e => by
    rw [only z hz e]
    exact I.ok.has y (.inl hk)
  have hl1 : (cloFrom X.env.cells scope.names []).lookup y = some ((X.env.cells.lookup y).getD 0) := by
    obtain ⟨cy, ey⟩ := I.ok.has y (.inl hk)
    rw [ey]
    exact clo_has hfree hy ey
  have hl2 : ∀ z c, (cloFrom X.env.cells scope.names []).lookup z = some c → z = y := fun z c e => by
    rcases cloFrom_mem (PySem.mem_of_lookup e) with q | ⟨q, _⟩
    · cases q
    · exact only _ q rfl
  have bP : s.heap.BuiltinsAt X.mg P := TB.bm.keeps I.bk
  have hP' : s.heap.get? P = some { cls := .none, data := .fields ps } := I.hok P _ hP
  have lamOk : ∀ (H1 : Hp) (h1 : Heap) (f c' : Addr) (pm ctv : Value), h1.get? f = some (PySem.W.kla_obj "<lambda>" (X.env.qual ++ "<lambda>") params body scope (cloFrom X.env.cells scope.names []) pm c' ctv) →
      ObjOk X.prog X.w H1 h1 f (LamO f ⟨X.env.qual ++ "<lambda>", params, body, scope⟩ y c' ((X.env.cells.lookup y).getD 0)) := fun H1 h1 f c' pm ctv e =>
    ⟨⟨_, pm, ctv, e, hl1, hl2⟩, ⟨_, e⟩, fun h2 h3 ⟨cl, pm, ctv, e, r⟩ st => ⟨cl, pm, ctv, st _ e, r⟩⟩
  refine PySem.W.kla_eval hdef ?_
  cases hc : codeAmong pos ps.toList with
  | some cv =>
    obtain ⟨c', e, hco⟩ := ha pos cv hc
    subst e
    refine PySem.W.kla_makeFunctionHit (mg := X.mg) (c := c) (P := P) (ps := ps) (closure_ok hfree) I.ok.glob (I.mod.glob.keeps I.bk) hcode (TB.code.keeps I.bk) hP' ht hc bP ?_
    intro ctv h' tk hx hsz
    have I1 : Inv X pins σ H { s with heap := h', toks := tk } := I.kept hx
    have nF : H h'.objs.size = none := I1.hok.fresh (Nat.le_refl _)
    have sm : Same H (upd H h'.objs.size (LamO h'.objs.size ⟨X.env.qual ++ "<lambda>", params, body, scope⟩ y c' ((X.env.cells.lookup y).getD 0))) := fun b o e => upd_get nF e
    have I2 := I1.laid (h' := h'.push (PySem.W.kla_obj "<lambda>" (X.env.qual ++ "<lambda>") params body scope (cloFrom X.env.cells scope.names []) ((X.mg "__name__").getD .none) c' ctv)) (t' := tk) (a := h'.objs.size)
      (fun b u e => Heap.get?_push_of_some _ e) (Nat.le_refl _) (lamOk _ _ _ _ _ _ (Heap.get?_push_size _ rfl))
    exact ⟨.ref _, _, I2, rfl, hq h'.objs.size c' _ (ExtN.of sm) (fun b e => upd_none e) (hT.ext sm) nF upd_same (sm _ _ hco)⟩
  | none =>
    refine PySem.W.kla_makeFunction (mg := X.mg) (c := c) (P := P) (ps := ps) (closure_ok hfree) I.ok.glob (I.mod.glob.keeps I.bk) hcode (TB.code.keeps I.bk) hP' ht hc TB.gP bP ?_
    intro c' ctv h' tk hx hge hlt hrec htb
    obtain ⟨c2, oc, vs, t, e2, hoc, hd, hv⟩ := hrec
    cases e2
    have nC : H c' = none := I.hok.fresh hge
    have nP : P ≠ c' := ne_of_none hP nC
    have I1 := inv_table (t' := tk) (more := #[rawInt pos.line, rawInt pos.col, .ref c']) (h' := h') I hP (fun b o hb e => hx b o hb e) htb hge ⟨oc, vs, t, hoc, hd, hv⟩
    generalize eH1 : upd (upd H P (.tbl (ps ++ #[rawInt pos.line, rawInt pos.col, .ref c']))) c' (CodeO c' (X.env.qual ++ "<lambda>")) = H1 at I1
    have atP : H1 P = some (.tbl (ps ++ #[rawInt pos.line, rawInt pos.col, .ref c'])) := by rw [← eH1, upd_ne nP, upd_same]
    have atC : H1 c' = some (CodeO c' (X.env.qual ++ "<lambda>")) := by rw [← eH1]; exact upd_same
    have rest : ∀ b o, H b = some o → b ≠ P → H1 b = some o := fun b o e hb => by
      rw [← eH1, upd_ne (ne_of_none e nC), upd_ne hb]
      exact e
    have hE : ExtN H H1 := fun b o e n => rest b o e fun z => n ps (Option.some.inj (e.symm.trans (z ▸ hP)))
    have gr : ∀ b, H1 b = none → H b = none := fun b e => by
      rw [← eH1] at e
      exact upd_none (upd_none e)
    have T1 : Tabs T H1 := by
      intro p hp
      by_cases hb : p.1 = P
      · have eL : (ps ++ #[rawInt pos.line, rawInt pos.col, .ref c']).toList = ps.toList ++ [rawInt pos.line, rawInt pos.col, .ref c'] := by simp
        rw [hu p hp hb, hb]
        refine ⟨_, atP, by rw [eL]; exact PySem.TriplesOk_snoc _ _ _ _ ht, fun p' cv hcv => ?_⟩
        rw [eL] at hcv
        rcases among_app _ ht hcv with z | z
        · obtain ⟨c0, e1, e2⟩ := ha p' cv z
          exact ⟨c0, e1, hE _ _ e2 codeO_ne⟩
        · exact ⟨c', z, atC⟩
      · obtain ⟨ps', a1, a2, a3⟩ := hT p hp
        refine ⟨ps', rest _ _ a1 hb, a2, fun p' cv hcv => ?_⟩
        obtain ⟨c0, e1, e2⟩ := a3 p' cv hcv
        exact ⟨c0, e1, hE _ _ e2 codeO_ne⟩
    have nF : H1 h'.objs.size = none := I1.hok.fresh (Nat.le_refl _)
    have sm : Same H1 (upd H1 h'.objs.size (LamO h'.objs.size ⟨X.env.qual ++ "<lambda>", params, body, scope⟩ y c' ((X.env.cells.lookup y).getD 0))) := fun b o e => upd_get nF e
    have I2 := I1.laid (h' := h'.push (PySem.W.kla_obj "<lambda>" (X.env.qual ++ "<lambda>") params body scope (cloFrom X.env.cells scope.names []) ((X.mg "__name__").getD .none) c' ctv)) (t' := tk) (a := h'.objs.size)
      (fun b u e => Heap.get?_push_of_some _ e) (Nat.le_refl _) (lamOk _ _ _ _ _ _ (Heap.get?_push_size _ rfl))
    exact ⟨.ref _, _, I2, rfl, hq h'.objs.size c' _ (hE.trans (ExtN.of sm)) (fun b e => gr b (upd_none e)) (T1.ext sm) (gr _ nF) upd_same (sm _ _ atC)⟩
/-! ### a def called while a cell is known -/
def tCalA (j : Nat) (cs : Addr) (sp : Sp) (t : TA) : TE := fun σ H Q => t σ H fun vs H1 => ∃ v, σ[j]? = some (some v) ∧ (H1 cs = none → ∀ o, CellV o v → sp vs (upd H1 cs (CellO cs o)) (fun r H' => H' cs = some (CellO cs o) ∧ Q r (hide H' cs)) E0)
theorem pe_calA {ps : List Str} {sp : Sp} (C : Cal X.prog X.w X.K X.mg X.base x k ps sp) (hr : Room k X.A) (hg : Gl X x) (ha : PA X (e :: es) t) (hN : X.N[j]? = some y) (hk : X.env.scope.names.lookup y = some .cell) (hfn : X.fn y = true)
    (hdb : (x == ("__debug__" : Str)) = false := by decide)
    (he : starEach (e :: es) X.env = (false, eval e X.env) :: starEach es X.env := by rfl)
    (hpl : (backTo pos (starEach es X.env)).any (·.1) = false := by rfl) : PE X (.Call (.Name x p) (e :: es) [] pos) (tCalA j ((X.env.cells.lookup y).getD 0) sp t) := by
  obtain ⟨fd, F, b⟩ := C.ex
  constructor
  intro pins s σ H Q I h
  refine wpAny_Call_Name_kw (ld_glob I hg C.gl ?_ hdb)
  refine PySem.W.callWith_K (h₀ := X.base) I.ok.mod.kin C.kp (thn (ha.run pos pins s σ H _ I h) ?_) he hpl
  rintro us s1 ⟨vs, H1, I1, r, v, hv, q⟩
  obtain ⟨cs, ecs⟩ := I1.ok.has y (.inl hk)
  rw [ecs] at q
  have nC : H1 cs = none := I1.freeC y cs ecs
  obtain ⟨m, hn, hl⟩ := I1.loc
  obtain ⟨u, ru, lk⟩ := hl j y v hN hv (.inr (.inl hk))
  have cell : s1.heap.IsCell cs (some u) := by
    rcases lk with ⟨z, _⟩ | ⟨_, c2, e2, z⟩
    · have z : X.env.scope.names.lookup y = some .local := z
      rw [hk] at z
      cases z
    · rw [ecs] at e2
      cases e2
      exact z
  obtain ⟨o, go, hd⟩ := cell
  have hge : X.s_0.heap.objs.size ≤ cs := I1.ok.cab y cs hfn ecs
  have nb : X.base.get? cs = none := by
    cases z : X.base.get? cs with
    | none => rfl
    | some ob =>
      have h1 := Heap.lt_size z
      have h2 := I1.ok.bsz
      exact absurd (Nat.lt_of_lt_of_le h1 (Nat.le_trans h2 hge)) (Nat.lt_irrefl _)
  have nO : cs ∉ X.fs := fun z => by
    obtain ⟨ob, e1, _⟩ := (I1.ok.funs.mem z).2
    exact absurd (Nat.lt_of_lt_of_le (Heap.lt_size e1) hge) (Nat.lt_irrefl _)
  have nf : cs ∉ frs X.stack := fun z => by
    rcases I1.ok.stk with e | ⟨e, ef⟩
    · rw [e] at z
      exact nO z
    · rw [e] at z
      have z : cs ∈ (X.env :: X.outer).filterMap (·.frame) := z
      rw [List.filterMap_cons, ef] at z
      rcases List.mem_cons.mp z with z | z
      · obtain ⟨ob, es1, ep, e1, d1, _⟩ := hn
        rw [← z, go] at e1
        cases e1
        rw [hd] at d1
        cases d1
      · exact nO z
  have q := q nC o ⟨u, hd, ru⟩
  have hl1 : us.length = ps.length := r.length.symm.trans (F.len _ _ _ _ q)
  refine ⟨I1.kIn, wpAny_call (codeAny_mono (F.run X.A X.stack s1 (upd H1 cs (CellO cs o)) ⟨us, []⟩ us vs _ _ hr (env0_adopt I1.env0 nC go nb nf) ?_ r q) fun r s' hq => ?_)⟩
  · have := b s1 us I1.kIn (by rw [List.append_nil]; exact hl1)
    rw [List.append_nil] at this
    exact this
  · exact fin_call pass0 I1 (cr_adopt nC go nf hq)
end
/-- the lambda and what it needs, as data S -/
structure LamAt (K : PySem.W.Frag) (F : LF) (y : Str) (H : Hp) (f c' cs : Addr) (o : Obj) (v : V) (S : List PyData) : Prop where
  lam : H f = some (LamO f F y c' cs)
  code : H c' = some (CodeO c' F.qual)
  cell : H cs = some (CellO cs o)
  val : CellV o v
  dat : Dp K H v (.tuple S)
theorem LamAt.mono {K : PySem.W.Frag} {F : LF} {y : Str} {H H' : Hp} {f c' cs : Addr} {o : Obj} {v : V} {S : List PyData} (h : LamAt K F y H f c' cs o v S) (s : Same H H') : LamAt K F y H' f c' cs o v S :=
  ⟨s _ _ h.lam, s _ _ h.code, s _ _ h.cell, h.val, dp_mono s _ _ h.dat⟩
mutual
theorem dp_hide {K : PySem.W.Frag} {H : Hp} {c : Addr} {o : Obj} (e : H c = some (CellO c o)) : ∀ (d : PyData) (v : V), Dp K H v d → Dp K (hide H c) v d
  | .none, _, h => by cases h; exact .non
  | .bool b, _, h => by cases h; exact .bl b
  | .int i, _, h => by cases h; exact .int i
  | .str x, _, h => by cases h; exact .str x
  | .list ds, _, h => by
    cases h with
    | lst s a =>
      refine .lst ?_ (dpAll_hide e ds _ a)
      rcases s with (s | ⟨o, s⟩) | s
      · exact .inl (.inl ((hide_ne (cell_ne (fun _ y => by cases y) e s)).trans s))
      · exact .inl (.inr ⟨o, (hide_ne (cell_ne (fun _ y => by cases y) e s)).trans s⟩)
      · exact .inr s
  | .tuple ds, _, h => by
    cases h with
    | tup s a =>
      refine .tup ?_ (dpAll_hide e ds _ a)
      rcases s with (s | ⟨o, s⟩) | s
      · exact .inl (.inl ((hide_ne (cell_ne (fun _ y => by cases y) e s)).trans s))
      · exact .inl (.inr ⟨o, (hide_ne (cell_ne (fun _ y => by cases y) e s)).trans s⟩)
      · exact .inr s
  | .dict _, _, h => by cases h
theorem dpAll_hide {K : PySem.W.Frag} {H : Hp} {c : Addr} {o : Obj} (e : H c = some (CellO c o)) : ∀ (ds : List PyData) (vs : List V), DpAll K H vs ds → DpAll K (hide H c) vs ds
  | [], _, h => by cases h; exact .nil
  | d :: ds, _, h => by
    cases h with
    | cons a b => exact .cons (dp_hide e d _ a) (dpAll_hide e ds _ b)
end
/-- back from the lambda -/
theorem same_back {H H2 : Hp} {c : Addr} {o : Obj} (e : H c = some (CellO c o)) (s : Same (hide H c) H2) : Same H (upd H2 c (CellO c o)) := fun b u q => by
  by_cases z : b = c
  · subst z
    rw [e] at q
    cases q
    exact upd_same
  · rw [upd_ne z]
    exact s _ _ ((hide_ne z).trans q)
end HG

set_option maxHeartbeats 4000000
/-! HJ: tuples as data: t + u, t[a:b], t[::-1], t[i]. -/
namespace HG
open PySem PySem.Spec PyProof.Rows L2
section
variable {prog : Program} {w : World} {A : Around} {E : Value → Shared → Prop} {s : Shared}
theorem places_rev (n : Nat) : Builtin.Slice.slicePlaces ((n : Int) - 1) (-1) (-1) = n := by
  unfold Builtin.Slice.slicePlaces
  have h1 : ¬ ((-1 : Int) > 0) := by omega
  simp only [h1, if_false]
  split
  · rename_i h
    rw [show (- (-1 : Int)) = 1 from rfl, Int.ediv_one]
    omega
  · omega
theorem adjust_rev (n : Nat) : Builtin.Slice.sliceAdjust none none (-1) (n : Int) = ((n : Int) - 1, -1) := by
  unfold Builtin.Slice.sliceAdjust
  have h1 : ((-1 : Int) < 0) := by omega
  simp only [h1, if_true]
theorem sliceApplied_rev {sl : Addr} {vl vu vs : Value} {n : Nat} {Q : Int × Int × Nat → Shared → Prop} (hs : s.heap.IsSliceOf sl vl vu vs) (pl : IsPart vl none) (pu : IsPart vu none) (ps : IsPart vs (some (-1)))
    (h : Q ((n : Int) - 1, -1, n) s) : wpAny (model prog w) A (Builtin.Slice.sliceApplied (.ref sl) (pure (n : Int))) Q E s := by
  obtain ⟨os, hos, hcs, hds⟩ := id hs
  unfold Builtin.Slice.sliceApplied Builtin.Slice.sliceFields
  refine wpAny_bind (wpAny_bind (wpAny_field hos hds (x := vl) rfl (wpAny_bind (wpAny_field hos hds (x := vu) rfl (wpAny_bind (wpAny_field hos hds (x := vs) rfl (wpAny_pure ?_)))))))
  refine wpAny_bind (HT.slicePart_ ps ?_)
  show wpAny _ _ (if ((-1 : Int) == 0) = true then _ else _) _ _ s
  rw [if_neg (by decide)]
  refine wpAny_bind (HT.slicePart_ pl (wpAny_bind (HT.slicePart_ pu (wpAny_bind (wpAny_pure ?_)))))
  show wpAny _ _ (match Builtin.Slice.sliceAdjust none none (-1) (n : Int) with | (lo, hi) => pure (lo, (-1 : Int), Builtin.Slice.slicePlaces lo hi (-1))) _ _ s
  rw [adjust_rev n]
  show wpAny _ _ (pure ((n : Int) - 1, (-1 : Int), Builtin.Slice.slicePlaces ((n : Int) - 1) (-1) (-1))) _ _ s
  rw [places_rev]
  exact wpAny_pure h
theorem pick_rev (xs : Array Value) : ((List.range xs.size).filterMap fun (m : Nat) => xs[(((xs.size : Int) - 1) + (m : Int) * (-1)).toNat]?).toArray = xs.toList.reverse.toArray := by
  congr 1
  apply List.ext_getElem?
  intro i
  have e : (List.range xs.size).filterMap (fun (m : Nat) => xs[(((xs.size : Int) - 1) + (m : Int) * (-1)).toNat]?) = (List.range xs.size).map (fun m => xs.getD (xs.size - 1 - m) .none) := by
    have : ∀ l : List Nat, (∀ m ∈ l, m < xs.size) → l.filterMap (fun (m : Nat) => xs[(((xs.size : Int) - 1) + (m : Int) * (-1)).toNat]?) = l.map (fun m => xs.getD (xs.size - 1 - m) .none) := by
      intro l
      induction l with
      | nil => intro _; rfl
      | cons m l ih =>
        intro hm
        have h1 := hm m List.mem_cons_self
        have e1 : (((xs.size : Int) - 1) + (m : Int) * (-1)).toNat = xs.size - 1 - m := by omega
        have h2 : xs.size - 1 - m < xs.size := by omega
        rw [List.filterMap_cons, e1, Array.getElem?_eq_getElem h2, List.map_cons, ih fun k hk => hm k (List.mem_cons_of_mem _ hk)]
        simp [Array.getD, h2]
    exact this _ fun m hm => List.mem_range.mp hm
  rw [e, List.getElem?_map]
  by_cases hi : i < xs.size
  · rw [List.getElem?_range hi]
    rw [List.getElem?_reverse (by simpa using hi)]
    have h2 : xs.size - 1 - i < xs.size := by omega
    simp [Array.getD, h2]
  · rw [List.getElem?_eq_none (by simp; omega), List.getElem?_eq_none (by simp; omega)]
    rfl
theorem getItem_tuple_rev {t sl : Addr} {items : Array Value} {vl vu vs : Value} {Q : Value → Shared → Prop} (ht : IsTup s.heap t items) (hs : s.heap.IsSliceOf sl vl vu vs) (pl : IsPart vl none) (pu : IsPart vu none) (ps : IsPart vs (some (-1)))
    (h : Q (.ref s.heap.objs.size) { s with heap := s.heap.push { cls := .type "tuple", data := .seq items.toList.reverse.toArray } })
    (hsz : items.size ≤ sizeLine) : wpAny (model prog w) A (getItem (.ref t) (.ref sl)) Q E s := by
  have htake : sizeOk (.seq items.toList.reverse.toArray) := by
    show items.toList.reverse.toArray.size ≤ sizeLine
    simpa using hsz
  obtain ⟨os, hos, hcs, hds⟩ := id hs
  have hTs : s.TypeIs (.ref sl) "slice" := ⟨os, hos, hcs⟩
  unfold getItem
  try with_reducible refine wpAny_holding ?_
  first | refine wpAny_bind (wpAny_pure ?_) | skip
  refine wpAny_bind (wpAny_sequenceKey ht.typeIs (by decide) ?_)
  refine wpAny_bind (wpAny_callSpecial?_slot (name := Str.ofString "__getitem__") ht.typeIs PyProof.Rows.slot_tuple_getitem
    (wpAny_call_entry PyProof.Rows.slot_tuple_getitem ht.typeIs PyProof.Rows.entry_tuple_getitem ?_ (PyProof.Rows.args_tuple_getitem _ _)))
  show wpAny _ _ (Builtin.Tuple.tupleItemsOf (.ref t) >>= _) _ _ s
  refine wpAny_bind (PyProof.Rows.tupleItemsOf_ ht ?_)
  refine wpAny_bind (wpAny_typeOf hTs ?_)
  rw [if_pos (by decide)]
  refine wpAny_bind (sliceApplied_rev hs pl pu ps ?_)
  have hno : ¬ ((((items.size : Int) - 1) == 0 && (-1 : Int) == 1 && items.size == items.size) = true) := by
    intro q
    rw [Bool.and_eq_true, Bool.and_eq_true] at q
    exact absurd q.1.2 (by decide)
  show wpAny _ _ (if (((items.size : Int) - 1) == 0 && (-1 : Int) == 1 && items.size == items.size) = true then _ else _) _ _ s
  rw [if_neg hno, pick_rev]
  first
    | exact wpAny_bind (m := Builtin.Tuple.tupleExact _) (wpAny_newObj_type (wpAny_pure ⟨_, rfl, wpAny_pure h⟩) htake)
    | exact wpAny_bind (m := Builtin.Tuple.tupleExact _) (wpAny_newObj_type (wpAny_bind (wpAny_pure (wpAny_pure ⟨_, rfl, wpAny_pure h⟩))) htake)
    | exact wpAny_bind (wpAny_bind (m := Builtin.Tuple.tupleExact _) (wpAny_newObj_type (wpAny_pure (wpAny_pure ⟨_, rfl, wpAny_pure h⟩)) htake))
    | exact wpAny_bind (wpAny_bind (m := Builtin.Tuple.tupleExact _) (wpAny_newObj_type (wpAny_pure ⟨_, rfl, wpAny_pure h⟩) htake))
end
section
variable {X : Cx} {K : PySem.W.Frag}
/-! ### data -/
theorem dpAll_drop {H : Hp} : ∀ {vs : List V} {ds : List PyData} (n : Nat), DpAll K H vs ds → DpAll K H (vs.drop n) (ds.drop n)
  | _, _, 0, h => h
  | _, _, n + 1, .nil => by rw [List.drop_nil, List.drop_nil]; exact .nil
  | _, _, n + 1, .cons _ h => dpAll_drop n h
theorem dpAll_take {H : Hp} : ∀ {vs : List V} {ds : List PyData} (n : Nat), DpAll K H vs ds → DpAll K H (vs.take n) (ds.take n)
  | _, _, 0, h => .nil
  | _, _, n + 1, .nil => by rw [List.take_nil, List.take_nil]; exact .nil
  | _, _, n + 1, .cons a h => .cons a (dpAll_take n h)
theorem dpAll_rev {H : Hp} : ∀ {vs : List V} {ds : List PyData}, DpAll K H vs ds → DpAll K H vs.reverse ds.reverse
  | _, _, .nil => .nil
  | _, _, .cons a h => by
    rw [List.reverse_cons, List.reverse_cons]
    exact dpAll_app (dpAll_rev h) (.cons a .nil)
def cutP (ds : List PyData) (lo hi : Option Int) : List PyData := (ds.drop (HT.sIx ds.length 0 lo)).take (HT.sIx ds.length ds.length hi - HT.sIx ds.length 0 lo)
theorem dpAll_cut {H : Hp} {vs : List V} {ds : List PyData} (lo hi : Option Int) (h : DpAll K H vs ds) : DpAll K H (cutV vs lo hi) (cutP ds lo hi) := by
  have e := dpAll_len h
  unfold cutV cutP
  rw [e]
  exact dpAll_take _ (dpAll_drop _ h)
theorem dp_tupN {H : Hp} {p : Addr} {vs : List V} {ds : List PyData} (hp : H p = none) (h : DpAll K H vs ds) : Dp K (upd H p (.tup vs)) (.ref p) (.tuple ds) :=
  .tup (.inl (.inl upd_same)) (dpAll_mono (fun b o e => upd_get hp e) _ _ h)
theorem dp_lstN {H : Hp} {p : Addr} {vs : List V} {ds : List PyData} (hp : H p = none) (h : DpAll K H vs ds) : Dp K (upd H p (.lst vs)) (.ref p) (.list ds) :=
  .lst (.inl (.inl upd_same)) (dpAll_mono (fun b o e => upd_get hp e) _ _ h)
theorem same_new {H : Hp} {p : Addr} {o : HO} (hp : H p = none) : Same H (upd H p o) := fun b u e => upd_get hp e
theorem pg_tupK {es : List Expr} {k : Nat} {t : TGs} {n : Nat} {pos : Pos} (hK : X.K = K) (hc : X.calm = true) (h : PGs X es t)
    (hn : (assignEach es X.env).length = n := by rfl) (hst : (assignEach es X.env).findIdx? (·.1) = none := by rfl) : PG X (.Tuple es k pos) (gTup K n t) := hK ▸ pg_tup hc h hn hst
/-- t + u -/
def rCatP (K : PySem.W.Frag) : R2 := fun x y H Q => ∃ ds es, Dp K H x (.tuple ds) ∧ Dp K H y (.tuple es) ∧ ds.length + es.length ≤ sizeLine ∧ ∀ z H', Same H H' → Dp K H' z (.tuple (ds ++ es)) → Q z H'
theorem op_catP (hK : X.K = K) : OpR X (binaryOp .Add) (rCatP K) := by
  subst hK
  intro pins s σ H x y v u Q I rx ry h
  obtain ⟨ds, es, hx, hy, hz, q⟩ := h
  cases hx with
  | @tup a xs _ sa ha =>
    cases hy with
    | @tup b ys _ sb hb =>
      have l1 := dpAll_len ha
      have l2 := dpAll_len hb
      refine op_catA pins s σ H _ _ v u Q I rx ry ⟨a, b, xs, ys, rfl, rfl, sa, sb, by omega, fun e => ?_, fun _ e => ?_, fun _ _ p hp => ?_⟩
      · subst e
        cases ha
        exact q _ _ (Same.refl _) (.tup sb hb)
      · subst e
        cases hb
        rw [List.append_nil] at q
        exact q _ _ (Same.refl _) (.tup sa ha)
      · exact q _ _ (same_new hp) (dp_tupN hp (dpAll_app ha hb))
/-- t[lo:hi] -/
def rSlP (K : PySem.W.Frag) : V → Option Int → Option Int → Hp → VK → Prop := fun x lo hi H Q => ∃ ds, Dp K H x (.tuple ds) ∧ ∀ z H', Same H H' → Dp K H' z (.tuple (cutP ds lo hi)) → Q z H'
theorem cutD_all (ds : List PyData) (lo hi : Option Int) (h : HT.sIx ds.length 0 lo = 0 ∧ HT.sIx ds.length ds.length hi = ds.length) : cutP ds lo hi = ds := by
  unfold cutP
  rw [h.1, h.2, List.drop_zero, Nat.sub_zero, List.take_length]
theorem sl_P (hK : X.K = K) : SlR X (rSlP K) := by
  subst hK
  intro pins s σ H x v vl vu lo hi sl Q I rx hs pl pu h
  obtain ⟨ds, hx, q⟩ := h
  cases hx with
  | @tup a xs _ sa ha =>
    have l1 := dpAll_len ha
    refine sl_tupA pins s σ H _ v vl vu lo hi sl Q I rx hs pl pu ⟨a, xs, rfl, sa, fun e => ?_, fun _ p hp => ?_⟩
    · rw [l1] at e
      rw [cutD_all ds lo hi e] at q
      exact q _ _ (Same.refl _) (.tup sa ha)
    · exact q _ _ (same_new hp) (dp_tupN hp (dpAll_cut lo hi ha))
/-- t[i] -/
def rIxP (K : PySem.W.Frag) : R2 := fun x y H Q => ∃ ds i d, Dp K H x (.tuple ds) ∧ y = .int (i : Nat) ∧ ds[i]? = some d ∧ ∀ z, Dp K H z d → Q z H
theorem dpAll_getD {H : Hp} : ∀ {vs : List V} {ds : List PyData}, DpAll K H vs ds → ∀ {i : Nat} {d : PyData}, ds[i]? = some d → ∃ v, vs[i]? = some v ∧ Dp K H v d
  | _, _, .nil, i, d, e => by simp at e
  | _, _, .cons a h, 0, d, e => by simp at e; subst e; exact ⟨_, rfl, a⟩
  | _, _, .cons a h, i + 1, d, e => by
    obtain ⟨v, h1, h2⟩ := dpAll_getD h (i := i) (d := d) (by simpa using e)
    exact ⟨v, by simpa using h1, h2⟩
theorem ix_P (hK : X.K = K) : IxR X (rIxP K) := by
  subst hK
  intro value slice pins s σ H x y v u Q I rx ry h hs
  obtain ⟨ds, i, d, hx, rfl, hd, q⟩ := h
  cases hx with
  | @tup a xs _ sa ha =>
    obtain ⟨z, hz, hzd⟩ := dpAll_getD ha hd
    exact ix_tup value slice pins s σ H _ _ v u Q I rx ry ⟨a, xs, i, z, rfl, rfl, sa, atI_nat hz, q z hzd⟩ hs
/-- t[::-1] -/
def tRevP (K : PySem.W.Frag) (te : TE) : TE := fun σ H Q => te σ H fun x H1 => ∃ ds, Dp K H1 x (.tuple ds) ∧ ∀ z H', Same H1 H' → Dp K H' z (.tuple ds.reverse) → Q z H'
theorem pe_revP {e : Expr} {te : TE} {k : Nat} {p1 p2 p3 pos : Pos} (he : PE X e te) : PE X (.Subscript e (.Slice none none (some (.UnaryOp .USub (.Constant (.int 1) k p1) p2)) p3) pos) (tRevP X.K te) := by
  refine ⟨fun pins s σ H Q I h => ?_⟩
  refine Subscript_ (thn (he.run pins s σ H _ I h) fun v s1 ⟨x, H1, I1, r1, q1⟩ => ?_)
  obtain ⟨ds, hx, q⟩ := q1
  cases hx with
  | @tup a xs _ sa ha =>
    cases r1
    have hst : PO X (some (.UnaryOp .USub (.Constant (.int 1) k p1) p2)) (tPart (tUn (rU fun i => .int (-i)) (tC (.int 1)))) := po_some (pe_un un_neg pe_int)
    refine wpAny_Slice (thn (po_none.run pins s1 σ H1 (fun o H2 => o = none ∧ H2 = H1) I1 ⟨rfl, rfl⟩) fun vl s2 ⟨l, H2, I2, pl, el, e2⟩ => ?_)
    subst el e2
    refine thn (po_none.run pins s2 σ H2 (fun o H3 => o = none ∧ H3 = H2) I2 ⟨rfl, rfl⟩) fun vu s3 ⟨u, H3, I3, pu, eu, e3⟩ => ?_
    subst eu e3
    refine thn (hst.run pins s3 σ H3 (fun o H4 => o = some (-1) ∧ H4 = H3) I3 ⟨1, rfl, -1, rfl, rfl, rfl⟩) fun vs s4 ⟨o, H4, I4, ps, eo, e4⟩ => ?_
    subst eo e4
    have I5 : Inv X pins σ H4 { s4 with heap := s4.heap.push { cls := .type "slice", data := .fields #[vl, vu, vs] } } := I4.kept (t' := s4.toks) fun b ob q => Heap.get?_push_of_some _ q
    obtain ⟨its, r, ht, hz⟩ := I5.tuple sa
    have hlen := r.length
    show wpAny (model X.prog X.w) X.A (subscriptTail e (.Slice none none (some (.UnaryOp .USub (.Constant (.int 1) k p1) p2)) p3) (.ref a) (.ref s4.heap.objs.size)) (EP X pins σ Q) X.xe { s4 with heap := s4.heap.push { cls := .type "slice", data := .fields #[vl, vu, vs] } }
    refine tail_any (ops := [.ref a, .ref s4.heap.objs.size]) ht.typeIs (PyProof.Rows.slot_tuple_getitem.lookup) ?_ (by with_unfolding_all rfl)
    refine getItem_tuple_rev ht (Heap.IsSliceOf.new _ vl vu vs) pl pu ps ?_ (by rw [List.size_toArray]; omega)
    refine ⟨.ref _, _, I5.laid (t' := s4.toks) (o := .tup xs.reverse) (fun b ob q => Heap.get?_push_of_some _ q) (Nat.le_refl _) ?_, rfl, q _ _ (same_new (I5.hok.fresh (Nat.le_refl _))) (dp_tupN (I5.hok.fresh (Nat.le_refl _)) (dpAll_rev ha))⟩
    exact ⟨by rw [List.length_reverse]; exact hz, _, r.reverse, IsTup.new _ _⟩
end
end HG

set_option maxHeartbeats 4000000
/-! HD: data without lists stays, whatever lists and dicts do. -/
namespace HG
open PySem PySem.Spec PyProof.Rows L2 LamX
mutual
def noL : PyData → Bool
  | .list _ => false
  | .dict _ => false
  | .tuple ds => noLAll ds
  | _ => true
def noLAll : List PyData → Bool
  | [] => true
  | d :: ds => noL d && noLAll ds
end
theorem noLAll_mem : ∀ {ds : List PyData}, noLAll ds = true ↔ ∀ d ∈ ds, noL d = true
  | [] => by simp [noLAll]
  | d :: ds => by
    simp only [noLAll, Bool.and_eq_true, List.mem_cons, forall_eq_or_imp, noLAll_mem (ds := ds)]
theorem noL_tup {ds : List PyData} : noL (.tuple ds) = true ↔ ∀ d ∈ ds, noL d = true := by
  simp only [noL]
  exact noLAll_mem
/-- what never changes stays -/
structure KT (H H' : Hp) : Prop where
  t : ∀ b xs, H b = some (.tup xs) → H' b = some (.tup xs)
  f : ∀ b o u, H b = some (.frz o u) → H' b = some (.frz o u)
section
variable {K : PySem.W.Frag} {H H1 H2 : Hp} {a : Addr}
theorem KT.refl (H : Hp) : KT H H := ⟨fun _ _ h => h, fun _ _ _ h => h⟩
theorem KT.trans (x : KT H H1) (y : KT H1 H2) : KT H H2 := ⟨fun b xs h => y.t b xs (x.t b xs h), fun b o u h => y.f b o u (x.f b o u h)⟩
theorem KT.of (s : Same H H1) : KT H H1 := ⟨fun b xs h => s _ _ h, fun b o u h => s _ _ h⟩
theorem KT.ext (s : ExtN H H1) : KT H H1 := ⟨fun b xs h => s _ _ h (fun _ z => by cases z), fun b o u h => s _ _ h (fun _ z => by cases z)⟩
theorem KT.lst {l : List V} {o : HO} (h : H a = some (.lst l)) : KT H (upd H a o) :=
  ⟨fun b xs e => by rw [upd_ne (fun z => by rw [z, h] at e; cases e)]; exact e, fun b o u e => by rw [upd_ne (fun z => by rw [z, h] at e; cases e)]; exact e⟩
theorem KT.dK {l : List (Key × V)} {o : HO} (h : H a = some (.dK l)) : KT H (upd H a o) :=
  ⟨fun b xs e => by rw [upd_ne (fun z => by rw [z, h] at e; cases e)]; exact e, fun b o u e => by rw [upd_ne (fun z => by rw [z, h] at e; cases e)]; exact e⟩
theorem KT.new {o : HO} (h : H a = none) : KT H (upd H a o) := KT.of fun b u e => upd_get h e
mutual
theorem dp_kt (k : KT H H1) : ∀ (D : PyData) (v : V), noL D = true → Dp K H v D → Dp K H1 v D
  | .none, _, _, h => by cases h; exact .non
  | .bool b, _, _, h => by cases h; exact .bl b
  | .int i, _, _, h => by cases h; exact .int i
  | .str x, _, _, h => by cases h; exact .str x
  | .list _, _, n, _ => by simp [noL] at n
  | .dict _, _, n, _ => by simp [noL] at n
  | .tuple ds, _, n, h => by
    cases h with
    | tup s a =>
      refine .tup ?_ (dpAll_kt k ds _ (by simpa only [noL] using n) a)
      rcases s with (s | ⟨o, s⟩) | s
      · exact .inl (.inl (k.t _ _ s))
      · exact .inl (.inr ⟨o, k.f _ _ _ s⟩)
      · exact .inr s
theorem dpAll_kt (k : KT H H1) : ∀ (ds : List PyData) (vs : List V), noLAll ds = true → DpAll K H vs ds → DpAll K H1 vs ds
  | [], _, _, h => by cases h; exact .nil
  | d :: ds, _, n, h => by
    simp only [noLAll, Bool.and_eq_true] at n
    cases h with
    | cons x y => exact .cons (dp_kt k d _ n.1 x) (dpAll_kt k ds _ n.2 y)
end
theorem sqT_kt {xs : List V} (k : KT H H1) (h : SqT K H a xs) : SqT K H1 a xs := by
  rcases h with (s | ⟨o, s⟩) | s
  · exact .inl (.inl (k.t _ _ s))
  · exact .inl (.inr ⟨o, k.f _ _ _ s⟩)
  · exact .inr s
/-- the frames of a function that reads and makes: all that was there stays, but for tables -/
theorem extN_same {H H1 H2 : Hp} (x : ExtN H H1) (y : Same H1 H2) : ExtN H H2 := x.trans (ExtN.of y)
end
theorem cutP_to (ds : List PyData) (i : Nat) : cutP ds none (some (i : Int)) = ds.take i := by
  unfold cutP
  have e1 : HT.sIx ds.length 0 none = 0 := rfl
  rw [e1, HT.sIx_nat, List.drop_zero, Nat.sub_zero]
  by_cases h : i ≤ ds.length
  · rw [Nat.min_eq_left h]
  · rw [Nat.min_eq_right (by omega), List.take_length, List.take_of_length_le (by omega)]
theorem cutP_from (ds : List PyData) (i : Nat) : cutP ds (some (i : Int)) none = ds.drop i := by
  unfold cutP
  have e1 : HT.sIx ds.length ds.length none = ds.length := rfl
  rw [e1, HT.sIx_nat]
  by_cases h : i ≤ ds.length
  · rw [Nat.min_eq_left h, List.take_of_length_le (by rw [List.length_drop]; omega)]
  · rw [Nat.min_eq_right (by omega), List.drop_length, List.drop_of_length_le (by omega), List.take_nil]
section
variable {X : Cx} {K : PySem.W.Frag}
/-- t[-1] -/
def rLastP (K : PySem.W.Frag) : R2 := fun x y H Q => ∃ ds d, Dp K H x (.tuple ds) ∧ y = .int (-1) ∧ ds.getLast? = some d ∧ ∀ z, Dp K H z d → Q z H
theorem ix_lastP (hK : X.K = K) : IxR X (rLastP K) := by
  subst hK
  intro value slice pins s σ H x y v u Q I rx ry h hs
  obtain ⟨ds, d, hx, rfl, hd, q⟩ := h
  cases hx with
  | @tup a xs _ sa ha =>
    have hl := dpAll_len ha
    have hne : 0 < ds.length := by
      cases ds with
      | nil => cases hd
      | cons => simp
    rw [List.getLast?_eq_getElem?] at hd
    obtain ⟨z, hz, hzd⟩ := dpAll_getD ha hd
    refine ix_tup value slice pins s σ H _ _ v u Q I rx ry ⟨a, xs, -1, z, rfl, rfl, sa, ?_, q z hzd⟩ hs
    unfold atI
    have e : ixN xs.length (-1) = some (ds.length - 1) := by
      unfold ixN
      rw [hl]
      have h1 : ¬ (0 ≤ (-1 : Int)) := by omega
      simp
      omega
    rw [e]
    exact hz
end
end HG

set_option maxHeartbeats 4000000
/-! P52G: graphs as they are drawn: their variables are below N; they are small. -/
namespace P52
open PySem HG P54
abbrev Nm (x : Str) : Prop := OkS 12 x
def OpdOk (N : Nat) : Opd → Prop
  | .w i => 0 ≤ i ∧ i < 65536
  | .v n => n < N
def optOk (N : Nat) (v : Option Nat) : Prop := ∀ n, v = some n → n < N
def RwOk (N : Nat) : Rw → Prop
  | .cw v i => v < N ∧ 0 ≤ i ∧ i < 65536
  | .cf v x => v < N ∧ Nm x
  | .cp v u => v < N ∧ u < N
  | .op v x a b => v < N ∧ Nm x ∧ OpdOk N a ∧ OpdOk N b
  | .ld v x => v < N ∧ Nm x
  | .rd v x a => v < N ∧ Nm x ∧ OpdOk N a
  | .ca v x as => optOk N v ∧ Nm x ∧ as.length ≤ 2 ∧ ∀ a ∈ as, OpdOk N a
  | .ap v f as => optOk N v ∧ f < N ∧ as.length ≤ 2 ∧ ∀ a ∈ as, OpdOk N a
  | .st x a => Nm x ∧ OpdOk N a
  | .pr a => OpdOk N a
  | .wr x a b => Nm x ∧ OpdOk N a ∧ OpdOk N b
def StpOk (N B : Nat) : Stp → Prop
  | .jp n => n < B
  | .br a n m => OpdOk N a ∧ n < B ∧ m < B
  | .rt a => ∀ o, a = some o → OpdOk N o
  | .ht i => 0 ≤ i ∧ i < 65536
structure BkOk (N B : Nat) (b : Blk) : Prop where
  rows : ∀ R ∈ b.rows, RwOk N R
  stop : StpOk N B b.stop
  len : b.rows.length ≤ 15
structure GrOk (N : Nat) (g : Gr) : Prop where
  count : g.count ≤ 3
  cN : g.count ≤ N
  small : N ≤ 10
  pos : 0 < g.blocks.length
  many : g.blocks.length ≤ 9
  blk : ∀ b ∈ g.blocks, BkOk N g.blocks.length b
theorem OpdOk.vars {N : Nat} {a : Opd} (h : OpdOk N a) : ∀ n ∈ a.vars, n < N := by
  cases a with
  | w i => intro n hn; cases hn
  | v m =>
    intro n hn
    rw [List.mem_singleton.mp hn]
    exact h
theorem RwOk.ops {N : Nat} {R : Rw} (h : RwOk N R) : ∀ a ∈ R.ops, OpdOk N a := by
  cases R <;> simp only [RwOk] at h <;> intro a ha <;> simp only [Rw.ops, List.mem_cons, List.not_mem_nil, or_false] at ha
  case cp v u => subst ha; exact h.2
  case op v x p q =>
    rcases ha with rfl | rfl
    · exact h.2.2.1
    · exact h.2.2.2
  case rd v x p => subst ha; exact h.2.2
  case ca v x as => exact h.2.2.2 a ha
  case ap v f as =>
    rcases ha with rfl | ha
    · exact h.2.1
    · exact h.2.2.2 a ha
  case st x p => subst ha; exact h.2
  case pr p => subst ha; exact h
  case wr x p q =>
    rcases ha with rfl | rfl
    · exact h.2.1
    · exact h.2.2
theorem RwOk.set {N : Nat} {R : Rw} (h : RwOk N R) : ∀ n, R.set = some n → n < N := by
  intro n hn
  cases R <;> simp only [RwOk] at h <;> simp only [Rw.set] at hn
  case cw v i => cases hn; exact h.1
  case cf v i => cases hn; exact h.1
  case cp v i => cases hn; exact h.1
  case op v x a b => cases hn; exact h.1
  case ld v x => cases hn; exact h.1
  case rd v x a => cases hn; exact h.1
  case ca v x as => exact h.1 n hn
  case ap v x as => exact h.1 n hn
  case st => cases hn
  case pr => cases hn
  case wr => cases hn
theorem RwOk.len {N : Nat} {R : Rw} (h : RwOk N R) : R.ops.length ≤ 3 := by
  cases R <;> simp only [RwOk] at h <;> simp only [Rw.ops, List.length_cons, List.length_nil] <;> omega
theorem StpOk.ops {N B : Nat} {E : Stp} (h : StpOk N B E) : ∀ a ∈ E.ops, OpdOk N a := by
  cases E with
  | jp n => intro a ha; cases ha
  | br o n m =>
    intro a ha
    rw [List.mem_singleton.mp ha]
    exact h.1
  | rt o =>
    cases o with
    | none => intro a ha; cases ha
    | some o =>
      intro a ha
      rw [List.mem_singleton.mp ha]
      exact h o rfl
  | ht i => intro a ha; cases ha
theorem StpOk.to {N B : Nat} {E : Stp} (h : StpOk N B E) : ∀ n ∈ E.to, n < B := by
  cases E with
  | jp m =>
    intro n hn
    rw [List.mem_singleton.mp hn]
    exact h
  | br o m k =>
    intro n hn
    simp only [Stp.to, List.mem_cons, List.not_mem_nil, or_false] at hn
    rcases hn with rfl | rfl
    · exact h.2.1
    · exact h.2.2
  | rt o => intro n hn; cases hn
  | ht i => intro n hn; cases hn
/-! ### small -/
theorem fnI {i : Int} (d : Nat) (h0 : 0 ≤ i) (h : i < 10 ^ 9) : Fine 0 2000 d (.int i) := by
  have e : (10 : Int) ^ 9 < 10 ^ 39 := by decide
  exact Fine.int d (by decide) (by omega) (by omega)
theorem fnN {n : Nat} (d : Nat) (h : n < 1000000) : Fine 0 2000 d (.int (n : Int)) := by
  have e : (1000000 : Int) < 10 ^ 9 := by decide
  exact fnI d (by omega) (by omega)
theorem fnS {x : Str} (d : Nat) (h : Nm x) : Fine 0 2000 d (.str x) := (Fine.str d h (by decide)).up (Nat.le_refl _) (by decide) (Nat.le_refl _)
theorem fnO {N : Nat} {a : Opd} (hN : N ≤ 10) (h : OpdOk N a) : Fine 0 4100 1 (oD a) := by
  cases a with
  | w i =>
    have : (65536 : Int) < 10 ^ 9 := by decide
    exact (fnI 1 h.1 (by have := h.2; omega)).up (Nat.le_refl _) (by decide) (Nat.le_refl _)
  | v n =>
    have hv : Nm ("var" : Str) := ⟨by decide +kernel, by decide +kernel⟩
    have h' : n < N := h
    refine (Fine.tupN (n := 2) (d := 0) (W := 2000) (ds := [.str "var", .int (n : Int)]) (fun e he => ?_) (Nat.le_refl 2)).up (Nat.le_refl _) (by decide) (Nat.le_refl _)
    simp only [List.mem_cons, List.not_mem_nil, or_false] at he
    rcases he with rfl | rfl
    · exact fnS 0 hv
    · exact fnN 0 (by omega)
theorem fnV {N : Nat} {v : Option Nat} (d : Nat) (hN : N ≤ 10) (h : optOk N v) : Fine 0 2000 d (ovD v) := by
  cases v with
  | none => exact (Fine.none 0 d).up (Nat.le_refl _) (by decide) (Nat.le_refl _)
  | some n => exact fnN d (by have := h n rfl; omega)
theorem word_nm (R : Rw) : Nm R.word := by cases R <;> exact ⟨by dsimp only [Rw.word]; decide +kernel, by dsimp only [Rw.word]; decide +kernel⟩
theorem fnAs {N : Nat} {as : List Opd} (hN : N ≤ 10) (hl : as.length ≤ 2) (h : ∀ a ∈ as, OpdOk N a) : Fine 0 8300 2 (.tuple (as.map oD)) := by
  refine (Fine.tupN (n := 2) (d := 1) (W := 4100) (fun e he => ?_) (by rw [List.length_map]; exact hl)).up (Nat.le_refl _) (by decide) (Nat.le_refl _)
  obtain ⟨a, ha, rfl⟩ := List.mem_map.mp he
  exact fnO hN (h a ha)
theorem fnR {N : Nat} {R : Rw} (hN : N ≤ 10) (h : RwOk N R) : Fine 0 42000 3 R.D := by
  have key : R.L.length ≤ 5 ∧ ∀ e ∈ R.L, Fine 0 8300 2 e := by
    have hw : Fine 0 8300 2 (.str R.word) := (fnS 2 (word_nm R)).up (Nat.le_refl _) (by decide) (Nat.le_refl _)
    have o : ∀ {a : Opd}, OpdOk N a → Fine 0 8300 2 (oD a) := fun h => (fnO hN h).up (Nat.le_refl _) (by decide) (by decide)
    have s : ∀ {x : Str}, Nm x → Fine 0 8300 2 (.str x) := fun h => (fnS 2 h).up (Nat.le_refl _) (by decide) (Nat.le_refl _)
    have n : ∀ {m : Nat}, m < N → Fine 0 8300 2 (.int (m : Int)) := fun {m} h => (fnN 2 (by omega)).up (Nat.le_refl _) (by decide) (Nat.le_refl _)
    refine ⟨by cases R <;> exact Nat.le_of_ble_eq_true rfl, fun e he => ?_⟩
    have he2 := List.mem_cons.mp he
    clear he
    rcases he2 with rfl | he
    · exact hw
    cases R <;> simp only [RwOk] at h <;> simp only [Rw.rest, List.mem_cons, List.not_mem_nil, or_false] at he
    case cw v i =>
      rcases he with rfl | rfl
      · exact n h.1
      · have : (65536 : Int) < 10 ^ 9 := by decide
        exact (fnI 2 h.2.1 (by omega)).up (Nat.le_refl _) (by decide) (Nat.le_refl _)
    case cf v x =>
      rcases he with rfl | rfl
      · exact n h.1
      · have hf : Nm ("func" : Str) := ⟨by decide +kernel, by decide +kernel⟩
        refine (Fine.tupN (n := 2) (d := 1) (W := 2000) (ds := [.str "func", .str x]) (fun e he => ?_) (Nat.le_refl 2)).up (Nat.le_refl _) (by decide) (Nat.le_refl _)
        simp only [List.mem_cons, List.not_mem_nil, or_false] at he
        rcases he with rfl | rfl
        · exact fnS 1 hf
        · exact fnS 1 h.2
    case cp v u =>
      rcases he with rfl | rfl
      · exact n h.1
      · exact n h.2
    case op v x a b =>
      rcases he with rfl | rfl | rfl | rfl
      · exact n h.1
      · exact s h.2.1
      · exact o h.2.2.1
      · exact o h.2.2.2
    case ld v x =>
      rcases he with rfl | rfl
      · exact n h.1
      · exact s h.2
    case rd v x a =>
      rcases he with rfl | rfl | rfl
      · exact n h.1
      · exact s h.2.1
      · exact o h.2.2
    case ca v x as =>
      rcases he with rfl | rfl | rfl
      · exact (fnV 2 hN h.1).up (Nat.le_refl _) (by decide) (Nat.le_refl _)
      · exact s h.2.1
      · exact fnAs hN h.2.2.1 h.2.2.2
    case ap v f as =>
      rcases he with rfl | rfl | rfl
      · exact (fnV 2 hN h.1).up (Nat.le_refl _) (by decide) (Nat.le_refl _)
      · exact n h.2.1
      · exact fnAs hN h.2.2.1 h.2.2.2
    case st x a =>
      rcases he with rfl | rfl
      · exact s h.1
      · exact o h.2
    case pr a => subst he; exact o h
    case wr x a b =>
      rcases he with rfl | rfl | rfl
      · exact s h.1
      · exact o h.2.1
      · exact o h.2.2
  exact (Fine.tupN (n := 5) (d := 2) (W := 8300) key.2 key.1).up (Nat.le_refl _) (by decide) (Nat.le_refl _)
theorem fnE {N B : Nat} {E : Stp} (hN : N ≤ 10) (hB : B ≤ 9) (h : StpOk N B E) : Fine 0 42000 3 E.D := by
  have hw : Nm E.word := by cases E <;> exact ⟨by dsimp only [Stp.word]; decide +kernel, by dsimp only [Stp.word]; decide +kernel⟩
  have o : ∀ {a : Opd}, OpdOk N a → Fine 0 8300 2 (oD a) := fun h => (fnO hN h).up (Nat.le_refl _) (by decide) (by decide)
  have n : ∀ {m : Nat}, m < B → Fine 0 8300 2 (.int (m : Int)) := fun {m} h => (fnN 2 (by omega)).up (Nat.le_refl _) (by decide) (Nat.le_refl _)
  refine (Fine.tupN (n := 5) (d := 2) (W := 8300) (fun e he => ?_) (by cases E <;> exact Nat.le_of_ble_eq_true rfl)).up (Nat.le_refl _) (by decide) (Nat.le_refl _)
  rcases List.mem_cons.mp he with rfl | he
  · exact (fnS 2 hw).up (Nat.le_refl _) (by decide) (Nat.le_refl _)
  cases E with
  | jp m =>
    simp only [Stp.rest, List.mem_cons, List.not_mem_nil, or_false] at he
    subst he
    exact n h
  | br a m k =>
    simp only [Stp.rest, List.mem_cons, List.not_mem_nil, or_false] at he
    rcases he with rfl | rfl | rfl
    · exact o h.1
    · exact n h.2.1
    · exact n h.2.2
  | rt a =>
    simp only [Stp.rest, List.mem_cons, List.not_mem_nil, or_false] at he
    subst he
    cases a with
    | none => exact (Fine.none 0 2).up (Nat.le_refl _) (by decide) (Nat.le_refl _)
    | some a => exact o (h a rfl)
  | ht i =>
    simp only [Stp.rest, List.mem_cons, List.not_mem_nil, or_false] at he
    subst he
    have : (65536 : Int) < 10 ^ 9 := by decide
    exact (fnI 2 h.1 (by have := h.2; omega)).up (Nat.le_refl _) (by decide) (Nat.le_refl _)
theorem fnB {N B : Nat} {b : Blk} (hN : N ≤ 10) (hB : B ≤ 9) (h : BkOk N B b) : Fine 0 700000 5 b.D := by
  have f1 : Fine 0 631000 4 (.tuple (b.rows.map Rw.D)) := by
    refine (Fine.tupN (n := 15) (d := 3) (W := 42000) (fun e he => ?_) (by rw [List.length_map]; exact h.len)).up (Nat.le_refl _) (by decide) (Nat.le_refl _)
    obtain ⟨R, hR, rfl⟩ := List.mem_map.mp he
    exact fnR hN (h.rows R hR)
  have f2 := fnE hN hB h.stop
  refine ⟨?_, ?_, ?_⟩
  · rw [sm_tup]
    intro d hd
    simp only [List.mem_cons, List.not_mem_nil, or_false] at hd
    rcases hd with rfl | rfl
    · exact f1.sm
    · exact f2.sm
  · have h1 := f1.wt
    have h2 := f2.wt
    simp only [Blk.D]
    rw [wt_tup]
    simp only [wtAll] at *
    omega
  · have h1 := f1.dp
    have h2 := f2.dp
    simp only [Blk.D]
    rw [dp_tup]
    simp only [PyData.depthAll] at *
    omega
theorem fnG {N : Nat} {g : Gr} (h : GrOk N g) : Fine 0 6400000 7 g.D := by
  have f1 : Fine 0 6310000 6 (.tuple (g.blocks.map Blk.D)) := by
    refine (Fine.tupN (n := 9) (d := 5) (W := 700000) (fun e he => ?_) (by rw [List.length_map]; exact h.many)).up (Nat.le_refl _) (by decide) (Nat.le_refl _)
    obtain ⟨b, hb, rfl⟩ := List.mem_map.mp he
    exact fnB h.small h.many (h.blk b hb)
  have f2 : Fine 0 2000 0 (.int (g.count : Int)) := fnN 0 (by have := h.count; omega)
  refine ⟨?_, ?_, ?_⟩
  · rw [sm_tup]
    intro d hd
    simp only [List.mem_cons, List.not_mem_nil, or_false] at hd
    rcases hd with rfl | rfl
    · exact f2.sm
    · exact f1.sm
  · have h1 := f1.wt
    have h2 := f2.wt
    simp only [Gr.D]
    rw [wt_tup]
    simp only [wtAll] at *
    omega
  · have h1 := f1.dp
    have h2 := f2.dp
    simp only [Gr.D]
    rw [dp_tup]
    simp only [PyData.depthAll] at *
    omega
end P52

set_option maxHeartbeats 4000000
/-! HI: lists made of data by comprehensions. -/
namespace HG
open PySem PySem.Spec PyProof.Rows L2
abbrev LcC (J : It) (g : TG) (tt : TT) (te : TE) (vs : List Nat) (σ : L2.St) (H1 : Hp) (D : Addr) (Qd : Hp → Prop) : Prop :=
  ∃ W : Nat → Nat → Hp → Prop, (∃ m, W 0 m (upd H1 D (.lst []))) ∧ ∀ i m H, W i m H → (J.stop i H ∧ Qd H) ∨ (J.go i H ∧ ∃ Nx : Hp → Prop, (∀ H', Nx H' → ∃ m', m' < m ∧ W (i + 1) m' H') ∧ ∀ x H', J.yld i H x H' →
    g x (wipe σ vs) H' fun σ2 H2 => wipe σ2 vs = wipe σ vs ∧ tt σ2 H2 fun b H3 => if b = true then te σ2 H3 fun y H4 => ∃ acc, H4 D = some (.lst acc) ∧ acc.length < sizeLine ∧ Nx (upd H4 D (.lst (acc ++ [y]))) else Nx H3)
theorem small_line {n : Nat} (h : n ≤ 1000000) : n < sizeLine := by rw [sizeLine_eq]; omega
theorem sqT_same {K : PySem.W.Frag} {H H' : Hp} {a : Addr} {xs : List V} (s : Same H H') (h : SqT K H a xs) : SqT K H' a xs := sqT_kt (KT.of s) h
theorem dpAll_map_get {K : PySem.W.Frag} {H : Hp} {α : Type} {f : α → PyData} {xs : List V} {as : List α} {i : Nat} {x : V} (h : DpAll K H xs (as.map f)) (hx : xs[i]? = some x) : ∃ a, as[i]? = some a ∧ Dp K H x (f a) := by
  obtain ⟨d, hd, hxd⟩ := dpAll_get h hx
  rw [List.getElem?_map] at hd
  obtain ⟨a, ha, rfl⟩ := Option.map_eq_some_iff.mp hd
  exact ⟨a, ha, hxd⟩
theorem noLAll_map {α : Type} {f : α → PyData} {as : List α} (h : ∀ a ∈ as, noL (f a) = true) : noLAll (as.map f) = true := noLAll_mem.mpr fun d hd => by
  obtain ⟨a, ha, rfl⟩ := List.mem_map.mp hd
  exact h a ha
section
variable {K : PySem.W.Frag} {H : Hp} {a D : Addr} {xs : List V} {α : Type} {as : List α} {g0 f : α → PyData} {g : TG} {tt : TT} {te : TE} {vs : List Nat} {σ : L2.St} {Qd : Hp → Prop}
/-- one more of new data -/
theorem mk_step {H3 H4 : Hp} {ys : List V} {ds : List PyData} {y : V} {d : PyData} (hD : H D = none) (hD3 : H3 D = some (.lst ys)) (hY : DpAll K H3 ys ds) (hn : noLAll ds = true) (s3 : Same H H3) (s4 : Same H3 H4) (hy : Dp K H4 y d) (hnd : noL d = true) :
    H4 D = some (.lst ys) ∧ DpAll K (upd H4 D (.lst (ys ++ [y]))) (ys ++ [y]) (ds ++ [d]) ∧ Same H (upd H4 D (.lst (ys ++ [y]))) := by
  have hD4 := s4 _ _ hD3
  refine ⟨hD4, dpAll_app (dpAll_kt ((KT.of s4).trans (KT.lst hD4)) _ _ hn hY) (.cons (dp_kt (KT.lst hD4) _ _ hnd hy) .nil), fun b o h => ?_⟩
  rw [upd_ne (ne_of_none h hD)]
  exact s4 _ _ (s3 _ _ h)
/-- [f(x) for x in tuple] -/
theorem lc_mk (sq : SqT K H a xs) (hA : DpAll K H xs (as.map g0)) (hl : as.length ≤ 1000000) (hD : H D = none) (hn : ∀ e ∈ as, noL (f e) = true)
    (hs : ∀ (x : V) (e : α) (H3 : Hp) (QQ : VK) (R : Hp → Prop), e ∈ as → Dp K H x (g0 e) → Same H H3 → (∀ y H4, Dp K H4 y (f e) → Same H3 H4 → QQ y H4) →
      g x (wipe σ vs) H3 fun σ2 H2 => wipe σ2 vs = wipe σ vs ∧ tt σ2 H2 fun b H3 => if b = true then te σ2 H3 QQ else R H3)
    (hd : ∀ H3 ys, H3 D = some (.lst ys) → DpAll K H3 ys (as.map f) → Same H H3 → Qd H3) : LcC (Itt K a) g tt te vs σ H D Qd := by
  have hlen := dpAll_len hA
  rw [List.length_map] at hlen
  refine lc_tup (xs := xs) (fun i H3 => ∃ ys, H3 D = some (.lst ys) ∧ DpAll K H3 ys ((as.take i).map f) ∧ Same H H3) ⟨[], upd_same, .nil, fun b o h => upd_get hD h⟩ ?_ ?_ ?_
  · rintro i H3 _ ⟨_, _, _, s3⟩
    exact sqT_same s3 sq
  · rintro i x H3 hx ⟨ys, hD3, hY, s3⟩
    obtain ⟨e, he, hxe⟩ := dpAll_map_get hA hx
    have hi : i < as.length := (List.getElem?_eq_some_iff.mp he).1
    refine hs x e H3 _ _ (List.mem_of_getElem? he) hxe s3 fun y H4 hy s4 => ?_
    have hyl := dpAll_len hY
    rw [List.length_map, List.length_take] at hyl
    obtain ⟨m1, m2, m3⟩ := mk_step hD hD3 hY (noLAll_map fun e he => hn e (List.mem_of_mem_take he)) s3 s4 hy (hn e (List.mem_of_getElem? he))
    refine ⟨_, m1, small_line (by omega), _, upd_same, ?_, m3⟩
    have e2 : (as.take (i + 1)).map f = (as.take i).map f ++ [f e] := by
      rw [List.take_add_one, he, List.map_append]
      rfl
    rw [e2]
    exact m2
  · rintro H3 ⟨ys, hD3, hY, s3⟩
    rw [hlen, List.take_length] at hY
    exact hd H3 ys hD3 hY s3
/-- [f(x) for x in list] -/
theorem lc_mkL (sq : SqL K H a xs) (hA : DpAll K H xs (as.map g0)) (hl : as.length ≤ 1000000) (hD : H D = none) (hn : ∀ e ∈ as, noL (f e) = true)
    (hs : ∀ (x : V) (e : α) (H3 : Hp) (QQ : VK) (R : Hp → Prop), e ∈ as → Dp K H x (g0 e) → Same H H3 → (∀ y H4, Dp K H4 y (f e) → Same H3 H4 → QQ y H4) →
      g x (wipe σ vs) H3 fun σ2 H2 => wipe σ2 vs = wipe σ vs ∧ tt σ2 H2 fun b H3 => if b = true then te σ2 H3 QQ else R H3)
    (hd : ∀ H3 ys, H3 D = some (.lst ys) → DpAll K H3 ys (as.map f) → Same H H3 → Qd H3) : LcC (Itl K a) g tt te vs σ H D Qd := by
  have hlen := dpAll_len hA
  rw [List.length_map] at hlen
  refine lc_list (xs := xs) (fun i H3 => ∃ ys, H3 D = some (.lst ys) ∧ DpAll K H3 ys ((as.take i).map f) ∧ Same H H3) ⟨[], upd_same, .nil, fun b o h => upd_get hD h⟩ ?_ ?_ ?_
  · rintro i H3 _ ⟨_, _, _, s3⟩
    exact Same.seq s3 sq
  · rintro i x H3 hx ⟨ys, hD3, hY, s3⟩
    obtain ⟨e, he, hxe⟩ := dpAll_map_get hA hx
    have hi : i < as.length := (List.getElem?_eq_some_iff.mp he).1
    refine hs x e H3 _ _ (List.mem_of_getElem? he) hxe s3 fun y H4 hy s4 => ?_
    have hyl := dpAll_len hY
    rw [List.length_map, List.length_take] at hyl
    obtain ⟨m1, m2, m3⟩ := mk_step hD hD3 hY (noLAll_map fun e he => hn e (List.mem_of_mem_take he)) s3 s4 hy (hn e (List.mem_of_getElem? he))
    refine ⟨_, m1, small_line (by omega), _, upd_same, ?_, m3⟩
    have e2 : (as.take (i + 1)).map f = (as.take i).map f ++ [f e] := by
      rw [List.take_add_one, he, List.map_append]
      rfl
    rw [e2]
    exact m2
  · rintro H3 ⟨ys, hD3, hY, s3⟩
    rw [hlen, List.take_length] at hY
    exact hd H3 ys hD3 hY s3
end
end HG

set_option maxHeartbeats 4000000
namespace K51
open PySem PySem.Spec PyProof.Rows L2 HG P52
/-! ### frames -/
theorem ext_kt {d c : Addr} {n : Nat} {H H' : Hp} (dk : Deck d c n H) (X : Ext d c H H') : KT H H' := by
  obtain ⟨ns, m, t, e1, e2, _⟩ := dk.ex
  refine ⟨fun b xs e => X.at (fun z => by rw [z, e1] at e; cases e) (fun z => by rw [z, e2] at e; cases e) e, fun b o u e => X.at (fun z => by rw [z, e1] at e; cases e) (fun z => by rw [z, e2] at e; cases e) e⟩
theorem grow {d c : Addr} {n : Nat} {H H' : Hp} (X : Ext d c H H') (D : Deck d c n H') {b : Addr} (h : H' b = none) : H b = none := by
  have nn := D.has h
  cases q : H b with
  | none => rfl
  | some o =>
    rw [X.at nn.1 nn.2 q] at h
    cases h
theorem off_same_mono {d c : Addr} {H H1 : Hp} (s : Same H H1) : Same (off d c H) (off d c H1) := fun b o h => by
  unfold off at h ⊢
  split at h
  · cases h
  · rename_i n
    rw [if_neg n]
    exact s b o h
theorem off_at {d c b : Addr} {H : Hp} {o : HO} (h : off d c H b = some o) : H b = some o ∧ b ≠ d ∧ b ≠ c := by
  unfold off at h
  split at h
  · cases h
  · rename_i n
    exact ⟨h, fun z => n (.inl z), fun z => n (.inr z)⟩
theorem seqIx {j n : Nat} (h : j < n) : seqIndex? (j : Int) n = some j := by
  unfold seqIndex?
  simp
  omega
theorem many40 {n : Nat} (h : n ≤ 1000000) : ((n : Nat) : Int) < 10 ^ 40 := by
  have : (1000000 : Int) < 10 ^ 40 := by decide
  omega
theorem erase_str : ∀ (l : List Str) (j : Nat), (l.map V.str).eraseIdx j = (l.eraseIdx j).map V.str
  | [], _ => rfl
  | _ :: _, 0 => rfl
  | x :: l, j + 1 => by
    simp only [List.map_cons, List.eraseIdx_cons_succ, erase_str l j]
theorem off_kt {d c : Addr} {n : Nat} {H : Hp} (dk : Deck d c n H) : KT H (off d c H) := by
  obtain ⟨ns, m, t, e1, e2, _⟩ := dk.ex
  refine ⟨fun b xs e => ?_, fun b o u e => ?_⟩
  · rw [off_get (fun z => by rw [z, e1] at e; cases e) (fun z => by rw [z, e2] at e; cases e)]
    exact e
  · rw [off_get (fun z => by rw [z, e1] at e; cases e) (fun z => by rw [z, e2] at e; cases e)]
    exact e
/-! ### names -/
abbrev words19 : List Str := ["f", "g", "x", "y", "t", "a", "b", "ab", "abc", "abcdefgh", "let", "call", "load", "func", "var", "const", "zz", "main", "print"]
theorem split19 : Txt.split "f g x y t a b ab abc abcdefgh let call load func var const zz main print" " " = words19 := by decide +kernel
theorem w19 : ∀ z ∈ words19, OkS 9 z := by
  have : ∀ z ∈ words19, z.length ≤ 9 ∧ ∀ c ∈ cp z, c < 128 := by decide +kernel
  exact fun z hz => ⟨(this z hz).1, (this z hz).2⟩
theorem mW : OkS 2 ("m." : Str) := ⟨by decide +kernel, by decide +kernel⟩
def spNames (K : PySem.W.Frag) : Sp := fun vs H Q _ => ∃ (d c : Addr) (n k : Nat), vs = [.ref d, .int (k : Int)] ∧ k ≤ 9 ∧ n < 2 ^ 50 ∧ Deck d c n H ∧
  ∀ (a : Addr) (zs : List Str) (H' : Hp), zs.length = k → (∀ z ∈ zs, Nm z) → Deck d c (n + 20) H' → Ext d c H H' → H a = none → H' a = some (.lst (zs.map V.str)) → Q (.ref a) H'
section
variable {P : Program} {w : World} {K : PySem.W.Frag} {mg : Str → Option Value} {base : Heap}
set_option pp.maxSteps 600 in
theorem c_names (T : Txt w K mg) : Cal P w K mg base "_law_names" 2 ["_law_deck_here", "_law_many"] (spNames K) := by
  obtain ⟨fd, F⟩ := T.d__law_names
  have C__law_draw := c_draw (P := P) (base := base) T
  refine ⟨⟨fd, F.ok sc__law_names (fun vs H Q E h => ?_) (fun cdv A outer s H vs Q E hr h => ?_), F.bindsN fun _ _ _ _ _ _ us hl => match us, hl with | [_, _], _ => rfl⟩, T.g _ (by decide), F.kp⟩
  · obtain ⟨d, c, n, k, rfl, _⟩ := h
    rfl
  obtain ⟨d, c, n, k, rfl, hk, hn, dk, q⟩ := h
  refine ⟨_, PSs.nox (pss_cons (ps_set (i := 2) sc__law_names.nd rfl (.inl rfl) (pe_bm PySem.F.plainAttrs_str PySem.F.slot_str_split PySem.F.type_str_split mt_split pe_str (pa_cons pe_str pa_nil)))
      (pss_cons (ps_set (i := 3) sc__law_names.nd rfl (.inl rfl) (pe_lst pa_nil))
      (pss_cons (ps_for PassesOwn.never rfl (pi_range1 (by rfl) T.n_range (pa_cons (pv 1) pa_nil)) (pg_name (i := 4) sc__law_names.nd rfl (.inl rfl)) (pss_cons (ps_set (i := 5) sc__law_names.nd rfl (.inl rfl) (pe_bm PySem.F.plainAttrs_list PySem.F.slot_list_pop PySem.F.type_list_pop mt_popAt (pv 2) (pa_cons (pe_cal C__law_draw (hr.mono (by omega)) (by rfl) (pa_cons (pv 0) (pa_cons (pe_callB (lenK (K := K) rfl) (by rfl) T.n_len (by decide +kernel) (pa_cons (pv 2) pa_nil)) pa_nil))) pa_nil)))
      (pss_one (ps_expr (pe_bm PySem.F.plainAttrs_list PySem.F.slot_list_append PySem.F.type_list_append mt_append (pv 3) (pa_cons (pe_ix (ix_listK (K := K) rfl) (pe_lst (pa_cons (pe_op op_add_str pe_str (pv 5)) (pa_cons (pv 5) (pa_cons (pv 5) (pa_cons (pv 5) pa_nil))))) (pe_cal C__law_draw (hr.mono (by omega)) (by rfl) (pa_cons (pv 0) (pa_cons pe_int pa_nil))) (fun _ _ => rfl)) pa_nil))))))
      (pss_one (ps_ret (pv 3)))))), ?_⟩
  refine ⟨rfl, _, _, rfl, rfl, rfl, (by decide), fun p2 hp2 => ?_⟩
  rw [split19]
  have n2 := dk.has hp2
  have dk1 := dk.new (o := .lst (words19.map V.str)) hp2
  have X1 : Ext d c H (upd H p2 (.lst (words19.map V.str))) := Ext.new hp2
  have e21 : (upd H p2 (.lst (words19.map V.str))) p2 = some (.lst (words19.map V.str)) := upd_same
  generalize upd H p2 (.lst (words19.map V.str)) = H1 at dk1 X1 e21 ⊢
  refine ⟨Nat.zero_le _, fun p3 hp3 => ?_⟩
  have n3 := dk1.has hp3
  have hp3H := grow X1 dk1 hp3
  have n23 : p2 ≠ p3 := ne_of_none e21 hp3
  have dk2 := dk1.new (o := .lst []) hp3
  have X2 := X1.trans (Ext.new (o := .lst []) hp3)
  have e22 := upd_get (o := .lst []) hp3 e21
  have e32 : (upd H1 p3 (.lst [])) p3 = some (.lst []) := upd_same
  generalize upd H1 p3 (.lst []) = H2 at dk2 X2 e22 e32 ⊢
  refine ⟨_, rfl, _, rfl, by omega, by omega, for_range (lo := 0) (n := (k : Int).toNat) (fun i σ H3 => ∃ ws zs x4 x5, σ = [some (.ref d), some (.int (k : Int)), some (.ref p2), some (.ref p3), x4, x5] ∧ H3 p2 = some (.lst (ws.map V.str)) ∧ H3 p3 = some (.lst (zs.map V.str)) ∧ ws.length + i = 19 ∧ zs.length = i ∧ (∀ z ∈ ws, z ∈ words19) ∧ (∀ z ∈ zs, Nm z) ∧ Deck d c (n + 2 * i) H3 ∧ Ext d c H H3)
    ⟨words19, [], _, _, rfl, e22, e32, rfl, rfl, fun z h => h, (fun _ h => nomatch h), dk2, X2⟩ ?_ ?_⟩
  · rintro i σ H3 hi ⟨ws, zs, x4, x5, rfl, e2, e3, hwl, hzl, hws, hzs, dk3, X3⟩
    have hi : i < 9 := by omega
    refine ⟨.ref p2, rfl, .inl ⟨rfl, _, .inl (.inl e2)⟩, .ref d, rfl, .ref p2, rfl, .ref p2, _, rfl, .inl ⟨_, .inl (.inl e2), rfl⟩, d, c, n + 2 * i, _, rfl, ?_, ?_, by omega, dk3, fun r H4 r0 r1 dk4 X4 => ?_⟩
    · rw [List.length_map]
      omega
    · rw [List.length_map]
      exact many40 (by omega)
    rw [List.length_map] at r1
    obtain ⟨j, rfl⟩ := Int.eq_ofNat_of_zero_le r0
    have hj : j < ws.length := by omega
    have e24 := X4.at n2.1 n2.2 e2
    have e34 := X4.at n3.1 n3.2 e3
    refine ⟨p2, _, _, j, .str ws[j], rfl, rfl, e24, by omega, by omega, by rw [List.length_map]; exact seqIx hj, by rw [List.getElem?_map, List.getElem?_eq_getElem hj]; rfl, ?_⟩
    have hwj := hws _ (List.getElem_mem hj)
    have ee : (ws.map V.str).eraseIdx j = (ws.eraseIdx j).map V.str := erase_str _ _
    rw [ee]
    have dk5 := dk4.upd (o := .lst ((ws.eraseIdx j).map V.str)) n2.1 n2.2
    have X5 : Ext d c H (upd H4 p2 (.lst ((ws.eraseIdx j).map V.str))) := (X3.trans X4).mut hp2
    have e25 : (upd H4 p2 (.lst ((ws.eraseIdx j).map V.str))) p2 = some (.lst ((ws.eraseIdx j).map V.str)) := upd_same
    have e35 : (upd H4 p2 (.lst ((ws.eraseIdx j).map V.str))) p3 = some (.lst (zs.map V.str)) := by rw [upd_ne n23.symm]; exact e34
    generalize upd H4 p2 (.lst ((ws.eraseIdx j).map V.str)) = H5 at dk5 X5 e25 e35 ⊢
    have ok9 := w19 _ hwj
    have ok11 : OkS 11 ("m." ++ ws[j]) := mW.app ok9
    refine ⟨.ref p3, rfl, .inl ⟨rfl, _, .inl (.inl e35)⟩, .str ws[j], rfl, _, _, rfl, rfl, ?_, .str ws[j], rfl, .str ws[j], rfl, .str ws[j], rfl, (by show 4 ≤ sizeLine; decide), fun p6 hp6 => ?_⟩
    · have h1 := mW.len
      have h2 := ok9.len
      rw [sizeLine_eq]
      omega
    have n6 := dk5.has hp6
    have n63 : p3 ≠ p6 := ne_of_none e35 hp6
    have n62 : p2 ≠ p6 := ne_of_none e25 hp6
    have dk6 := dk5.new (o := .lst [.str ("m." ++ ws[j]), .str ws[j], .str ws[j], .str ws[j]]) hp6
    have X6 := X5.trans (Ext.new (o := .lst [.str ("m." ++ ws[j]), .str ws[j], .str ws[j], .str ws[j]]) hp6)
    have e66 : (upd H5 p6 (.lst [.str ("m." ++ ws[j]), .str ws[j], .str ws[j], .str ws[j]])) p6 = some (.lst [.str ("m." ++ ws[j]), .str ws[j], .str ws[j], .str ws[j]]) := upd_same
    have e26 := upd_get (o := .lst [.str ("m." ++ ws[j]), .str ws[j], .str ws[j], .str ws[j]]) hp6 e25
    have e36 := upd_get (o := .lst [.str ("m." ++ ws[j]), .str ws[j], .str ws[j], .str ws[j]]) hp6 e35
    generalize upd H5 p6 (.lst [.str ("m." ++ ws[j]), .str ws[j], .str ws[j], .str ws[j]]) = H6 at dk6 X6 e66 e26 e36 ⊢
    refine ⟨.ref d, rfl, d, c, n + 2 * i + 1, 4, rfl, by decide, by decide, by omega, dk6, fun r H7 r0 r1 dk7 X7 => ?_⟩
    obtain ⟨l, rfl⟩ := Int.eq_ofNat_of_zero_le r0
    have hl : l < 4 := by omega
    have hpick : ∃ z, ([V.str ("m." ++ ws[j]), V.str ws[j], V.str ws[j], V.str ws[j]] : List V)[l]? = some (.str z) ∧ Nm z := by
      match l, hl with
      | 0, _ => exact ⟨_, rfl, ok11.up (by decide)⟩
      | 1, _ => exact ⟨_, rfl, ok9.up (by decide)⟩
      | 2, _ => exact ⟨_, rfl, ok9.up (by decide)⟩
      | 3, _ => exact ⟨_, rfl, ok9.up (by decide)⟩
    obtain ⟨z, hz1, hz2⟩ := hpick
    have e37 := X7.at n3.1 n3.2 e36
    have e27 := X7.at n2.1 n2.2 e26
    refine ⟨p6, _, l, .str z, rfl, rfl, .inl (.inl (X7.at n6.1 n6.2 e66)), atI_nat hz1, p3, _, _, rfl, rfl, e37, ?_, ?_⟩
    · rw [List.length_map]
      exact small_line (by omega)
    refine ⟨ws.eraseIdx j, zs ++ [z], _, _, rfl, by rw [upd_ne n23]; exact e27, by rw [upd_same, List.map_append]; rfl, ?_, by rw [List.length_append, hzl]; rfl, fun y hy => hws y (List.mem_of_mem_eraseIdx hy), fun y hy => ?_, dk7.upd n3.1 n3.2 |>.up (by omega), (X6.trans X7).mut hp3H⟩
    · rw [List.length_eraseIdx_of_lt hj]
      omega
    · rcases List.mem_append.mp hy with h | h
      · exact hzs y h
      · rw [List.mem_singleton.mp h]
        exact hz2
  · rintro σ H3 ⟨ws, zs, x4, x5, rfl, e2, e3, hwl, hzl, hws, hzs, dk3, X3⟩
    exact ⟨_, rfl, q p3 zs H3 (by omega) hzs (dk3.up (by omega)) X3 hp3H e3⟩
/-! ### the world -/
def prD (p : Str × Nat) : PyData := .tuple [.str p.1, .int (p.2 : Int)]
theorem nlPr (l : List (Str × Nat)) : noLAll (l.map prD) = true := noLAll_map fun _ _ => rfl
def wdKV (ca ce ar : Addr) (h : Str) : List (Key × V) := [(Sum.inr "calls", .ref ca), (Sum.inr "cells", .ref ce), (Sum.inr "holder", .str h), (Sum.inr "arrays", .ref ar)]
structure Wd (K : PySem.W.Frag) (H : Hp) (wd : Addr) : Prop where
  ex : ∃ (ca ce ar : Addr) (h : Str) (cs as : List (Str × Nat)) (cvs avs : List V) (es : List Str), H wd = some (.dK (wdKV ca ce ar h)) ∧ H ca = some (.lst cvs) ∧ DpAll K H cvs (cs.map prD) ∧
    H ce = some (.lst (es.map V.str)) ∧ H ar = some (.lst avs) ∧ DpAll K H avs (as.map prD) ∧ cs.length = 4 ∧ (∀ p ∈ cs, Nm p.1 ∧ p.2 ≤ 2) ∧ es.length = 2 ∧ (∀ z ∈ es, Nm z) ∧ as.length = 2 ∧ (∀ p ∈ as, Nm p.1) ∧ Nm h
theorem Wd.mono {K : PySem.W.Frag} {H H' : Hp} {wd : Addr} (h : Wd K H wd) (s : Same H H') : Wd K H' wd := by
  obtain ⟨ca, ce, ar, hh, cs, as, cvs, avs, es, h1, h2, h3, h4, h5, h6, r⟩ := h.ex
  exact ⟨ca, ce, ar, hh, cs, as, cvs, avs, es, s _ _ h1, s _ _ h2, dpAll_mono s _ _ h3, s _ _ h4, s _ _ h5, dpAll_mono s _ _ h6, r⟩
def spWorld (K : PySem.W.Frag) : Sp := fun vs H Q _ => ∃ (d c : Addr) (n : Nat), vs = [.ref d] ∧ n < 2 ^ 49 ∧ Deck d c n H ∧
  ∀ (wd : Addr) (H' : Hp), Deck d c (n + 30) H' → Ext d c H H' → Wd K (off d c H') wd → Q (.ref wd) H'
theorem list9 {zs : List Str} (h : zs.length = 9) : ∃ a b c d e f g i j, zs = [a, b, c, d, e, f, g, i, j] := by
  match zs, h with
  | [a, b, c, d, e, f, g, i, j], _ => exact ⟨a, b, c, d, e, f, g, i, j, rfl⟩
set_option pp.maxSteps 600 in
theorem c_world (T : Txt w K mg) : Cal P w K mg base "_law_world" 3 ["_law_deck_here"] (spWorld K) := by
  obtain ⟨fd, F⟩ := T.d__law_world
  have C__law_draw := c_draw (P := P) (base := base) T
  have C__law_names := c_names (P := P) (base := base) T
  refine ⟨⟨fd, F.ok sc__law_world (fun vs H Q E h => ?_) (fun cdv A outer s H vs Q E hr h => ?_), F.bindsN fun _ _ _ _ _ _ us hl => match us, hl with | [_], _ => rfl⟩, T.g _ (by decide), F.kp⟩
  · obtain ⟨d, c, n, rfl, _⟩ := h
    rfl
  obtain ⟨d, c, n, rfl, hn, dk, q⟩ := h
  refine ⟨_, PSs.nox (pss_cons (ps_set (i := 1) sc__law_world.nd rfl (.inl rfl) (pe_cal C__law_names (hr.mono (by omega)) (by rfl) (pa_cons (pv 0) (pa_cons pe_int pa_nil))))
      (pss_cons (ps_set (i := 2) sc__law_world.nd rfl (.inl rfl) (pe_lst (pa_cons (pe_tup (pa_cons (pe_ix (ix_listK (K := K) rfl) (pv 1) pe_int (fun _ _ => rfl)) (pa_cons pe_int pa_nil))) (pa_cons (pe_tup (pa_cons (pe_ix (ix_listK (K := K) rfl) (pv 1) pe_int (fun _ _ => rfl)) (pa_cons pe_int pa_nil))) (pa_cons (pe_tup (pa_cons (pe_ix (ix_listK (K := K) rfl) (pv 1) pe_int (fun _ _ => rfl)) (pa_cons pe_int pa_nil))) (pa_cons (pe_tup (pa_cons (pe_ix (ix_listK (K := K) rfl) (pv 1) pe_int (fun _ _ => rfl)) (pa_cons pe_int pa_nil))) pa_nil))))))
      (pss_cons (ps_set (i := 3) sc__law_world.nd rfl (.inl rfl) (pe_lst (pa_cons (pe_tup (pa_cons (pe_ix (ix_listK (K := K) rfl) (pv 1) pe_int (fun _ _ => rfl)) (pa_cons (pe_op op_add pe_int (pe_cal C__law_draw (hr.mono (by omega)) (by rfl) (pa_cons (pv 0) (pa_cons pe_int pa_nil)))) pa_nil))) (pa_cons (pe_tup (pa_cons (pe_ix (ix_listK (K := K) rfl) (pv 1) pe_int (fun _ _ => rfl)) (pa_cons (pe_op op_add pe_int (pe_cal C__law_draw (hr.mono (by omega)) (by rfl) (pa_cons (pv 0) (pa_cons pe_int pa_nil)))) pa_nil))) pa_nil))))
      (pss_one (ps_ret (pe_disp (pps_cons pe_str (pv 2) (pps_cons pe_str (pe_slice (sl_listK (K := K) rfl) (pv 1) (po_some pe_int) (po_some pe_int)) (pps_cons pe_str (pe_ix (ix_listK (K := K) rfl) (pv 1) pe_int (fun _ _ => rfl)) (pps_cons pe_str (pv 3) pps_nil)))) (by rfl) (by rfl) (fun z => by cases z) (by decide))))))), ?_⟩
  refine ⟨.ref d, rfl, d, c, n, 9, rfl, by decide, by omega, dk, fun a zs H1 hzl hzs dk1 X1 ha0 ha => ?_⟩
  obtain ⟨z0, z1, z2, z3, z4, z5, z6, z7, z8, rfl⟩ := list9 hzl
  have na := dk.has ha0
  have ix : ∀ (H2 : Hp) (j : Nat) (z : Str) (Q2 : VK), H2 a = some (.lst (([z0, z1, z2, z3, z4, z5, z6, z7, z8] : List Str).map V.str)) → (([z0, z1, z2, z3, z4, z5, z6, z7, z8] : List Str).map V.str)[j]? = some (.str z) → Q2 (.str z) H2 → rIxL K (.ref a) (.int (j : Int)) H2 Q2 := fun H2 j z Q2 h1 h2 h3 => ⟨a, _, j, .str z, rfl, rfl, .inl (.inl h1), atI_nat h2, h3⟩
  refine ⟨.ref a, rfl, ix H1 0 z0 _ ha rfl ⟨(by show 2 ≤ sizeLine; decide), fun t1 ht1 => ?_⟩⟩
  have s1 := same_new (o := .tup [.str z0, .int 0]) ht1
  have g1 : Dp K (upd H1 t1 (.tup [.str z0, .int 0])) (.ref t1) (prD (z0, 0)) := dp_tupN ht1 (.cons (.str _) (.cons (.int _) .nil))
  generalize upd H1 t1 (.tup [.str z0, .int 0]) = H2 at s1 g1 ⊢
  refine ⟨.ref a, rfl, ix H2 1 z1 _ (s1 _ _ ha) rfl ⟨(by show 2 ≤ sizeLine; decide), fun t2 ht2 => ?_⟩⟩
  have s2 := same_new (o := .tup [.str z1, .int 1]) ht2
  have g2 : Dp K (upd H2 t2 (.tup [.str z1, .int 1])) (.ref t2) (prD (z1, 1)) := dp_tupN ht2 (.cons (.str _) (.cons (.int _) .nil))
  have S2 := s1.trans s2
  generalize upd H2 t2 (.tup [.str z1, .int 1]) = H3 at s2 S2 g2 ⊢
  refine ⟨.ref a, rfl, ix H3 2 z2 _ (S2 _ _ ha) rfl ⟨(by show 2 ≤ sizeLine; decide), fun t3 ht3 => ?_⟩⟩
  have s3 := same_new (o := .tup [.str z2, .int 1]) ht3
  have g3 : Dp K (upd H3 t3 (.tup [.str z2, .int 1])) (.ref t3) (prD (z2, 1)) := dp_tupN ht3 (.cons (.str _) (.cons (.int _) .nil))
  have S3 := S2.trans s3
  generalize upd H3 t3 (.tup [.str z2, .int 1]) = H4 at s3 S3 g3 ⊢
  refine ⟨.ref a, rfl, ix H4 3 z3 _ (S3 _ _ ha) rfl ⟨(by show 2 ≤ sizeLine; decide), fun t4 ht4 => ?_⟩⟩
  have s4 := same_new (o := .tup [.str z3, .int 2]) ht4
  have g4 : Dp K (upd H4 t4 (.tup [.str z3, .int 2])) (.ref t4) (prD (z3, 2)) := dp_tupN ht4 (.cons (.str _) (.cons (.int _) .nil))
  have S4 := S3.trans s4
  have hcs : DpAll K (upd H4 t4 (.tup [.str z3, .int 2])) [.ref t1, .ref t2, .ref t3, .ref t4] (([(z0, 0), (z1, 1), (z2, 1), (z3, 2)] : List (Str × Nat)).map prD) :=
    .cons (dp_mono (s2.trans (s3.trans s4)) _ _ g1) (.cons (dp_mono (s3.trans s4) _ _ g2) (.cons (dp_mono s4 _ _ g3) (.cons g4 .nil)))
  generalize upd H4 t4 (.tup [.str z3, .int 2]) = H5 at S4 hcs ⊢
  refine ⟨(by show 4 ≤ sizeLine; decide), fun ca hca => ?_⟩
  have s5 := same_new (o := .lst [.ref t1, .ref t2, .ref t3, .ref t4]) hca
  have S5 := S4.trans s5
  have eca : (upd H5 ca (.lst [.ref t1, .ref t2, .ref t3, .ref t4])) ca = some (.lst [.ref t1, .ref t2, .ref t3, .ref t4]) := upd_same
  have hcs := dpAll_mono s5 _ _ hcs
  have dk6 := dk1.same S5
  have nca := (dk1.same S4).has hca
  generalize upd H5 ca (.lst [.ref t1, .ref t2, .ref t3, .ref t4]) = H6 at S5 eca hcs dk6 ⊢
  have X6 : Ext d c H H6 := X1.trans (off_same_mono S5)
  have ha6 := S5 _ _ ha
  -- lengths
  refine ⟨.ref a, rfl, a, _, 7, .str z7, rfl, rfl, .inl (.inl ha6), atI_nat (j := 7) rfl, ?_⟩
  refine ⟨.ref d, rfl, d, c, n + 20, 4, rfl, by decide, by decide, by omega, dk6, fun r7 H7 r70 r71 dk7 X7 => ?_⟩
  obtain ⟨l7, rfl⟩ := Int.eq_ofNat_of_zero_le r70
  refine ⟨_, _, rfl, rfl, (by show 2 ≤ sizeLine; decide), fun t5 ht5 => ?_⟩
  have e7 : (1 : Int) + (l7 : Int) = ((1 + l7 : Nat) : Int) := by omega
  generalize eHH8 : upd H7 t5 _ = H8
  have eHH8 : H8 = upd H7 t5 (.tup [.str z7, .int (1 + (l7 : Int))]) := eHH8.symm
  have s7 : Same H7 H8 := by rw [eHH8]; exact same_new ht5
  have g5 : Dp K H8 (.ref t5) (prD (z7, 1 + l7)) := by
    rw [eHH8]
    unfold prD
    rw [← e7]
    exact dp_tupN ht5 (.cons (.str _) (.cons (.int _) .nil))
  have dk8 := dk7.same s7
  have X8 : Ext d c H6 H8 := X7.trans (off_same_mono s7)
  refine ⟨.ref a, rfl, a, _, 8, .str z8, rfl, rfl, .inl (.inl (X8.at na.1 na.2 ha6)), atI_nat (j := 8) rfl, ?_⟩
  refine ⟨.ref d, rfl, d, c, n + 20 + 1, 4, rfl, by decide, by decide, by omega, dk8, fun r9 H9 r90 r91 dk9 X9 => ?_⟩
  obtain ⟨l9, rfl⟩ := Int.eq_ofNat_of_zero_le r90
  refine ⟨_, _, rfl, rfl, (by show 2 ≤ sizeLine; decide), fun t6 ht6 => ?_⟩
  have e9 : (1 : Int) + (l9 : Int) = ((1 + l9 : Nat) : Int) := by omega
  generalize eHH10 : upd H9 t6 _ = H10
  have eHH10 : H10 = upd H9 t6 (.tup [.str z8, .int (1 + (l9 : Int))]) := eHH10.symm
  have s9 : Same H9 H10 := by rw [eHH10]; exact same_new ht6
  have g6 : Dp K H10 (.ref t6) (prD (z8, 1 + l9)) := by
    rw [eHH10]
    unfold prD
    rw [← e9]
    exact dp_tupN ht6 (.cons (.str _) (.cons (.int _) .nil))
  have dk10 := dk9.same s9
  have X810 : Ext d c H8 H10 := X9.trans (off_same_mono s9)
  have has : DpAll K H10 [.ref t5, .ref t6] (([(z7, 1 + l7), (z8, 1 + l9)] : List (Str × Nat)).map prD) := .cons (dp_kt (ext_kt dk8 X810) _ _ rfl g5) (.cons g6 .nil)
  refine ⟨(by show 2 ≤ sizeLine; decide), fun ar har => ?_⟩
  have s11 := same_new (o := .lst [.ref t5, .ref t6]) har
  have nar := dk10.has har
  have dk11 := dk10.same s11
  have ear : (upd H10 ar (.lst [.ref t5, .ref t6])) ar = some (.lst [.ref t5, .ref t6]) := upd_same
  have has := dpAll_mono s11 _ _ has
  have X11 : Ext d c H6 (upd H10 ar (.lst [.ref t5, .ref t6])) := (X8.trans X810).trans (off_same_mono s11)
  generalize upd H10 ar (.lst [.ref t5, .ref t6]) = H11 at dk11 ear has X11 ⊢
  have ha11 := X11.at na.1 na.2 ha6
  have eca11 := X11.at nca.1 nca.2 eca
  have hcs11 := dpAll_kt (ext_kt dk6 X11) _ _ (nlPr _) hcs
  -- the dict
  intro wd hwd
  have s12 := same_new (o := .dK []) hwd
  have nwd := dk11.has hwd
  have dk12 := dk11.same s12
  have ewd : (upd H11 wd (.dK [])) wd = some (.dK []) := upd_same
  generalize eH12 : upd H11 wd (.dK []) = H12 at s12 dk12 ewd ⊢
  refine ⟨.ref ca, rfl, .ref a, rfl, 4, rfl, 6, rfl, a, _, rfl, .inl (.inl (s12 _ _ ha11)), fun ce hce => ?_⟩
  have ecut : cutV (([z0, z1, z2, z3, z4, z5, z6, z7, z8] : List Str).map V.str) (some 4) (some 6) = ([z4, z5] : List Str).map V.str := rfl
  generalize eH13 : upd H12 ce _ = H13
  have eH13 : H13 = upd H12 ce (.lst (([z4, z5] : List Str).map V.str)) := eH13.symm
  have s13 : Same H12 H13 := by rw [eH13]; exact same_new hce
  have ece : H13 ce = some (.lst (([z4, z5] : List Str).map V.str)) := by rw [eH13]; exact upd_same
  have nce := dk12.has hce
  have ncw : ce ≠ wd := fun z => by rw [z, ewd] at hce; cases hce
  have s1113 := s12.trans s13
  have dk13 := dk12.same s13
  refine ⟨.ref a, rfl, a, _, 6, .str z6, rfl, rfl, .inl (.inl (s1113 _ _ ha11)), atI_nat (j := 6) rfl, .ref ar, rfl, s13 _ _ ewd, wdKV ca ce ar z6, rfl, (by show 4 ≤ 15; decide), ?_⟩
  generalize eH14 : upd H13 wd _ = H14
  have em : mergeK [] (wdKV ca ce ar z6) = wdKV ca ce ar z6 := rfl
  rw [em] at eH14
  have nH11 : ∀ b o, H11 b = some o → b ≠ wd := fun b o e => ne_of_none e hwd
  have s14 : Same H11 H14 := fun b o e => by
    rw [← eH14, upd_ne (nH11 b o e)]
    exact s1113 _ _ e
  have e14 : H14 wd = some (.dK (wdKV ca ce ar z6)) := by rw [← eH14]; exact upd_same
  have ece14 : H14 ce = some (.lst (([z4, z5] : List Str).map V.str)) := by rw [← eH14, upd_ne ncw]; exact ece
  have dk14 := dk11.same s14
  have k14 := off_kt dk14
  have nm := fun z hz => hzs z hz
  refine q wd H14 (dk14.up (by omega)) ((X6.trans X11).trans (off_same_mono s14)) ⟨ca, ce, ar, z6, [(z0, 0), (z1, 1), (z2, 1), (z3, 2)], [(z7, 1 + l7), (z8, 1 + l9)], _, _, [z4, z5], ?_, ?_, dpAll_kt k14 _ _ (nlPr _) (dpAll_mono s14 _ _ hcs11), ?_, ?_, dpAll_kt k14 _ _ (nlPr _) (dpAll_mono s14 _ _ has), rfl, ?_, rfl, ?_, rfl, ?_, ?_⟩
  · rw [off_get nwd.1 nwd.2]; exact e14
  · rw [off_get nca.1 nca.2]; exact s14 _ _ eca11
  · rw [off_get nce.1 nce.2]; exact ece14
  · rw [off_get nar.1 nar.2]; exact s14 _ _ ear
  · intro p hp
    simp only [List.mem_cons, List.not_mem_nil, or_false] at hp
    rcases hp with rfl | rfl | rfl | rfl
    · exact ⟨nm _ (by simp), Nat.le_of_ble_eq_true rfl⟩
    · exact ⟨nm _ (by simp), Nat.le_of_ble_eq_true rfl⟩
    · exact ⟨nm _ (by simp), Nat.le_of_ble_eq_true rfl⟩
    · exact ⟨nm _ (by simp), Nat.le_of_ble_eq_true rfl⟩
  · intro z hz
    simp only [List.mem_cons, List.not_mem_nil, or_false] at hz
    rcases hz with rfl | rfl
    · exact nm _ (by simp)
    · exact nm _ (by simp)
  · intro p hp
    simp only [List.mem_cons, List.not_mem_nil, or_false] at hp
    rcases hp with rfl | rfl
    · exact nm _ (by simp)
    · exact nm _ (by simp)
  · exact nm _ (by simp)
/-! ### words and operands -/
def spWord (K : PySem.W.Frag) : Sp := fun vs H Q _ => ∃ (d c : Addr) (n : Nat), vs = [.ref d] ∧ n < 2 ^ 50 ∧ Deck d c n H ∧ ∀ (i : Int) (H' : Hp), 0 ≤ i → i < 65536 → Deck d c (n + 1) H' → Ext d c H H' → Q (.int i) H'
abbrev wordsI : List Int := [0, 1, 2, 3, 5, 65535, 256, 0]
theorem wordsI_ok : ∀ i ∈ wordsI, 0 ≤ i ∧ i < 65536 := by decide
set_option pp.maxSteps 600 in
theorem c_word (T : Txt w K mg) : Cal P w K mg base "_law_word" 2 ["_law_deck_here"] (spWord K) := by
  obtain ⟨fd, F⟩ := T.d__law_word
  have C__law_draw := c_draw (P := P) (base := base) T
  refine ⟨⟨fd, F.ok sc__law_word (fun vs H Q E h => ?_) (fun cdv A outer s H vs Q E hr h => ?_), F.bindsN fun _ _ _ _ _ _ us hl => match us, hl with | [_], _ => rfl⟩, T.g _ (by decide), F.kp⟩
  · obtain ⟨d, c, n, rfl, _⟩ := h
    rfl
  obtain ⟨d, c, n, rfl, hn, dk, q⟩ := h
  refine ⟨_, PSs.nox (pss_one (ps_ret (pe_ix (ix_listK (K := K) rfl) (pe_lst (pa_cons pe_int (pa_cons pe_int (pa_cons pe_int (pa_cons pe_int (pa_cons pe_int (pa_cons pe_int (pa_cons pe_int (pa_cons pe_int pa_nil))))))))) (pe_cal C__law_draw (hr.mono (by omega)) (by rfl) (pa_cons (pv 0) (pa_cons pe_int pa_nil))) (fun _ _ => rfl)))), ?_⟩
  refine ⟨(by show 8 ≤ sizeLine; decide), fun p hp => ?_⟩
  have np := dk.has hp
  have ep : (upd H p (.lst (wordsI.map V.int))) p = some (.lst (wordsI.map V.int)) := upd_same
  refine ⟨.ref d, rfl, d, c, n, 8, rfl, by decide, by decide, by omega, dk.new hp, fun r H1 r0 r1 dk1 X1 => ?_⟩
  obtain ⟨j, rfl⟩ := Int.eq_ofNat_of_zero_le r0
  have hj : j < wordsI.length := by
    show j < 8
    omega
  have hg : (wordsI.map V.int)[j]? = some (.int wordsI[j]) := by rw [List.getElem?_map, List.getElem?_eq_getElem hj]; rfl
  have ok := wordsI_ok _ (List.getElem_mem hj)
  exact ⟨p, _, j, _, rfl, rfl, .inl (.inl (X1.at np.1 np.2 ep)), atI_nat hg, q _ _ ok.1 ok.2 dk1 ((Ext.new hp).trans X1)⟩
structure Kt (H : Hp) (kt : Addr) (cnt M f : Nat) : Prop where
  ex : ∃ wa fa : Addr, H kt = some (.dK [(Sum.inr "count", .int (cnt : Int)), (Sum.inr "words", .ref wa), (Sum.inr "funcs", .ref fa)]) ∧ H wa = some (.lst ((List.range M).map fun i => V.int ((i : Nat) : Int))) ∧ H fa = some (.lst ((List.range f).map fun i => V.int ((M + i : Nat) : Int)))
  lt : cnt < M
  c3 : cnt ≤ 3
  M8 : M ≤ 8
  f1 : 0 < f
  f2 : f ≤ 2
theorem Kt.mono {H H' : Hp} {kt : Addr} {cnt M f : Nat} (h : Kt H kt cnt M f) (s : Same H H') : Kt H' kt cnt M f := by
  obtain ⟨wa, fa, h1, h2, h3⟩ := h.ex
  exact ⟨⟨wa, fa, s _ _ h1, s _ _ h2, s _ _ h3⟩, h.lt, h.c3, h.M8, h.f1, h.f2⟩
theorem range_get {M j : Nat} {y : V} (h : ((List.range M).map fun i => V.int ((i : Nat) : Int))[j]? = some y) : j < M ∧ y = .int ((j : Nat) : Int) := by
  rw [List.getElem?_map] at h
  obtain ⟨i, hi, rfl⟩ := Option.map_eq_some_iff.mp h
  have hj : j < M := by
    have := (List.getElem?_eq_some_iff.mp hi).1
    simpa using this
  rw [List.getElem?_range hj] at hi
  cases hi
  exact ⟨hj, rfl⟩
theorem rangeF_get {M f j : Nat} {y : V} (h : ((List.range f).map fun i => V.int ((M + i : Nat) : Int))[j]? = some y) : j < f ∧ y = .int ((M + j : Nat) : Int) := by
  rw [List.getElem?_map] at h
  obtain ⟨i, hi, rfl⟩ := Option.map_eq_some_iff.mp h
  have hj : j < f := by
    have := (List.getElem?_eq_some_iff.mp hi).1
    simpa using this
  rw [List.getElem?_range hj] at hi
  cases hi
  exact ⟨hj, rfl⟩
def spOperand (K : PySem.W.Frag) : Sp := fun vs H Q _ => ∃ (d c kt : Addr) (n cnt M f : Nat), vs = [.ref d, .ref kt] ∧ n < 2 ^ 49 ∧ Deck d c n H ∧ Kt (off d c H) kt cnt M f ∧ ∀ (v : V) (a : Opd) (H' : Hp), Deck d c (n + 3) H' → Ext d c H H' → Dp K H' v (oD a) → OpdOk M a → Q v H'
set_option pp.maxSteps 600 in
theorem c_operand (T : Txt w K mg) : Cal P w K mg base "_law_operand" 3 ["_law_deck_here", "_law_kit"] (spOperand K) := by
  obtain ⟨fd, F⟩ := T.d__law_operand
  have C__law_draw := c_draw (P := P) (base := base) T
  have C__law_word := c_word (P := P) (base := base) T
  have C__law_pick := c_pick (P := P) (base := base) T
  refine ⟨⟨fd, F.ok sc__law_operand (fun vs H Q E h => ?_) (fun cdv A outer s H vs Q E hr h => ?_), F.bindsN fun _ _ _ _ _ _ us hl => match us, hl with | [_, _], _ => rfl⟩, T.g _ (by decide), F.kp⟩
  · obtain ⟨d, c, kt, n, cnt, M, f, rfl, _⟩ := h
    rfl
  obtain ⟨d, c, kt, n, cnt, M, f, rfl, hn, dk, hk, q⟩ := h
  have hu := hu_of hr
  refine ⟨_, PSs.nox (pss_one (ps_ret (pe_ifExp (pt_cmpR op_eq (pe_cal C__law_draw (hr.mono (by omega)) (by rfl) (pa_cons (pv 0) (pa_cons pe_int pa_nil))) pe_int (nomark _)) (pe_cal C__law_word (hr.mono (by omega)) (by rfl) (pa_cons (pv 0) pa_nil)) (pe_tup (pa_cons pe_str (pa_cons (pe_cal C__law_pick (hr.mono (by omega)) (by rfl) (pa_cons (pv 0) (pa_cons (pe_dget hu (pv 1) pe_str (fun _ _ => rfl)) pa_nil))) pa_nil)))))), ?_⟩
  refine ⟨.ref d, rfl, d, c, n, 3, rfl, by decide, by decide, by omega, dk, fun r H1 r0 r1 dk1 X1 => ⟨rfl, _, rfl, ?_⟩⟩
  have hk1 := hk.mono X1
  cases hb : decide (V.int r = V.int 0) with
  | true => exact iteT ⟨.ref d, rfl, d, c, n + 1, rfl, by omega, dk1, fun i H2 i0 i1 dk2 X2 => q _ (.w i) _ (dk2.up (by omega)) (X1.trans X2) (.int i) ⟨i0, i1⟩⟩
  | false =>
    obtain ⟨wa, fa, e1, e2, e3⟩ := hk1.ex
    have hM := hk.lt
    have hM8 := hk.M8
    refine iteF ⟨.ref d, rfl, .ref kt, rfl, kt, _, rfl, DGet.k (k := Sum.inr "words") (off_at e1).1, d, c, wa, n + 1, _, rfl, dk1, by omega, .inl (.inl e2), ?_, ?_, fun j y H2 hy dk2 X2 => ⟨(by show 2 ≤ sizeLine; decide), fun p hp => ?_⟩⟩
    · rw [List.length_map, List.length_range]; omega
    · rw [List.length_map, List.length_range]; omega
    obtain ⟨hj, rfl⟩ := range_get hy
    exact q _ (.v j) _ ((dk2.new hp).up (by omega)) ((X1.trans X2).trans (Ext.new hp)) (dp_tupN hp (.cons (.str _) (.cons (.int _) .nil))) hj
end
end K51

set_option maxHeartbeats 4000000
namespace K51
open PySem PySem.Spec PyProof.Rows L2 HG P52
def ovV : Option Nat → V
  | none => .non
  | some n => .int (n : Int)
abbrev settersV : List V := [.str "const", .str "copy", .str "op", .str "load", .str "read", .str "call", .str "apply"]
theorem set_no {R : Rw} (h : inV (.str R.word) settersV = false) : R.set = none := by cases R <;> first | rfl | (dsimp only [Rw.word] at h; exact absurd h (by decide +kernel))
theorem set_yes {R : Rw} (h : inV (.str R.word) settersV = true) : ∃ r, R.rest = ovD R.set :: r := by cases R <;> first | exact ⟨_, rfl⟩ | (dsimp only [Rw.word] at h; exact absurd h (by decide +kernel))
theorem dp_ov {K : PySem.W.Frag} {H : Hp} {z : V} {o : Option Nat} (h : Dp K H z (ovD o)) : z = ovV o := by
  cases o <;> (cases h; rfl)
theorem ov_dp {K : PySem.W.Frag} {H : Hp} (o : Option Nat) : Dp K H (ovV o) (ovD o) := by
  cases o
  · exact .non
  · exact .int _
def spSetBy (K : PySem.W.Frag) : Sp := fun vs H Q _ => ∃ (v : V) (R : Rw), vs = [v] ∧ Dp K H v R.D ∧ Q (ovV R.set) H
section
variable {P : Program} {w : World} {K : PySem.W.Frag} {mg : Str → Option Value} {base : Heap}
set_option pp.maxSteps 600 in
theorem c_set_by (T : Txt w K mg) : Cal P w K mg base "set_by" 1 ["instruction"] (spSetBy K) := by
  obtain ⟨fd, F⟩ := T.d_set_by
  refine ⟨⟨fd, F.ok sc_set_by (fun vs H Q E h => ?_) (fun cdv A outer s H vs Q E hr h => ?_), F.bindsN fun _ _ _ _ _ _ us hl => match us, hl with | [_], _ => rfl⟩, T.g _ (by decide), F.kp⟩
  · obtain ⟨v, R, rfl, _⟩ := h
    rfl
  obtain ⟨v, R, rfl, hv, q⟩ := h
  refine ⟨_, PSs.nox (pss_one (ps_ret (pe_ifExp (pt_cmpR (op_in_seqK (K := K) rfl) (pe_ix (ix_P (K := K) rfl) (pv 0) pe_int (fun _ _ => rfl)) (pe_glob (v := .ref _) (by rfl) (T.g "SETTERS" (by decide)) rfl) (by rfl)) (pe_ix (ix_P (K := K) rfl) (pv 0) pe_int (fun _ _ => rfl)) pe_non))), ?_⟩
  refine ⟨v, rfl, _, 0, _, hv, rfl, rfl, fun z hz => ?_⟩
  cases hz
  refine ⟨_, _, rfl, .inr (T.u_SETTERS _), rfl, rfl, _, rfl, ?_⟩
  show if inV (.str R.word) settersV = true then _ else _
  cases hb : inV (.str R.word) settersV with
  | true =>
    obtain ⟨r, hr1⟩ := set_yes hb
    refine iteT ⟨v, rfl, _, 1, ovD R.set, hv, rfl, (by show R.rest[0]? = _; rw [hr1]; rfl), fun z hz => ?_⟩
    rw [dp_ov hz]
    exact q
  | false =>
    rw [set_no hb] at q
    exact iteF q
/-! ### operands_of -/
def eqw (x y : Str) : Bool := decide (V.str x = V.str y)
abbrev in2 (x y z : Str) : Bool := inV (.str x) [.str y, .str z]
theorem ops1 {R : Rw} (h : in2 R.word "const" "load" = true) : R.ops = [] := by cases R <;> first | rfl | (dsimp only [Rw.word] at h; exact absurd h (by decide +kernel))
theorem ops2 {R : Rw} (h : eqw R.word "copy" = true) : ∃ v u, R = .cp v u := by cases R <;> first | exact ⟨_, _, rfl⟩ | (dsimp only [Rw.word] at h; exact absurd h (by decide +kernel))
theorem ops3 {R : Rw} (h : eqw R.word "apply" = true) : ∃ v f as, R = .ap v f as := by cases R <;> first | exact ⟨_, _, _, rfl⟩ | (dsimp only [Rw.word] at h; exact absurd h (by decide +kernel))
theorem ops4 {R : Rw} (h : eqw R.word "call" = true) : ∃ v x as, R = .ca v x as := by cases R <;> first | exact ⟨_, _, _, rfl⟩ | (dsimp only [Rw.word] at h; exact absurd h (by decide +kernel))
theorem ops5 {R : Rw} (h : in2 R.word "op" "read" = true) : R.L.drop 3 = R.ops.map oD := by cases R <;> first | rfl | (dsimp only [Rw.word] at h; exact absurd h (by decide +kernel))
theorem ops6 {R : Rw} (h : eqw R.word "print" = true) : R.L.drop 1 = R.ops.map oD := by cases R <;> first | rfl | (dsimp only [Rw.word] at h; exact absurd h (by decide +kernel))
theorem ops7 {R : Rw} (h1 : in2 R.word "const" "load" = false) (h2 : eqw R.word "copy" = false) (h3 : eqw R.word "apply" = false) (h4 : eqw R.word "call" = false) (h5 : in2 R.word "op" "read" = false)
    (h6 : eqw R.word "print" = false) : R.L.drop 2 = R.ops.map oD := by
  cases R <;> first | rfl | (dsimp only [Rw.word] at h1; exact absurd h1 (by decide +kernel)) | (dsimp only [Rw.word] at h2; exact absurd h2 (by decide +kernel)) | (dsimp only [Rw.word] at h3; exact absurd h3 (by decide +kernel)) | (dsimp only [Rw.word] at h4; exact absurd h4 (by decide +kernel)) | (dsimp only [Rw.word] at h5; exact absurd h5 (by decide +kernel)) | (dsimp only [Rw.word] at h6; exact absurd h6 (by decide +kernel))
def spOps (K : PySem.W.Frag) : Sp := fun vs H Q _ => ∃ (v : V) (R : Rw), vs = [v] ∧ Dp K H v R.D ∧ R.ops.length ≤ 1000 ∧ ∀ z H', Same H H' → Dp K H' z (.tuple (R.ops.map oD)) → Q z H'
theorem sl1000 {n m : Nat} (h : n ≤ 1000) (h2 : m ≤ 100000) : m + n ≤ sizeLine := by rw [sizeLine_eq]; omega
set_option pp.maxSteps 600 in
theorem c_operands_of (T : Txt w K mg) : Cal P w K mg base "operands_of" 1 ["instruction"] (spOps K) := by
  obtain ⟨fd, F⟩ := T.d_operands_of
  refine ⟨⟨fd, F.ok sc_operands_of (fun vs H Q E h => ?_) (fun cdv A outer s H vs Q E hr h => ?_), F.bindsN fun _ _ _ _ _ _ us hl => match us, hl with | [_], _ => rfl⟩, T.g _ (by decide), F.kp⟩
  · obtain ⟨v, R, rfl, _⟩ := h
    rfl
  obtain ⟨v, R, rfl, hv, hl, q⟩ := h
  refine ⟨_, PSs.nox (pss_cons (ps_set (i := 1) sc_operands_of.nd rfl (.inl rfl) (pe_ix (ix_P (K := K) rfl) (pv 0) pe_int (fun _ _ => rfl)))
      (pss_cons (ps_if (pt_cmpR (op_in_seqK (K := K) rfl) (pv 1) (pe_tup (pa_cons pe_str (pa_cons pe_str pa_nil))) (by rfl)) (pss_one (ps_ret (pe_tup pa_nil))) pss_nil)
      (pss_cons (ps_if (pt_cmpR op_eq (pv 1) pe_str (nomark _)) (pss_one (ps_ret (pe_tup (pa_cons (pe_tup (pa_cons pe_str (pa_cons (pe_ix (ix_P (K := K) rfl) (pv 0) pe_int (fun _ _ => rfl)) pa_nil))) pa_nil)))) pss_nil)
      (pss_cons (ps_if (pt_cmpR op_eq (pv 1) pe_str (nomark _)) (pss_one (ps_ret (pe_op (op_catP (K := K) rfl) (pe_tup (pa_cons (pe_tup (pa_cons pe_str (pa_cons (pe_ix (ix_P (K := K) rfl) (pv 0) pe_int (fun _ _ => rfl)) pa_nil))) pa_nil)) (pe_ix (ix_P (K := K) rfl) (pv 0) pe_int (fun _ _ => rfl))))) pss_nil)
      (pss_cons (ps_if (pt_cmpR op_eq (pv 1) pe_str (nomark _)) (pss_one (ps_ret (pe_ix (ix_P (K := K) rfl) (pv 0) pe_int (fun _ _ => rfl)))) pss_nil)
      (pss_cons (ps_if (pt_cmpR (op_in_seqK (K := K) rfl) (pv 1) (pe_tup (pa_cons pe_str (pa_cons pe_str pa_nil))) (by rfl)) (pss_one (ps_ret (pe_slice (sl_P (K := K) rfl) (pv 0) (po_some pe_int) po_none))) pss_nil)
      (pss_cons (ps_if (pt_cmpR op_eq (pv 1) pe_str (nomark _)) (pss_one (ps_ret (pe_slice (sl_P (K := K) rfl) (pv 0) (po_some pe_int) po_none))) pss_nil)
      (pss_one (ps_ret (pe_slice (sl_P (K := K) rfl) (pv 0) (po_some pe_int) po_none)))))))))), ?_⟩
  refine ⟨v, rfl, _, 0, _, hv, rfl, rfl, fun z hz => ?_⟩
  cases hz
  refine ⟨_, rfl, (by show 2 ≤ sizeLine; decide), fun p1 hp1 => ⟨_, _, rfl, .inr (.inl (.inl upd_same)), rfl, rfl, _, rfl, ?_⟩⟩
  have s1 := same_new (o := .tup [.str "const", .str "load"]) hp1
  generalize upd H p1 (.tup [.str "const", .str "load"]) = H1 at s1 ⊢
  show if in2 R.word "const" "load" = true then _ else _
  cases h1 : in2 R.word "const" "load" with
  | true =>
    refine iteT ⟨(by show 0 ≤ sizeLine; decide), fun p hp => q _ _ (s1.trans (same_new hp)) ?_⟩
    rw [ops1 h1]
    exact dp_tupN hp .nil
  | false =>
    have hv1 := dp_mono s1 _ _ hv
    refine iteF ⟨_, rfl, rfl, _, rfl, ?_⟩
    show if eqw R.word "copy" = true then _ else _
    cases h2 : eqw R.word "copy" with
    | true =>
      obtain ⟨a, b, rfl⟩ := ops2 h2
      refine iteT ⟨v, rfl, _, 2, _, hv1, rfl, rfl, fun z hz => ⟨(by show 2 ≤ sizeLine; decide), fun p hp => ⟨(by show 1 ≤ sizeLine; decide), fun p2 hp2 => q _ _ (s1.trans ((same_new hp).trans (same_new hp2))) ?_⟩⟩⟩
      exact dp_tupN hp2 (.cons (dp_tupN hp (.cons (.str _) (.cons hz .nil))) .nil)
    | false =>
      refine iteF ⟨_, rfl, rfl, _, rfl, ?_⟩
      show if eqw R.word "apply" = true then _ else _
      cases h3 : eqw R.word "apply" with
      | true =>
        obtain ⟨a, f, as, rfl⟩ := ops3 h3
        refine iteT ⟨v, rfl, _, 2, _, hv1, rfl, rfl, fun z hz => ⟨(by show 2 ≤ sizeLine; decide), fun p hp => ⟨(by show 1 ≤ sizeLine; decide), fun p2 hp2 => ?_⟩⟩⟩
        have s2 := (same_new (o := .tup [.str "var", z]) hp).trans (same_new (o := .tup [.ref p]) hp2)
        have h12 : Dp K (upd (upd H1 p (.tup [.str "var", z])) p2 (.tup [.ref p])) (.ref p2) (.tuple [vD f]) := dp_tupN hp2 (.cons (dp_tupN hp (.cons (.str _) (.cons hz .nil))) .nil)
        refine ⟨v, rfl, _, 3, _, dp_mono s2 _ _ hv1, rfl, rfl, fun z3 hz3 => ⟨[vD f], as.map oD, h12, hz3, ?_, fun z4 H4 s4 h4 => q _ _ (s1.trans (s2.trans s4)) h4⟩⟩
        have hl : as.length + 1 ≤ 1000 := hl
        rw [List.length_map]
        exact sl1000 (n := as.length) (m := 1) (by omega) (by decide)
      | false =>
        refine iteF ⟨_, rfl, rfl, _, rfl, ?_⟩
        show if eqw R.word "call" = true then _ else _
        cases h4 : eqw R.word "call" with
        | true =>
          obtain ⟨a, x, as, rfl⟩ := ops4 h4
          exact iteT ⟨v, rfl, _, 3, _, hv1, rfl, rfl, fun z hz => q _ _ s1 hz⟩
        | false =>
          refine iteF ⟨_, rfl, (by show 2 ≤ sizeLine; decide), fun p1 hp1 => ⟨_, _, rfl, .inr (.inl (.inl upd_same)), rfl, rfl, _, rfl, ?_⟩⟩
          have s2 := s1.trans (same_new (o := .tup [.str "op", .str "read"]) hp1)
          generalize upd H1 p1 (.tup [.str "op", .str "read"]) = H2 at s2 ⊢
          have hv2 := dp_mono s2 _ _ hv
          show if in2 R.word "op" "read" = true then _ else _
          cases h5 : in2 R.word "op" "read" with
          | true =>
            refine iteT ⟨v, rfl, 3, rfl, _, hv2, fun z H3 s3 h3 => q _ _ (s2.trans s3) ?_⟩
            rw [show (some (3 : Int)) = some ((3 : Nat) : Int) from rfl, cutP_from, ops5 h5] at h3
            exact h3
          | false =>
            refine iteF ⟨_, rfl, rfl, _, rfl, ?_⟩
            show if eqw R.word "print" = true then _ else _
            cases h6 : eqw R.word "print" with
            | true =>
              refine iteT ⟨v, rfl, 1, rfl, _, hv2, fun z H3 s3 h3 => q _ _ (s2.trans s3) ?_⟩
              rw [show (some (1 : Int)) = some ((1 : Nat) : Int) from rfl, cutP_from, ops6 h6] at h3
              exact h3
            | false =>
              refine iteF ⟨v, rfl, 2, rfl, _, hv2, fun z H3 s3 h3' => q _ _ (s2.trans s3) ?_⟩
              rw [show (some (2 : Int)) = some ((2 : Nat) : Int) from rfl, cutP_from, ops7 h1 h2 h3 h4 h5 h6] at h3'
              exact h3'
/-! ### operand_in_slots, with_set -/
theorem sv_get {S : List PyData} {n : Nat} (h : n < S.length) : S[n]? = some (sv S n) := by
  unfold sv
  rw [List.getD_eq_getElem?_getD, List.getElem?_eq_getElem h]
  rfl
theorem stp1 {E : Stp} (h : eqw E.word "branch" = true) : ∃ a n m, E = .br a n m := by cases E <;> first | exact ⟨_, _, _, rfl⟩ | (dsimp only [Stp.word] at h; exact absurd h (by decide +kernel))
theorem stp2 {E : Stp} (h : eqw E.word "return" = true) : ∃ a, E = .rt a := by cases E <;> first | exact ⟨_, rfl⟩ | (dsimp only [Stp.word] at h; exact absurd h (by decide +kernel))
theorem stp3 {E : Stp} (h1 : eqw E.word "branch" = false) (h2 : eqw E.word "return" = false) : E.ops = [] := by
  cases E <;> first | rfl | (dsimp only [Stp.word] at h1; exact absurd h1 (by decide +kernel)) | (dsimp only [Stp.word] at h2; exact absurd h2 (by decide +kernel))
def spOpsE (K : PySem.W.Frag) : Sp := fun vs H Q _ => ∃ (v : V) (E : Stp), vs = [v] ∧ Dp K H v E.D ∧ ∀ z H', Same H H' → Dp K H' z (.tuple (E.ops.map oD)) → Q z H'
set_option pp.maxSteps 600 in
theorem c_operands_of_end (T : Txt w K mg) : Cal P w K mg base "operands_of_end" 1 ["terminator"] (spOpsE K) := by
  obtain ⟨fd, F⟩ := T.d_operands_of_end
  refine ⟨⟨fd, F.ok sc_operands_of_end (fun vs H Q E h => ?_) (fun cdv A outer s H vs Q E hr h => ?_), F.bindsN fun _ _ _ _ _ _ us hl => match us, hl with | [_], _ => rfl⟩, T.g _ (by decide), F.kp⟩
  · obtain ⟨v, E, rfl, _⟩ := h
    rfl
  obtain ⟨v, E1, rfl, hv, q⟩ := h
  refine ⟨_, PSs.nox (pss_cons (ps_if (PW.pt (pw_or (pt_cmpR op_eq (pe_ix (ix_P (K := K) rfl) (pv 0) pe_int (fun _ _ => rfl)) pe_str (nomark _)) (pw_or1 (PW.pt (pw_and (pt_cmpR op_eq (pe_ix (ix_P (K := K) rfl) (pv 0) pe_int (fun _ _ => rfl)) pe_str (nomark _)) (pw_and1 (pt_cmpR op_notN (pe_ix (ix_P (K := K) rfl) (pv 0) pe_int (fun _ _ => rfl)) pe_non (nomark _)))))))) (pss_one (ps_ret (pe_tup (pa_cons (pe_ix (ix_P (K := K) rfl) (pv 0) pe_int (fun _ _ => rfl)) pa_nil)))) pss_nil)
      (pss_one (ps_ret (pe_tup pa_nil)))), ?_⟩
  have nil : ∀ (H1 : Hp), Same H H1 → E1.ops = [] → 0 ≤ sizeLine ∧ ∀ p, H1 p = none → Q (.ref p) (upd H1 p (.tup [])) := fun H1 s1 h => ⟨Nat.zero_le _, fun p hp => q _ _ (s1.trans (same_new hp)) (by rw [h]; exact dp_tupN hp .nil)⟩
  refine ⟨v, rfl, _, 0, _, hv, rfl, rfl, fun z hz => ?_⟩
  cases hz
  refine ⟨rfl, _, rfl, ?_⟩
  show if eqw E1.word "branch" = true then _ else _
  cases h1 : eqw E1.word "branch" with
  | true =>
    obtain ⟨a, n, m, rfl⟩ := stp1 h1
    exact iteT (iteT ⟨v, rfl, _, 1, _, hv, rfl, rfl, fun z hz => ⟨(by show 1 ≤ sizeLine; decide), fun p hp => q _ _ (same_new hp) (dp_tupN hp (.cons hz .nil))⟩⟩)
  | false =>
    refine iteF ⟨v, rfl, _, 0, _, hv, rfl, rfl, fun z hz => ?_⟩
    cases hz
    refine ⟨rfl, _, rfl, ?_⟩
    show if eqw E1.word "return" = true then _ else _
    cases h2 : eqw E1.word "return" with
    | true =>
      obtain ⟨a, rfl⟩ := stp2 h2
      refine iteT ⟨v, rfl, _, 1, _, hv, rfl, rfl, fun z hz => ?_⟩
      refine ⟨rfl, _, rfl, ?_⟩
      cases a with
      | none =>
        cases hz
        exact iteF (nil H (Same.refl _) rfl)
      | some o =>
        cases o with
        | w i =>
          cases hz
          exact iteT ⟨v, rfl, _, 1, _, hv, rfl, rfl, fun z hz => ⟨(by show 1 ≤ sizeLine; decide), fun p hp => q _ _ (same_new hp) (dp_tupN hp (.cons hz .nil))⟩⟩
        | v n =>
          cases hz
          exact iteT ⟨v, rfl, _, 1, _, hv, rfl, rfl, fun z hz => ⟨(by show 1 ≤ sizeLine; decide), fun p hp => q _ _ (same_new hp) (dp_tupN hp (.cons hz .nil))⟩⟩
    | false =>
      refine iteF (iteF (nil H (Same.refl _) ?_))
      exact stp3 h1 h2
end
end K51

set_option maxHeartbeats 4000000
namespace K51
open PySem PySem.Spec PyProof.Rows L2 HG P52
theorem nlO : ∀ a : Opd, noL (oD a) = true
  | .w _ => rfl
  | .v _ => rfl
theorem nlOs (as : List Opd) : noLAll (as.map oD) = true := noLAll_map fun a _ => nlO a
theorem nlOv : ∀ o : Option Nat, noL (ovD o) = true
  | none => rfl
  | some _ => rfl
theorem nlR (R : Rw) : noL R.D = true := by
  cases R <;> simp only [Rw.D, Rw.L, Rw.word, Rw.rest, noL, noLAll, nlO, nlOs, nlOv, Bool.and_self]
theorem nlE (E : Stp) : noL E.D = true := by
  cases E with
  | rt a => cases a <;> simp only [Stp.D, Stp.L, Stp.word, Stp.rest, ooD, noL, noLAll, nlO, Bool.and_self]
  | _ => simp only [Stp.D, Stp.L, Stp.word, Stp.rest, noL, noLAll, nlO, Bool.and_self]
theorem nlRs (l : List Rw) : noLAll (l.map Rw.D) = true := noLAll_map fun a _ => nlR a
theorem nlB (b : Blk) : noL b.D = true := by
  simp only [Blk.D, noL, noLAll, nlRs, Bool.true_and, Bool.and_true]
  have := nlE b.stop
  simpa only [Stp.D, noL, Stp.L, noLAll, Bool.true_and] using this
theorem nlG (g : Gr) : noL g.D = true := by
  have : noLAll (g.blocks.map Blk.D) = true := noLAll_map fun b _ => nlB b
  simp only [Gr.D, noL, noLAll, this, Bool.and_self]
abbrev nD (n : Nat) : PyData := .int (n : Int)
abbrev nV (n : Nat) : V := .int (n : Int)
theorem len_eq {n m : Nat} : decide (V.int (n : Int) = V.int (m : Int)) = decide (n = m) := by
  by_cases h : n = m
  · subst h
    rw [decide_eq_true rfl, decide_eq_true rfl]
  · rw [decide_eq_false h]
    exact decide_eq_false fun e => by injection e with e; omega
theorem addI (k : Nat) : ((k : Nat) : Int) + 1 = ((k + 1 : Nat) : Int) := by omega
theorem none_same {H H' : Hp} (s : Same H H') {b : Addr} (h : H' b = none) : H b = none := by
  cases q : H b with
  | none => rfl
  | some o =>
    rw [s b o q] at h
    cases h
section
variable {P : Program} {w : World} {K : PySem.W.Frag} {mg : Str → Option Value} {base : Heap}
def setsOf (x : Str) (d : PyData) : PyData := if inV (.str x) settersV = true then d else .none
def spSets (K : PySem.W.Frag) : Sp := fun vs H Q _ => ∃ (v : V) (x : Str) (d : PyData) (r : List PyData), vs = [v] ∧ Dp K H v (.tuple (.str x :: d :: r)) ∧ ∀ z H', Same H H' → Dp K H' z (setsOf x d) → Q z H'
set_option pp.maxSteps 600 in
theorem c_sets (T : Txt w K mg) : Cal P w K mg base "_law_sets" 1 ["_law_row_here"] (spSets K) := by
  obtain ⟨fd, F⟩ := T.d__law_sets
  refine ⟨⟨fd, F.ok sc__law_sets (fun vs H Q E h => ?_) (fun cdv A outer s H vs Q E hr h => ?_), F.bindsN fun _ _ _ _ _ _ us hl => match us, hl with | [_], _ => rfl⟩, T.g _ (by decide), F.kp⟩
  · obtain ⟨v, x, d, r, rfl, _⟩ := h
    rfl
  obtain ⟨v, x, d, r, rfl, hv, q⟩ := h
  refine ⟨_, PSs.nox (pss_one (ps_ret (pe_ifExp (pt_cmpR (op_in_seqK (K := K) rfl) (pe_ix (ix_P (K := K) rfl) (pv 0) pe_int (fun _ _ => rfl)) (pe_tup (pa_cons pe_str (pa_cons pe_str (pa_cons pe_str (pa_cons pe_str (pa_cons pe_str (pa_cons pe_str (pa_cons pe_str pa_nil)))))))) (by rfl)) (pe_ix (ix_P (K := K) rfl) (pv 0) pe_int (fun _ _ => rfl)) pe_non))), ?_⟩
  refine ⟨v, rfl, _, 0, _, hv, rfl, rfl, fun z hz => ?_⟩
  cases hz
  refine ⟨(by show 7 ≤ sizeLine; decide), fun p hp => ⟨_, _, rfl, .inr (.inl (.inl upd_same)), rfl, rfl, _, rfl, ?_⟩⟩
  have s1 := same_new (o := .tup settersV) hp
  generalize upd H p (.tup settersV) = H1 at s1 ⊢
  show if inV (.str x) settersV = true then _ else _
  cases hb : inV (.str x) settersV with
  | true =>
    refine iteT ⟨v, rfl, _, 1, _, dp_mono s1 _ _ hv, rfl, rfl, fun z hz => q _ _ s1 ?_⟩
    unfold setsOf
    rw [if_pos hb]
    exact hz
  | false =>
    refine iteF (q _ _ s1 ?_)
    unfold setsOf
    rw [if_neg (by rw [hb]; decide)]
    exact .non
end
end K51

set_option maxHeartbeats 4000000
namespace K51
open PySem PySem.Spec PyProof.Rows L2 HG P52
/-! ### where things are while a graph is drawn -/
structure S52 (K : PySem.W.Frag) (d c wd kt : Addr) (cnt M f n : Nat) (H0 H : Hp) : Prop where
  dk : Deck d c n H
  X : Ext d c H0 H
  wd : Wd K (off d c H) wd
  kt : Kt (off d c H) kt cnt M f
section
variable {K : PySem.W.Frag} {d c wd kt : Addr} {cnt M f n m : Nat} {H0 H H' : Hp}
theorem ext_all (X : Ext d c H H') : Same (off d c H) H' := fun b o e => off_same b o (X b o e)
theorem S52.step (S : S52 K d c wd kt cnt M f n H0 H) (dk : Deck d c m H') (X : Ext d c H H') : S52 K d c wd kt cnt M f m H0 H' := ⟨dk, S.X.trans X, S.wd.mono X, S.kt.mono X⟩
theorem S52.same (S : S52 K d c wd kt cnt M f n H0 H) (s : Same H H') : S52 K d c wd kt cnt M f n H0 H' := S.step (S.dk.same s) (off_same_mono s)
theorem S52.new {p : Addr} {o : HO} (S : S52 K d c wd kt cnt M f n H0 H) (hp : H p = none) : S52 K d c wd kt cnt M f n H0 (upd H p o) := S.same (same_new hp)
theorem S52.words (S : S52 K d c wd kt cnt M f n H0 H) : ∃ wa xs, DGet H kt (.str "words") (some (.ref wa)) ∧ SqL K (off d c H) wa xs ∧ 0 < xs.length ∧ xs.length ≤ 1000 ∧ (∀ (j : Nat) (y : V), xs[j]? = some y → ∃ i : Nat, i < M ∧ y = .int (i : Int)) ∧ xs = (List.range M).map fun i => V.int ((i : Nat) : Int) := by
  obtain ⟨wa, fa, e1, e2, e3⟩ := S.kt.ex
  have h1 := S.kt.lt
  have h2 := S.kt.M8
  exact ⟨wa, _, DGet.k (k := Sum.inr "words") (off_at e1).1, .inl (.inl e2), by rw [List.length_map, List.length_range]; omega, by rw [List.length_map, List.length_range]; omega, fun j y hy => ⟨j, range_get hy⟩, rfl⟩
theorem S52.count (S : S52 K d c wd kt cnt M f n H0 H) : DGet H kt (.str "count") (some (.int (cnt : Int))) := by
  obtain ⟨wa, fa, e1, e2, e3⟩ := S.kt.ex
  exact DGet.k (k := Sum.inr "count") (off_at e1).1
theorem S52.funcs (S : S52 K d c wd kt cnt M f n H0 H) : ∃ fa xs, DGet H kt (.str "funcs") (some (.ref fa)) ∧ SqL K (off d c H) fa xs ∧ 0 < xs.length ∧ xs.length ≤ 1000 ∧ (∀ (j : Nat) (y : V), xs[j]? = some y → ∃ i : Nat, i < M + f ∧ y = .int (i : Int)) ∧ xs.length ≤ 2 := by
  obtain ⟨wa, fa, e1, e2, e3⟩ := S.kt.ex
  have h1 := S.kt.f1
  have h2 := S.kt.f2
  refine ⟨fa, _, DGet.k (k := Sum.inr "funcs") (off_at e1).1, .inl (.inl e3), by rw [List.length_map, List.length_range]; omega, by rw [List.length_map, List.length_range]; omega, fun j y hy => ?_, by rw [List.length_map, List.length_range]; omega⟩
  obtain ⟨hj, e⟩ := rangeF_get hy
  exact ⟨M + j, by omega, e⟩
theorem S52.cells (S : S52 K d c wd kt cnt M f n H0 H) : ∃ ce xs, DGet H wd (.str "cells") (some (.ref ce)) ∧ SqL K (off d c H) ce xs ∧ 0 < xs.length ∧ xs.length ≤ 1000 ∧ ∀ (j : Nat) (y : V), xs[j]? = some y → ∃ z, Nm z ∧ y = .str z := by
  obtain ⟨ca, ce, ar, h, cs, as, cvs, avs, es, e1, e2, e3, e4, e5, e6, l1, o1, l2, o2, l3, o3, o4⟩ := S.wd.ex
  refine ⟨ce, _, DGet.k (k := Sum.inr "cells") (off_at e1).1, .inl (.inl e4), by rw [List.length_map]; omega, by rw [List.length_map]; omega, fun j y hy => ?_⟩
  rw [List.getElem?_map] at hy
  obtain ⟨z, hz, rfl⟩ := Option.map_eq_some_iff.mp hy
  exact ⟨z, o2 z (List.mem_of_getElem? hz), rfl⟩
theorem S52.holder (S : S52 K d c wd kt cnt M f n H0 H) : ∃ z, DGet H wd (.str "holder") (some (.str z)) ∧ Nm z := by
  obtain ⟨ca, ce, ar, h, cs, as, cvs, avs, es, e1, e2, e3, e4, e5, e6, l1, o1, l2, o2, l3, o3, o4⟩ := S.wd.ex
  exact ⟨h, DGet.k (k := Sum.inr "holder") (off_at e1).1, o4⟩
theorem S52.arrays (S : S52 K d c wd kt cnt M f n H0 H) : ∃ ar xs, DGet H wd (.str "arrays") (some (.ref ar)) ∧ SqL K (off d c H) ar xs ∧ 0 < xs.length ∧ xs.length ≤ 1000 ∧ ∀ (j : Nat) (y : V), xs[j]? = some y → ∃ p : Str × Nat, Nm p.1 ∧ Dp K (off d c H) y (prD p) := by
  obtain ⟨ca, ce, ar, h, cs, as, cvs, avs, es, e1, e2, e3, e4, e5, e6, l1, o1, l2, o2, l3, o3, o4⟩ := S.wd.ex
  have hl := dpAll_len e6
  rw [List.length_map] at hl
  refine ⟨ar, _, DGet.k (k := Sum.inr "arrays") (off_at e1).1, .inl (.inl e5), by omega, by omega, fun j y hy => ?_⟩
  obtain ⟨p, hp, hyp⟩ := dpAll_map_get e6 hy
  exact ⟨p, o3 p (List.mem_of_getElem? hp), hyp⟩
theorem S52.calls (S : S52 K d c wd kt cnt M f n H0 H) : ∃ ca xs, DGet H wd (.str "calls") (some (.ref ca)) ∧ SqL K (off d c H) ca xs ∧ 0 < xs.length ∧ xs.length ≤ 1000 ∧ (∀ (y : V), y ∈ xs → ∃ p : Str × Nat, Nm p.1 ∧ p.2 ≤ 2 ∧ Dp K (off d c H) y (prD p)) ∧ (cutV xs (some 1) (some 3)).length = 2 := by
  obtain ⟨ca, ce, ar, h, cs, as, cvs, avs, es, e1, e2, e3, e4, e5, e6, l1, o1, l2, o2, l3, o3, o4⟩ := S.wd.ex
  have hl := dpAll_len e3
  rw [List.length_map] at hl
  refine ⟨ca, _, DGet.k (k := Sum.inr "calls") (off_at e1).1, .inl (.inl e2), by omega, by omega, fun y hy => ?_, ?_⟩
  · obtain ⟨i, hi⟩ := List.getElem?_of_mem hy
    obtain ⟨p, hp, hyp⟩ := dpAll_map_get e3 hi
    have ok := o1 p (List.mem_of_getElem? hp)
    exact ⟨p, ok.1, ok.2, hyp⟩
  · unfold cutV
    rw [show HT.sIx cvs.length 0 (some 1) = 1 by rw [show (some (1 : Int)) = some ((1 : Nat) : Int) from rfl, HT.sIx_nat]; omega, show HT.sIx cvs.length cvs.length (some 3) = 3 by rw [show (some (3 : Int)) = some ((3 : Nat) : Int) from rfl, HT.sIx_nat]; omega, List.length_take, List.length_drop]
    omega
theorem cutV_sub {xs : List V} {lo hi : Option Int} {y : V} (h : y ∈ cutV xs lo hi) : y ∈ xs := by
  unfold cutV at h
  exact List.mem_of_mem_drop (List.mem_of_mem_take h)
end
end K51

set_option maxHeartbeats 4000000
namespace K51
open PySem PySem.Spec PyProof.Rows L2 HG P52
def spOther (K : PySem.W.Frag) : Sp := fun vs H Q _ => ∃ (d c wd kt : Addr) (n cnt M f : Nat) (v1 v2 : V) (a1 a2 : Opd), vs = [.ref d, .ref wd, .ref kt, v1, v2] ∧ n < 2 ^ 48 ∧ S52 K d c wd kt cnt M f n H H ∧ Dp K H v1 (oD a1) ∧ Dp K H v2 (oD a2) ∧ OpdOk M a1 ∧ OpdOk M a2 ∧
  ∀ (v : V) (R : Rw) (H' : Hp), S52 K d c wd kt cnt M f (n + 20) H H' → Dp K H' v R.D → RwOk (M + f) R → Q v H'
theorem opd_up {M N : Nat} {a : Opd} (h : OpdOk M a) (hN : M ≤ N) : OpdOk N a := by
  cases a with
  | w i => exact h
  | v n => exact Nat.lt_of_lt_of_le h hN
theorem last_range {M : Nat} (h : 0 < M) : atI ((List.range M).map fun i => V.int ((i : Nat) : Int)) (-1) = some (.int ((M - 1 : Nat) : Int)) := by
  unfold atI ixN
  rw [List.length_map, List.length_range]
  have h1 : ¬ (0 ≤ (-1 : Int)) := by omega
  have h2 : -(M : Int) ≤ -1 := by omega
  rw [if_neg h1, if_pos h2]
  have h3 : (-1 + (M : Int)).toNat = M - 1 := by omega
  show ((List.range M).map fun i => V.int ((i : Nat) : Int))[(-1 + (M : Int)).toNat]? = _
  rw [h3, List.getElem?_map, List.getElem?_range (by omega)]
  rfl
theorem nm_same : Nm ("same" : Str) := ⟨by decide +kernel, by decide +kernel⟩
section
variable {P : Program} {w : World} {K : PySem.W.Frag} {mg : Str → Option Value} {base : Heap}
set_option pp.maxSteps 600 in
theorem c_other (T : Txt w K mg) : Cal P w K mg base "_law_other_row" 3 ["_law_deck_here", "_law_world_here", "_law_kit", "_law_one", "_law_two"] (spOther K) := by
  obtain ⟨fd, F⟩ := T.d__law_other_row
  have C__law_draw := c_draw (P := P) (base := base) T
  have C__law_pick := c_pick (P := P) (base := base) T
  refine ⟨⟨fd, F.ok sc__law_other_row (fun vs H Q E h => ?_) (fun cdv A outer s H vs Q E hr h => ?_), F.bindsN fun _ _ _ _ _ _ us hl => match us, hl with | [_, _, _, _, _], _ => rfl⟩, T.g _ (by decide), F.kp⟩
  · obtain ⟨d, c, wd, kt, n, cnt, M, f, v1, v2, a1, a2, rfl, _⟩ := h
    rfl
  obtain ⟨d, c, wd, kt, n, cnt, M, f, v1, v2, a1, a2, rfl, hn, S, h1, h2, o1, o2, q⟩ := h
  have hu := hu_of hr
  refine ⟨_, PSs.nox (pss_cons (ps_par3 (i := 5) (j := 6) (l := 7) rfl sc__law_other_row.nd rfl rfl rfl (by decide) (by decide) (by decide) rfl rfl rfl (pa_cons (pe_cal C__law_draw (hr.mono (by omega)) (by rfl) (pa_cons (pv 0) (pa_cons pe_int pa_nil))) (pa_cons (pe_cal C__law_pick (hr.mono (by omega)) (by rfl) (pa_cons (pv 0) (pa_cons (pe_dget hu (pv 2) pe_str (fun _ _ => rfl)) pa_nil))) (pa_cons (pe_cal C__law_pick (hr.mono (by omega)) (by rfl) (pa_cons (pv 0) (pa_cons (pe_dget hu (pv 2) pe_str (fun _ _ => rfl)) pa_nil))) pa_nil))) (by rfl))
      (pss_cons (ps_set (i := 8) sc__law_other_row.nd rfl (.inl rfl) (pe_lst (pa_cons (pe_tup (pa_cons pe_str (pa_cons (pe_cal C__law_pick (hr.mono (by omega)) (by rfl) (pa_cons (pv 0) (pa_cons (pe_dget hu (pv 1) pe_str (fun _ _ => rfl)) pa_nil))) (pa_cons (pv 3) pa_nil)))) (pa_cons (pe_tup (pa_cons pe_str (pa_cons (pv 3) pa_nil))) (pa_cons (pe_tup (pa_cons pe_str (pa_cons (pe_dget hu (pv 1) pe_str (fun _ _ => rfl)) (pa_cons (pe_tup (pa_cons pe_str (pa_cons (pv 6) pa_nil))) pa_nil)))) pa_nil)))))
      (pss_cons (ps_set (i := 8) sc__law_other_row.nd rfl (.inl rfl) (pe_op op_cat (pv 8) (pe_op op_rep (pe_lst (pa_cons (pe_tup (pa_cons pe_str (pa_cons (pe_ix (ix_P (K := K) rfl) (pe_cal C__law_pick (hr.mono (by omega)) (by rfl) (pa_cons (pv 0) (pa_cons (pe_dget hu (pv 1) pe_str (fun _ _ => rfl)) pa_nil))) pe_int (fun _ _ => rfl)) (pa_cons (pv 3) (pa_cons (pv 4) pa_nil))))) pa_nil)) pe_int)))
      (pss_cons (ps_set (i := 8) sc__law_other_row.nd rfl (.inl rfl) (pe_op op_cat (pv 8) (pe_lst (pa_cons (pe_tup (pa_cons pe_str (pa_cons (pv 6) (pa_cons (pe_tup (pa_cons pe_str (pa_cons (pe_ix (ix_P (K := K) rfl) (pe_cal C__law_pick (hr.mono (by omega)) (by rfl) (pa_cons (pv 0) (pa_cons (pe_slice (sl_listK (K := K) rfl) (pe_dget hu (pv 1) pe_str (fun _ _ => rfl)) (po_some pe_int) (po_some pe_int)) pa_nil))) pe_int (fun _ _ => rfl)) pa_nil))) pa_nil)))) (pa_cons (pe_tup (pa_cons pe_str (pa_cons (pv 6) (pa_cons (pv 7) pa_nil)))) pa_nil)))))
      (pss_one (ps_ret (pe_ix (ix_listK (K := K) rfl) (pe_op op_cat (pv 8) (pe_lst (pa_cons (pe_tup (pa_cons pe_str (pa_cons (pv 6) (pa_cons (pe_dget hu (pv 1) pe_str (fun _ _ => rfl)) pa_nil)))) (pa_cons (pe_tup (pa_cons pe_str (pa_cons (pe_ix (ix_listK (K := K) rfl) (pe_dget hu (pv 2) pe_str (fun _ _ => rfl)) (pe_un un_neg pe_int) (fun _ _ => rfl)) (pa_cons pe_str (pa_cons (pe_tup (pa_cons pe_str (pa_cons (pv 6) pa_nil))) (pa_cons (pe_tup (pa_cons pe_str (pa_cons (pv 7) pa_nil))) pa_nil)))))) pa_nil)))) (pv 5) (fun _ _ => rfl)))))))), ?_⟩
  have dk0 := S.dk
  refine ⟨.ref d, rfl, d, c, _, 9, rfl, by decide, by decide, by omega, S.dk, fun r1 H1 r01 r11 dk1 X1 => ?_⟩
  obtain ⟨way, rfl⟩ := Int.eq_ofNat_of_zero_le r01
  have S1 := S.step dk1 X1
  have k1 := ext_kt S.dk X1
  obtain ⟨pa2, xs2, dg2, sq2, lo2, hi2, pk2, _⟩ := S1.funcs
  refine ⟨.ref d, rfl, .ref kt, rfl, kt, _, rfl, dg2, d, c, pa2, _, xs2, rfl, S1.dk, by omega, sq2, lo2, hi2, fun j2 y2 H2 hy2 dk2 X2 => ?_⟩
  obtain ⟨jf, hjf, rfl⟩ := pk2 j2 y2 hy2
  have S2 := S1.step dk2 X2
  have k2 := ext_kt S1.dk X2
  obtain ⟨pa3, xs3, dg3, sq3, lo3, hi3, pk3, _⟩ := S2.funcs
  refine ⟨.ref d, rfl, .ref kt, rfl, kt, _, rfl, dg3, d, c, pa3, _, xs3, rfl, S2.dk, by omega, sq3, lo3, hi3, fun j3 y3 H3 hy3 dk3 X3 => ?_⟩
  obtain ⟨jg, hjg, rfl⟩ := pk3 j3 y3 hy3
  have S3 := S2.step dk3 X3
  have k3 := ext_kt S2.dk X3
  refine ⟨_, _, _, rfl, ?_⟩
  obtain ⟨pa4, xs4, dg4, sq4, lo4, hi4, pk4⟩ := S3.cells
  refine ⟨.ref d, rfl, .ref wd, rfl, wd, _, rfl, dg4, d, c, pa4, _, xs4, rfl, S3.dk, by omega, sq4, lo4, hi4, fun j4 y4 H4 hy4 dk4 X4 => ?_⟩
  obtain ⟨zc, hzc, rfl⟩ := pk4 j4 y4 hy4
  have S4 := S3.step dk4 X4
  have k4 := ext_kt S3.dk X4
  refine ⟨v1, rfl, (by show 3 ≤ sizeLine; decide), fun t1 ht1 => ?_⟩
  have s5 := same_new (o := .tup [.str "store", .str zc, v1]) ht1
  have S5 := S4.same s5
  have k5 := KT.of s5
  have gt1 : Dp K (upd H4 t1 (.tup [.str "store", .str zc, v1])) (.ref t1) ((Rw.st zc a1).D) := dp_tupN ht1 (.cons (.str _) (.cons (.str _) (.cons (dp_kt (k1.trans (k2.trans (k3.trans k4))) _ _ (nlO a1) h1) .nil)))
  generalize upd H4 t1 (.tup [.str "store", .str zc, v1]) = H5 at s5 S5 k5 gt1 ⊢
  refine ⟨v1, rfl, (by show 2 ≤ sizeLine; decide), fun t2 ht2 => ?_⟩
  have s6 := same_new (o := .tup [.str "print", v1]) ht2
  have S6 := S5.same s6
  have k6 := KT.of s6
  have gt2 : Dp K (upd H5 t2 (.tup [.str "print", v1])) (.ref t2) ((Rw.pr a1).D) := dp_tupN ht2 (.cons (.str _) (.cons (dp_kt (k1.trans (k2.trans (k3.trans (k4.trans k5)))) _ _ (nlO a1) h1) .nil))
  generalize upd H5 t2 (.tup [.str "print", v1]) = H6 at s6 S6 k6 gt2 ⊢
  obtain ⟨zh, dgh, hzh⟩ := S6.holder
  refine ⟨.ref wd, rfl, wd, _, rfl, dgh, _, rfl, (by show 2 ≤ sizeLine; decide), fun t3 ht3 => ?_⟩
  have s7 := same_new (o := .tup [.str "var", .int (jf : Int)]) ht3
  have S7 := S6.same s7
  have k7 := KT.of s7
  have gt3 : Dp K (upd H6 t3 (.tup [.str "var", .int (jf : Int)])) (.ref t3) (oD (.v jf)) := dp_tupN ht3 (.cons (.str _) (.cons (.int _) .nil))
  generalize upd H6 t3 (.tup [.str "var", .int (jf : Int)]) = H7 at s7 S7 k7 gt3 ⊢
  refine ⟨(by show 3 ≤ sizeLine; decide), fun t4 ht4 => ?_⟩
  have s8 := same_new (o := .tup [.str "store", .str zh, .ref t3]) ht4
  have S8 := S7.same s8
  have k8 := KT.of s8
  have gt4 : Dp K (upd H7 t4 (.tup [.str "store", .str zh, .ref t3])) (.ref t4) ((Rw.st zh (.v jf)).D) := dp_tupN ht4 (.cons (.str _) (.cons (.str _) (.cons gt3 .nil)))
  generalize upd H7 t4 (.tup [.str "store", .str zh, .ref t3]) = H8 at s8 S8 k8 gt4 ⊢
  refine ⟨(by show 3 ≤ sizeLine; decide), fun l1 hl1 => ?_⟩
  have nl1 := S8.dk.has hl1
  have s9 := same_new (o := .lst [.ref t1, .ref t2, .ref t4]) hl1
  have S9 := S8.same s9
  have k9 := KT.of s9
  have el1 : (upd H8 l1 (.lst [.ref t1, .ref t2, .ref t4])) l1 = some (.lst [.ref t1, .ref t2, .ref t4]) := upd_same
  generalize upd H8 l1 (.lst [.ref t1, .ref t2, .ref t4]) = H9 at s9 S9 k9 el1 ⊢
  obtain ⟨pa10, xs10, dg10, sq10, lo10, hi10, pk10⟩ := S9.arrays
  refine ⟨.ref l1, rfl, .ref d, rfl, .ref wd, rfl, wd, _, rfl, dg10, d, c, pa10, _, xs10, rfl, S9.dk, by omega, sq10, lo10, hi10, fun j10 y10 H10 hy10 dk10 X10 => ?_⟩
  obtain ⟨pA, hpA, gA⟩ := pk10 j10 y10 hy10
  have S10 := S9.step dk10 X10
  have k10 := ext_kt S9.dk X10
  have el1 := X10.at nl1.1 nl1.2 el1
  have gA := dp_mono (ext_all X10) _ _ gA
  refine ⟨_, 0, _, gA, rfl, rfl, fun z hz => ?_⟩
  cases hz
  refine ⟨v1, rfl, v2, rfl, (by show 4 ≤ sizeLine; decide), fun t5 ht5 => ?_⟩
  have s11 := same_new (o := .tup [.str "write", .str pA.1, v1, v2]) ht5
  have S11 := S10.same s11
  have k11 := KT.of s11
  have el1 := s11 _ _ el1
  have gt5 : Dp K (upd H10 t5 (.tup [.str "write", .str pA.1, v1, v2])) (.ref t5) ((Rw.wr pA.1 a1 a2).D) := dp_tupN ht5 (.cons (.str _) (.cons (.str _) (.cons (dp_kt (k1.trans (k2.trans (k3.trans (k4.trans (k5.trans (k6.trans (k7.trans (k8.trans (k9.trans k10))))))))) _ _ (nlO a1) h1) (.cons (dp_kt (k1.trans (k2.trans (k3.trans (k4.trans (k5.trans (k6.trans (k7.trans (k8.trans (k9.trans k10))))))))) _ _ (nlO a2) h2) .nil))))
  generalize upd H10 t5 (.tup [.str "write", .str pA.1, v1, v2]) = H11 at s11 S11 k11 el1 gt5 ⊢
  refine ⟨(by show 1 ≤ sizeLine; decide), fun l2 hl2 => ?_⟩
  have nl2 := S11.dk.has hl2
  have s12 := same_new (o := .lst [.ref t5]) hl2
  have S12 := S11.same s12
  have k12 := KT.of s12
  have el1 := s12 _ _ el1
  have el2 : (upd H11 l2 (.lst [.ref t5])) l2 = some (.lst [.ref t5]) := upd_same
  generalize upd H11 l2 (.lst [.ref t5]) = H12 at s12 S12 k12 el1 el2 ⊢
  refine ⟨l2, 2, _, rfl, rfl, el2, by decide, by decide, (by show 1 * 2 ≤ sizeLine; decide), fun l3 hl3 => ?_⟩
  generalize eH13 : upd H12 l3 _ = H13
  have eH13 : H13 = upd H12 l3 (.lst [.ref t5, .ref t5]) := eH13.symm
  have nl3 := S12.dk.has hl3
  have s13 : Same H12 H13 := by rw [eH13]; exact same_new hl3
  have S13 := S12.same s13
  have k13 := KT.of s13
  have el1 := s13 _ _ el1
  have el3 : H13 l3 = some (.lst [.ref t5, .ref t5]) := by rw [eH13]; exact upd_same
  refine ⟨l1, l3, _, _, rfl, rfl, el1, el3, (by show 5 ≤ sizeLine; decide), fun l4 hl4 => ?_⟩
  generalize eH14 : upd H13 l4 _ = H14
  have eH14 : H14 = upd H13 l4 (.lst [.ref t1, .ref t2, .ref t4, .ref t5, .ref t5]) := eH14.symm
  have nl4 := S13.dk.has hl4
  have s14 : Same H13 H14 := by rw [eH14]; exact same_new hl4
  have S14 := S13.same s14
  have k14 := KT.of s14
  have el4 : H14 l4 = some (.lst [.ref t1, .ref t2, .ref t4, .ref t5, .ref t5]) := by rw [eH14]; exact upd_same
  refine ⟨.ref l4, rfl, .int (jf : Int), rfl, .ref d, rfl, ?_⟩
  obtain ⟨pca, xca, dgca, sqca, _, _, pkca, lca⟩ := S14.calls
  refine ⟨.ref wd, rfl, wd, _, rfl, dgca, 1, rfl, 3, rfl, pca, _, rfl, offL sqca, fun l5 hl5 => ?_⟩
  have nl5 := S14.dk.has hl5
  have s15 := same_new (o := .lst (cutV xca (some 1) (some 3))) hl5
  have S15 := S14.same s15
  have k15 := KT.of s15
  have el5 : (upd H14 l5 (.lst (cutV xca (some 1) (some 3)))) l5 = some (.lst (cutV xca (some 1) (some 3))) := upd_same
  have el4 := s15 _ _ el4
  generalize upd H14 l5 (.lst (cutV xca (some 1) (some 3))) = H15 at s15 S15 k15 el5 el4 ⊢
  refine ⟨d, c, l5, _, _, rfl, S15.dk, by omega, .inl (.inl (by rw [off_get nl5.1 nl5.2]; exact el5)), by omega, by omega, fun j16 y16 H16 hy16 dk16 X16 => ?_⟩
  obtain ⟨pC, hpC, _, gC⟩ := pkca y16 (cutV_sub (List.mem_of_getElem? hy16))
  have gC := dp_mono (ext_all ((off_same_mono s15).trans X16)) _ _ gC
  have S16 := S15.step dk16 X16
  have k16 := ext_kt S15.dk X16
  have el4 := X16.at nl4.1 nl4.2 el4
  refine ⟨_, 0, _, gC, rfl, rfl, fun z hz => ?_⟩
  cases hz
  refine ⟨(by show 2 ≤ sizeLine; decide), fun t6 ht6 => ?_⟩
  have s17 := same_new (o := .tup [.str "func", .str pC.1]) ht6
  have S17 := S16.same s17
  have k17 := KT.of s17
  have el4 := s17 _ _ el4
  have gt6 : Dp K (upd H16 t6 (.tup [.str "func", .str pC.1])) (.ref t6) (.tuple [.str "func", .str pC.1]) := dp_tupN ht6 (.cons (.str _) (.cons (.str _) .nil))
  generalize upd H16 t6 (.tup [.str "func", .str pC.1]) = H17 at s17 S17 k17 el4 gt6 ⊢
  refine ⟨(by show 3 ≤ sizeLine; decide), fun t7 ht7 => ?_⟩
  have s18 := same_new (o := .tup [.str "const", .int (jf : Int), .ref t6]) ht7
  have S18 := S17.same s18
  have k18 := KT.of s18
  have el4 := s18 _ _ el4
  have gt7 : Dp K (upd H17 t7 (.tup [.str "const", .int (jf : Int), .ref t6])) (.ref t7) ((Rw.cf jf pC.1).D) := dp_tupN ht7 (.cons (.str _) (.cons (.int _) (.cons gt6 .nil)))
  generalize upd H17 t7 (.tup [.str "const", .int (jf : Int), .ref t6]) = H18 at s18 S18 k18 el4 gt7 ⊢
  refine ⟨_, rfl, _, rfl, (by show 3 ≤ sizeLine; decide), fun t8 ht8 => ?_⟩
  have s19 := same_new (o := .tup [.str "copy", .int (jf : Int), .int (jg : Int)]) ht8
  have S19 := S18.same s19
  have k19 := KT.of s19
  have el4 := s19 _ _ el4
  have gt8 : Dp K (upd H18 t8 (.tup [.str "copy", .int (jf : Int), .int (jg : Int)])) (.ref t8) ((Rw.cp jf jg).D) := dp_tupN ht8 (.cons (.str _) (.cons (.int _) (.cons (.int _) .nil)))
  generalize upd H18 t8 (.tup [.str "copy", .int (jf : Int), .int (jg : Int)]) = H19 at s19 S19 k19 el4 gt8 ⊢
  refine ⟨(by show 2 ≤ sizeLine; decide), fun l6 hl6 => ?_⟩
  have nl6 := S19.dk.has hl6
  have s20 := same_new (o := .lst [.ref t7, .ref t8]) hl6
  have S20 := S19.same s20
  have k20 := KT.of s20
  have el4 := s20 _ _ el4
  have el6 : (upd H19 l6 (.lst [.ref t7, .ref t8])) l6 = some (.lst [.ref t7, .ref t8]) := upd_same
  generalize upd H19 l6 (.lst [.ref t7, .ref t8]) = H20 at s20 S20 k20 el4 el6 ⊢
  refine ⟨l4, l6, _, _, rfl, rfl, el4, el6, (by show 7 ≤ sizeLine; decide), fun l7 hl7 => ?_⟩
  generalize eH21 : upd H20 l7 _ = H21
  have eH21 : H21 = upd H20 l7 (.lst [.ref t1, .ref t2, .ref t4, .ref t5, .ref t5, .ref t7, .ref t8]) := eH21.symm
  have nl7 := S20.dk.has hl7
  have s21 : Same H20 H21 := by rw [eH21]; exact same_new hl7
  have S21 := S20.same s21
  have k21 := KT.of s21
  have el7 : H21 l7 = some (.lst [.ref t1, .ref t2, .ref t4, .ref t5, .ref t5, .ref t7, .ref t8]) := by rw [eH21]; exact upd_same
  obtain ⟨zk, dgk, hzk⟩ := S21.holder
  refine ⟨.ref l7, rfl, _, rfl, .ref wd, rfl, wd, _, rfl, dgk, (by show 3 ≤ sizeLine; decide), fun t9 ht9 => ?_⟩
  have s22 := same_new (o := .tup [.str "load", .int (jf : Int), .str zk]) ht9
  have S22 := S21.same s22
  have k22 := KT.of s22
  have el7 := s22 _ _ el7
  have gt9 : Dp K (upd H21 t9 (.tup [.str "load", .int (jf : Int), .str zk])) (.ref t9) ((Rw.ld jf zk).D) := dp_tupN ht9 (.cons (.str _) (.cons (.int _) (.cons (.str _) .nil)))
  generalize upd H21 t9 (.tup [.str "load", .int (jf : Int), .str zk]) = H22 at s22 S22 k22 el7 gt9 ⊢
  obtain ⟨pw, xw, dgw, sqw, low, _, _, exw⟩ := S22.words
  have hM := S22.kt.lt
  have hlast : atI xw (-1) = some (.int ((M - 1 : Nat) : Int)) := by rw [exw]; exact last_range (by omega)
  refine ⟨.ref kt, rfl, kt, _, rfl, dgw, 1, rfl, pw, xw, _, _, rfl, rfl, offL sqw, hlast, _, rfl, (by show 2 ≤ sizeLine; decide), fun ta hta => ?_⟩
  have s23 := same_new (o := .tup [.str "var", .int (jf : Int)]) hta
  have S23 := S22.same s23
  have k23 := KT.of s23
  have el7 := s23 _ _ el7
  have gta : Dp K (upd H22 ta (.tup [.str "var", .int (jf : Int)])) (.ref ta) (oD (.v jf)) := dp_tupN hta (.cons (.str _) (.cons (.int _) .nil))
  generalize upd H22 ta (.tup [.str "var", .int (jf : Int)]) = H23 at s23 S23 k23 el7 gta ⊢
  refine ⟨_, rfl, (by show 2 ≤ sizeLine; decide), fun tb htb => ?_⟩
  have s24 := same_new (o := .tup [.str "var", .int (jg : Int)]) htb
  have S24 := S23.same s24
  have k24 := KT.of s24
  have el7 := s24 _ _ el7
  have gtb : Dp K (upd H23 tb (.tup [.str "var", .int (jg : Int)])) (.ref tb) (oD (.v jg)) := dp_tupN htb (.cons (.str _) (.cons (.int _) .nil))
  generalize upd H23 tb (.tup [.str "var", .int (jg : Int)]) = H24 at s24 S24 k24 el7 gtb ⊢
  refine ⟨(by show 5 ≤ sizeLine; decide), fun tc htc => ?_⟩
  have s25 := same_new (o := .tup [.str "op", .int ((M - 1 : Nat) : Int), .str "same", .ref ta, .ref tb]) htc
  have S25 := S24.same s25
  have k25 := KT.of s25
  have el7 := s25 _ _ el7
  have gtc : Dp K (upd H24 tc (.tup [.str "op", .int ((M - 1 : Nat) : Int), .str "same", .ref ta, .ref tb])) (.ref tc) ((Rw.op (M - 1) "same" (.v jf) (.v jg)).D) := dp_tupN htc (.cons (.str _) (.cons (.int _) (.cons (.str _) (.cons (dp_kt k24 _ _ rfl gta) (.cons gtb .nil)))))
  generalize upd H24 tc (.tup [.str "op", .int ((M - 1 : Nat) : Int), .str "same", .ref ta, .ref tb]) = H25 at s25 S25 k25 el7 gtc ⊢
  refine ⟨(by show 2 ≤ sizeLine; decide), fun l8 hl8 => ?_⟩
  have nl8 := S25.dk.has hl8
  have s26 := same_new (o := .lst [.ref t9, .ref tc]) hl8
  have S26 := S25.same s26
  have k26 := KT.of s26
  have el7 := s26 _ _ el7
  have el8 : (upd H25 l8 (.lst [.ref t9, .ref tc])) l8 = some (.lst [.ref t9, .ref tc]) := upd_same
  generalize upd H25 l8 (.lst [.ref t9, .ref tc]) = H26 at s26 S26 k26 el7 el8 ⊢
  refine ⟨l7, l8, _, _, rfl, rfl, el7, el8, (by show 9 ≤ sizeLine; decide), fun l9 hl9 => ?_⟩
  generalize eH27 : upd H26 l9 _ = H27
  have eH27 : H27 = upd H26 l9 (.lst [.ref t1, .ref t2, .ref t4, .ref t5, .ref t5, .ref t7, .ref t8, .ref t9, .ref tc]) := eH27.symm
  have nl9 := S26.dk.has hl9
  have s27 : Same H26 H27 := by rw [eH27]; exact same_new hl9
  have S27 := S26.same s27
  have k27 := KT.of s27
  have el9 : H27 l9 = some (.lst [.ref t1, .ref t2, .ref t4, .ref t5, .ref t5, .ref t7, .ref t8, .ref t9, .ref tc]) := by rw [eH27]; exact upd_same
  have all : DpAll K H27 [.ref t1, .ref t2, .ref t4, .ref t5, .ref t5, .ref t7, .ref t8, .ref t9, .ref tc] (([.st zc a1, .pr a1, .st zh (.v jf), .wr pA.1 a1 a2, .wr pA.1 a1 a2, .cf jf pC.1, .cp jf jg, .ld jf zk, .op (M - 1) "same" (.v jf) (.v jg)] : List Rw).map Rw.D) :=
    .cons (dp_kt (k6.trans (k7.trans (k8.trans (k9.trans (k10.trans (k11.trans (k12.trans (k13.trans (k14.trans (k15.trans (k16.trans (k17.trans (k18.trans (k19.trans (k20.trans (k21.trans (k22.trans (k23.trans (k24.trans (k25.trans (k26.trans k27))))))))))))))))))))) _ _ (nlR _) gt1) (.cons (dp_kt (k7.trans (k8.trans (k9.trans (k10.trans (k11.trans (k12.trans (k13.trans (k14.trans (k15.trans (k16.trans (k17.trans (k18.trans (k19.trans (k20.trans (k21.trans (k22.trans (k23.trans (k24.trans (k25.trans (k26.trans k27)))))))))))))))))))) _ _ (nlR _) gt2) (.cons (dp_kt (k9.trans (k10.trans (k11.trans (k12.trans (k13.trans (k14.trans (k15.trans (k16.trans (k17.trans (k18.trans (k19.trans (k20.trans (k21.trans (k22.trans (k23.trans (k24.trans (k25.trans (k26.trans k27)))))))))))))))))) _ _ (nlR _) gt4) (.cons (dp_kt (k12.trans (k13.trans (k14.trans (k15.trans (k16.trans (k17.trans (k18.trans (k19.trans (k20.trans (k21.trans (k22.trans (k23.trans (k24.trans (k25.trans (k26.trans k27))))))))))))))) _ _ (nlR _) gt5) (.cons (dp_kt (k12.trans (k13.trans (k14.trans (k15.trans (k16.trans (k17.trans (k18.trans (k19.trans (k20.trans (k21.trans (k22.trans (k23.trans (k24.trans (k25.trans (k26.trans k27))))))))))))))) _ _ (nlR _) gt5) (.cons (dp_kt (k19.trans (k20.trans (k21.trans (k22.trans (k23.trans (k24.trans (k25.trans (k26.trans k27)))))))) _ _ (nlR _) gt7) (.cons (dp_kt (k20.trans (k21.trans (k22.trans (k23.trans (k24.trans (k25.trans (k26.trans k27))))))) _ _ (nlR _) gt8) (.cons (dp_kt (k23.trans (k24.trans (k25.trans (k26.trans k27)))) _ _ (nlR _) gt9) (.cons (dp_kt (k26.trans k27) _ _ (nlR _) gtc) .nil))))))))
  have hw9 : way < 9 := by omega
  obtain ⟨y, hy⟩ : ∃ y, ([.ref t1, .ref t2, .ref t4, .ref t5, .ref t5, .ref t7, .ref t8, .ref t9, .ref tc] : List V)[way]? = some y := ⟨_, List.getElem?_eq_getElem (show way < 9 from hw9)⟩
  obtain ⟨R, hR, hyR⟩ := dpAll_map_get all hy
  refine ⟨.int (way : Int), rfl, l9, _, _, _, rfl, rfl, .inl (.inl el9), atI_nat hy, q y R _ ⟨S27.dk.up (by omega), S27.X, S27.wd, S27.kt⟩ hyR ?_⟩
  have hRm := List.mem_of_getElem? hR
  have u1 := opd_up o1 (show M ≤ M + f by omega)
  have u2 := opd_up o2 (show M ≤ M + f by omega)
  simp only [List.mem_cons, List.not_mem_nil, or_false] at hRm
  rcases hRm with rfl | rfl | rfl | rfl | rfl | rfl | rfl | rfl | rfl
  · exact ⟨hzc, u1⟩
  · exact u1
  · exact ⟨hzh, hjf⟩
  · exact ⟨hpA, u1, u2⟩
  · exact ⟨hpA, u1, u2⟩
  · exact ⟨hjf, hpC⟩
  · exact ⟨hjf, hjg⟩
  · exact ⟨hjf, hzk⟩
  · exact ⟨by omega, nm_same, hjf, hjg⟩
end
end K51

set_option maxHeartbeats 4000000
namespace K51
open PySem PySem.Spec PyProof.Rows L2 HG P52
def spFirst (K : PySem.W.Frag) : Sp := fun vs H Q _ => ∃ (d c wd kt : Addr) (n cnt M f : Nat), vs = [.ref d, .ref wd, .ref kt] ∧ n < 2 ^ 48 ∧ S52 K d c wd kt cnt M f n H H ∧
  ∀ (a : Addr) (us : List V) (rows : List Rw) (H' : Hp), S52 K d c wd kt cnt M f (n + 20) H H' → H a = none → H' a = some (.lst us) → DpAll K H' us (rows.map Rw.D) → rows.length ≤ 10 → (∀ R ∈ rows, RwOk (M + f) R) → (∃ R ∈ rows, R.set ≠ none) → Q (.ref a) H'
/-- one more row in a list -/
theorem row_step {K : PySem.W.Frag} {d c D p : Addr} {n m N : Nat} {H1 H3 H4 : Hp} {us : List V} {rows : List Rw} {v : V} {R : Rw} (nD : D ≠ d ∧ D ≠ c) (hD : H1 D = none) (hD3 : H3 D = some (.lst us)) (hU : DpAll K H3 us (rows.map Rw.D)) (hok : ∀ R ∈ rows, RwOk N R) (dk3 : Deck d c n H3) (X3 : Ext d c H1 H3) (dk4 : Deck d c m H4) (X4 : Ext d c H3 H4) (hv : Dp K H4 v R.D) (hR : RwOk N R) :
    H4 D = some (.lst us) ∧ DpAll K (upd H4 D (.lst (us ++ [v]))) (us ++ [v]) ((rows ++ [R]).map Rw.D) ∧ (∀ R' ∈ rows ++ [R], RwOk N R') ∧ Deck d c m (upd H4 D (.lst (us ++ [v]))) ∧ Ext d c H1 (upd H4 D (.lst (us ++ [v]))) := by
  have hD4 := X4.at nD.1 nD.2 hD3
  have ke := KT.lst (o := .lst (us ++ [v])) hD4
  refine ⟨hD4, ?_, fun R' h => ?_, dk4.upd nD.1 nD.2, (X3.trans X4).mut hD⟩
  · rw [List.map_append]
    exact dpAll_app (dpAll_kt ((ext_kt dk3 X4).trans ke) _ _ (nlRs rows) hU) (.cons (dp_kt ke _ _ (nlR R) hv) .nil)
  · rcases List.mem_append.mp h with z | z
    · exact hok R' z
    · rw [List.mem_singleton.mp z]
      exact hR
section
variable {P : Program} {w : World} {K : PySem.W.Frag} {mg : Str → Option Value} {base : Heap}
set_option pp.maxSteps 600 in
theorem c_first (T : Txt w K mg) : Cal P w K mg base "_law_first" 3 ["_law_deck_here", "_law_world_here", "_law_kit"] (spFirst K) := by
  obtain ⟨fd, F⟩ := T.d__law_first
  have C__law_word := c_word (P := P) (base := base) T
  have C__law_pick := c_pick (P := P) (base := base) T
  refine ⟨⟨fd, F.ok sc__law_first (fun vs H Q E h => ?_) (fun cdv A outer s H vs Q E hr h => ?_), F.bindsN fun _ _ _ _ _ _ us hl => match us, hl with | [_, _, _], _ => rfl⟩, T.g _ (by decide), F.kp⟩
  · obtain ⟨d, c, wd, kt, n, cnt, M, f, rfl, _⟩ := h
    rfl
  obtain ⟨d, c, wd, kt, n, cnt, M, f, rfl, hn, S, q⟩ := h
  have hu := hu_of hr
  refine ⟨_, PSs.nox (pss_cons (ps_setLc (i := 3) (own := [("_law_v", 4)]) (by rfl) sc__law_first.nd rfl rfl (sw_true rfl rfl rfl (by decide +kernel)) (pi_list (pe_slice (sl_listK (K := K) rfl) (pe_dget hu (pv 2) pe_str (fun _ _ => rfl)) (po_some (pe_dget hu (pv 2) pe_str (fun _ _ => rfl))) po_none)) (blkOk_by (own := [("_law_v", 4)]) (N := N__law_first) (sc := defScope s__law_first) (by decide +kernel)) (fun _ _ _ _ _ => (pg_name (i := 4) sc__law_first.nd rfl (.inl rfl))) (fun _ _ _ _ _ => pts_nil) (fun _ _ _ _ _ => (pe_tup (pa_cons pe_str (pa_cons (pv 4) (pa_cons (pe_cal C__law_word (hr.mono (by omega)) (by rfl) (pa_cons (pv 0) pa_nil)) pa_nil))))))
      (pss_one (ps_ret (pe_op op_cat (pv 3) (pe_lc (own := [("_law_v", 4)]) (by rfl) sc__law_first.nd (pi_list (pe_dget hu (pv 2) pe_str (fun _ _ => rfl))) (blkOk_by (own := [("_law_v", 4)]) (N := N__law_first) (sc := defScope s__law_first) (by decide +kernel)) (fun _ _ _ _ _ => (pg_name (i := 4) sc__law_first.nd rfl (.inl rfl))) (fun _ _ _ _ _ => pts_nil) (fun _ _ _ _ _ => (pe_tup (pa_cons pe_str (pa_cons (pv 4) (pa_cons (pe_tup (pa_cons pe_str (pa_cons (pe_ix (ix_P (K := K) rfl) (pe_cal C__law_pick (hr.mono (by omega)) (by rfl) (pa_cons (pv 0) (pa_cons (pe_slice (sl_listK (K := K) rfl) (pe_dget hu (pv 1) pe_str (fun _ _ => rfl)) (po_some pe_int) (po_some pe_int)) pa_nil))) pe_int (fun _ _ => rfl)) pa_nil))) pa_nil)))))))))), ?_⟩
  obtain ⟨pw, xw, dgw, sqw, low, hiw, pkw, exw⟩ := S.words
  have dgc := S.count
  have hM8 := S.kt.M8
  have hxl : xw.length = M := by rw [exw, List.length_map, List.length_range]
  refine ⟨.ref kt, rfl, kt, _, rfl, dgw, .ref kt, rfl, kt, _, rfl, dgc, _, rfl, pw, xw, rfl, offL sqw, fun p1 hp1 => ?_⟩
  have hcl : (cutV xw (some (cnt : Int)) none).length ≤ 8 := by
    unfold cutV
    rw [List.length_take, List.length_drop]
    omega
  have n1 := S.dk.has hp1
  have S1 := S.new (o := .lst (cutV xw (some (cnt : Int)) none)) hp1
  have e11 : (upd H p1 (.lst (cutV xw (some (cnt : Int)) none))) p1 = some (.lst (cutV xw (some (cnt : Int)) none)) := upd_same
  generalize upd H p1 (.lst (cutV xw (some (cnt : Int)) none)) = H1 at S1 e11 ⊢
  refine ⟨p1, rfl, ⟨_, .inl (.inl e11)⟩, fun D hD => ?_⟩
  have nD := S1.dk.has hD
  refine lc_list (xs := cutV xw (some (cnt : Int)) none) (fun i H3 => ∃ us rows, H3 D = some (.lst us) ∧ DpAll K H3 us (rows.map Rw.D) ∧ rows.length = i ∧ (∀ R ∈ rows, RwOk (M + f) R) ∧ Deck d c (n + i) H3 ∧ Ext d c H1 H3) ⟨[], [], upd_same, .nil, rfl, (fun _ h => nomatch h), S1.dk.new hD, Ext.new hD⟩ ?_ ?_ ?_
  · rintro i H3 _ ⟨us, rows, _, _, _, _, _, X3⟩
    exact .inl (.inl (X3.at n1.1 n1.2 e11))
  · rintro i x H3 hx ⟨us, rows, hD3, hU, hrl, hok, dk3, X3⟩
    obtain ⟨j, hj⟩ := List.getElem?_of_mem (cutV_sub (List.mem_of_getElem? hx))
    obtain ⟨v, hv, rfl⟩ := pkw j x hj
    have hi8 : i < 8 := Nat.lt_of_lt_of_le (List.getElem?_eq_some_iff.mp hx).1 hcl
    refine ⟨rfl, tyes ⟨_, rfl, .ref d, rfl, d, c, _, rfl, by omega, dk3, fun k H4 k0 k1 dk4 X4 => ⟨(by show 3 ≤ sizeLine; decide), fun p5 hp5 => ?_⟩⟩⟩
    obtain ⟨m1, m2, m3, m4, m5⟩ := row_step (p := p5) (R := .cw v k) nD hD hD3 hU hok dk3 X3 (dk4.new (o := .tup [.str "const", .int (v : Int), .int k]) hp5) (X4.trans (Ext.new hp5)) (dp_tupN hp5 (.cons (.str _) (.cons (.int _) (.cons (.int _) .nil)))) ⟨by omega, k0, k1⟩
    have hul := dpAll_len hU
    rw [List.length_map] at hul
    exact ⟨_, m1, small_line (by omega), _, rows ++ [_], upd_same, m2, by rw [List.length_append, hrl]; rfl, m3, m4, m5⟩
  rintro H3 ⟨us, rows, hD3, hU, hrl, hok, dk3, X3⟩
  have S3 := S1.step dk3 X3
  have hrl8 : rows.length ≤ 8 := by omega
  clear hrl
  -- the functions
  obtain ⟨pf, xf, dgf, sqf, lof, hif, pkf, hf2⟩ := S3.funcs
  refine ⟨.ref D, rfl, .ref kt, rfl, kt, _, rfl, dgf, pf, rfl, ⟨_, offL sqf⟩, fun D2 hD2 => ?_⟩
  have nD2 := S3.dk.has hD2
  have nDD : D ≠ D2 := ne_of_none hD3 hD2
  refine lc_list (xs := xf) (fun i H4 => ∃ us2 rows2, H4 D2 = some (.lst us2) ∧ DpAll K H4 us2 (rows2.map Rw.D) ∧ rows2.length = i ∧ (∀ R ∈ rows2, RwOk (M + f) R) ∧ (∀ R ∈ rows2, R.set ≠ none) ∧ Deck d c (n + 8 + i) H4 ∧ Ext d c H3 H4) ⟨[], [], upd_same, .nil, rfl, (fun _ h => nomatch h), (fun _ h => nomatch h), (S3.dk.new hD2).up (by omega), Ext.new hD2⟩ ?_ ?_ ?_
  · rintro i H4 _ ⟨us2, rows2, _, _, _, _, _, _, X4⟩
    exact offL (X4.sqL sqf)
  · rintro i x H4 hx ⟨us2, rows2, hD4, hU2, hrl2, hok2, hset2, dk4, X4⟩
    obtain ⟨v, hv, rfl⟩ := pkf i x hx
    have hi2 : i < 2 := Nat.lt_of_lt_of_le (List.getElem?_eq_some_iff.mp hx).1 hf2
    have S4 := S3.step dk4 X4
    obtain ⟨pca, xca, dgca, sqca, _, _, pkca, lca⟩ := S4.calls
    refine ⟨rfl, tyes ⟨_, rfl, .ref d, rfl, .ref wd, rfl, wd, _, rfl, dgca, 1, rfl, 3, rfl, pca, _, rfl, offL sqca, fun l5 hl5 => ?_⟩⟩
    have nl5 := S4.dk.has hl5
    have s5 := same_new (o := .lst (cutV xca (some 1) (some 3))) hl5
    have S5 := S4.same s5
    have el5 : (upd H4 l5 (.lst (cutV xca (some 1) (some 3)))) l5 = some (.lst (cutV xca (some 1) (some 3))) := upd_same
    generalize upd H4 l5 (.lst (cutV xca (some 1) (some 3))) = H5 at s5 S5 el5 ⊢
    refine ⟨d, c, l5, _, _, rfl, S5.dk, by omega, .inl (.inl (by rw [off_get nl5.1 nl5.2]; exact el5)), by omega, by omega, fun j6 y6 H6 hy6 dk6 X6 => ?_⟩
    obtain ⟨pC, hpC, _, gC⟩ := pkca y6 (cutV_sub (List.mem_of_getElem? hy6))
    have X46 : Ext d c H4 H6 := (off_same_mono s5).trans X6
    have gC := dp_mono (ext_all X46) _ _ gC
    refine ⟨_, 0, _, gC, rfl, rfl, fun z hz => ?_⟩
    cases hz
    refine ⟨(by show 2 ≤ sizeLine; decide), fun t7 ht7 => ⟨(by show 3 ≤ sizeLine; decide), fun t8 ht8 => ?_⟩⟩
    have s78 := (same_new (o := .tup [.str "func", .str pC.1]) ht7).trans (same_new (o := .tup [.str "const", .int (v : Int), .ref t7]) ht8)
    obtain ⟨m1, m2, m3, m4, m5⟩ := row_step (p := t8) (R := .cf v pC.1) nD2 hD2 hD4 hU2 hok2 dk4 X4 (dk6.same s78) (X46.trans (off_same_mono s78)) (dp_tupN ht8 (.cons (.str _) (.cons (.int _) (.cons (dp_tupN ht7 (.cons (.str _) (.cons (.str _) .nil))) .nil)))) ⟨hv, hpC⟩
    have hul := dpAll_len hU2
    rw [List.length_map] at hul
    exact ⟨_, m1, small_line (by omega), _, rows2 ++ [_], upd_same, m2, by rw [List.length_append, hrl2]; rfl, m3, (fun R' h => (List.mem_append.mp h).elim (hset2 R') fun z => by rw [List.mem_singleton.mp z]; exact fun e => nomatch e), m4, m5⟩
  rintro H4 ⟨us2, rows2, hD4, hU2, hrl2, hok2, hset2, dk4, X4⟩
  have S4 := S3.step dk4 X4
  have hul := dpAll_len hU
  have hul2 := dpAll_len hU2
  rw [List.length_map] at hul hul2
  refine ⟨D, D2, us, us2, rfl, rfl, X4.at nD.1 nD.2 hD3, hD4, by rw [sizeLine_eq]; omega, fun p9 hp9 => ?_⟩
  have s9 := same_new (o := .lst (us ++ us2)) hp9
  have S9 := S4.same s9
  refine q p9 (us ++ us2) (rows ++ rows2) _ ⟨S9.dk.up (by omega), S9.X, S9.wd, S9.kt⟩ (grow S4.X S4.dk hp9) upd_same ?_ (by rw [List.length_append]; omega) (fun R hR => ?_) ?_
  · rw [List.map_append]
    exact dpAll_app (dpAll_kt ((ext_kt S3.dk X4).trans (KT.of s9)) _ _ (nlRs rows) hU) (dpAll_mono s9 _ _ hU2)
  · rcases List.mem_append.mp hR with z | z
    · exact hok R z
    · exact hok2 R z
  · cases hr2 : rows2 with
    | nil => rw [hr2] at hrl2; have : (0 : Nat) = xf.length := hrl2; omega
    | cons R r => exact ⟨R, List.mem_append.mpr (.inr List.mem_cons_self), hset2 R (by rw [hr2]; exact List.mem_cons_self)⟩
end
end K51

set_option maxHeartbeats 4000000
namespace K51
open PySem PySem.Spec PyProof.Rows L2 HG P52
def spRow (K : PySem.W.Frag) : Sp := fun vs H Q _ => ∃ (d c wd kt : Addr) (n cnt M f : Nat), vs = [.ref d, .ref wd, .ref kt] ∧ n < 2 ^ 47 ∧ S52 K d c wd kt cnt M f n H H ∧
  ∀ (v : V) (R : Rw) (H' : Hp), S52 K d c wd kt cnt M f (n + 40) H H' → Dp K H' v R.D → RwOk (M + f) R → Q v H'
abbrev ops9 : List Str := ["add", "sub", "mul", "div", "rem", "div", "less", "same", "xor"]
theorem ops9_nm : ∀ z ∈ ops9, Nm z := by
  have : ∀ z ∈ ops9, z.length ≤ 12 ∧ ∀ c ∈ cp z, c < 128 := by decide +kernel
  exact fun z hz => ⟨(this z hz).1, (this z hz).2⟩
theorem S52.up {K : PySem.W.Frag} {d c wd kt : Addr} {cnt M f n m : Nat} {H0 H : Hp} (S : S52 K d c wd kt cnt M f n H0 H) (h : n ≤ m) : S52 K d c wd kt cnt M f m H0 H := ⟨S.dk.up h, S.X, S.wd, S.kt⟩
/-- [v, None, v][j] -/
theorem vnv {v j : Nat} {N : Nat} (hv : v < N) (hj : j < 3) : ∃ o : Option Nat, ([V.int (v : Int), V.non, V.int (v : Int)] : List V)[j]? = some (ovV o) ∧ optOk N o := by
  match j, hj with
  | 0, _ => exact ⟨some v, rfl, fun n h => by cases h; exact hv⟩
  | 1, _ => exact ⟨none, rfl, fun n h => by cases h⟩
  | 2, _ => exact ⟨some v, rfl, fun n h => by cases h; exact hv⟩
section
variable {P : Program} {w : World} {K : PySem.W.Frag} {mg : Str → Option Value} {base : Heap}
set_option pp.maxSteps 600 in
theorem c_row (T : Txt w K mg) : Cal P w K mg base "_law_row" 4 ["_law_deck_here", "_law_world_here", "_law_kit"] (spRow K) := by
  obtain ⟨fd, F⟩ := T.d__law_row
  have C__law_draw := c_draw (P := P) (base := base) T
  have C__law_word := c_word (P := P) (base := base) T
  have C__law_pick := c_pick (P := P) (base := base) T
  have C__law_operand := c_operand (P := P) (base := base) T
  have C__law_other_row := c_other (P := P) (base := base) T
  refine ⟨⟨fd, F.ok sc__law_row (fun vs H Q E h => ?_) (fun cdv A outer s H vs Q E hr h => ?_), F.bindsN fun _ _ _ _ _ _ us hl => match us, hl with | [_, _, _], _ => rfl⟩, T.g _ (by decide), F.kp⟩
  · obtain ⟨d, c, wd, kt, n, cnt, M, f, rfl, _⟩ := h
    rfl
  obtain ⟨d, c, wd, kt, n, cnt, M, f, rfl, hn, S, q⟩ := h
  have hu := hu_of hr
  refine ⟨_, PSs.nox (pss_cons (ps_par3 (i := 3) (j := 4) (l := 5) rfl sc__law_row.nd rfl rfl rfl (by decide) (by decide) (by decide) rfl rfl rfl (pa_cons (pe_cal C__law_draw (hr.mono (by omega)) (by rfl) (pa_cons (pv 0) (pa_cons pe_int pa_nil))) (pa_cons (pe_cal C__law_operand (hr.mono (by omega)) (by rfl) (pa_cons (pv 0) (pa_cons (pv 2) pa_nil))) (pa_cons (pe_cal C__law_operand (hr.mono (by omega)) (by rfl) (pa_cons (pv 0) (pa_cons (pv 2) pa_nil))) pa_nil))) (by rfl))
      (pss_cons (ps_par (i := 6) (j := 7) rfl sc__law_row.nd rfl rfl (by decide) rfl rfl (pa_cons (pe_cal C__law_pick (hr.mono (by omega)) (by rfl) (pa_cons (pv 0) (pa_cons (pe_slice (sl_listK (K := K) rfl) (pe_dget hu (pv 2) pe_str (fun _ _ => rfl)) (po_some (pe_dget hu (pv 2) pe_str (fun _ _ => rfl))) po_none) pa_nil))) (pa_cons (pe_cal C__law_pick (hr.mono (by omega)) (by rfl) (pa_cons (pv 0) (pa_cons (pe_dget hu (pv 2) pe_str (fun _ _ => rfl)) pa_nil))) pa_nil)) (by rfl))
      (pss_cons (ps_set (i := 8) sc__law_row.nd rfl (.inl rfl) (pe_tup (pa_cons pe_str (pa_cons (pv 6) (pa_cons (pe_cal C__law_word (hr.mono (by omega)) (by rfl) (pa_cons (pv 0) pa_nil)) pa_nil)))))
      (pss_cons (ps_if (pt_cmpR (op_in_seqK (K := K) rfl) (pv 3) (pe_tup (pa_cons pe_int (pa_cons pe_int pa_nil))) (by rfl)) (pss_one (ps_set (i := 8) sc__law_row.nd rfl (.inl rfl) (pe_tup (pa_cons pe_str (pa_cons (pv 6) (pa_cons (pe_cal C__law_pick (hr.mono (by omega)) (by rfl) (pa_cons (pv 0) (pa_cons (pe_dget hu (pv 2) pe_str (fun _ _ => rfl)) pa_nil))) pa_nil)))))) (pss_one (ps_if (pt_cmpR (op_in_seqK (K := K) rfl) (pv 3) (pe_tup (pa_cons pe_int (pa_cons pe_int (pa_cons pe_int pa_nil)))) (by rfl)) (pss_one (ps_set (i := 8) sc__law_row.nd rfl (.inl rfl) (pe_tup (pa_cons pe_str (pa_cons (pv 6) (pa_cons (pe_cal C__law_pick (hr.mono (by omega)) (by rfl) (pa_cons (pv 0) (pa_cons (pe_lst (pa_cons pe_str (pa_cons pe_str (pa_cons pe_str (pa_cons pe_str (pa_cons pe_str (pa_cons pe_str (pa_cons pe_str (pa_cons pe_str (pa_cons pe_str pa_nil)))))))))) pa_nil))) (pa_cons (pv 4) (pa_cons (pv 5) pa_nil)))))))) (pss_one (ps_if (pt_cmpR (op_in_seqK (K := K) rfl) (pv 3) (pe_tup (pa_cons pe_int (pa_cons pe_int pa_nil))) (by rfl)) (pss_cons (ps_set (i := 8) sc__law_row.nd rfl (.inl rfl) (pe_tup (pa_cons pe_str (pa_cons (pv 6) (pa_cons (pe_cal C__law_pick (hr.mono (by omega)) (by rfl) (pa_cons (pv 0) (pa_cons (pe_dget hu (pv 1) pe_str (fun _ _ => rfl)) pa_nil))) pa_nil)))))
      (pss_one (ps_if (pt_cmpR op_eq (pv 3) pe_int (nomark _)) (pss_one (ps_set (i := 8) sc__law_row.nd rfl (.inl rfl) (pe_tup (pa_cons pe_str (pa_cons (pv 6) (pa_cons (pe_ix (ix_P (K := K) rfl) (pe_cal C__law_pick (hr.mono (by omega)) (by rfl) (pa_cons (pv 0) (pa_cons (pe_dget hu (pv 1) pe_str (fun _ _ => rfl)) pa_nil))) pe_int (fun _ _ => rfl)) (pa_cons (pv 4) pa_nil))))))) pss_nil))) (pss_one (ps_if (pt_cmpR (op_in_seqK (K := K) rfl) (pv 3) (pe_tup (pa_cons pe_int (pa_cons pe_int pa_nil))) (by rfl)) (pss_cons (ps_asg (pe_cal C__law_pick (hr.mono (by omega)) (by rfl) (pa_cons (pv 0) (pa_cons (pe_dget hu (pv 1) pe_str (fun _ _ => rfl)) pa_nil))) (pg_tupK (K := K) (n := 2) rfl rfl (pgs_cons (pg_name (i := 9) sc__law_row.nd rfl (.inl rfl)) (pgs_cons (pg_name (i := 10) sc__law_row.nd rfl (.inl rfl)) pgs_nil))))
      (pss_one (ps_set (i := 8) sc__law_row.nd rfl (.inl rfl) (pe_tup (pa_cons pe_str (pa_cons (pe_ix (ix_listK (K := K) rfl) (pe_lst (pa_cons (pv 6) (pa_cons pe_non (pa_cons (pv 6) pa_nil)))) (pe_cal C__law_draw (hr.mono (by omega)) (by rfl) (pa_cons (pv 0) (pa_cons pe_int pa_nil))) (fun _ _ => rfl)) (pa_cons (pv 9) (pa_cons (pe_slice (sl_P (K := K) rfl) (pe_tup (pa_cons (pv 4) (pa_cons (pv 5) pa_nil))) po_none (po_some (pv 10))) pa_nil)))))))) (pss_one (ps_if (pt_cmpR op_eq (pv 3) pe_int (nomark _)) (pss_one (ps_set (i := 8) sc__law_row.nd rfl (.inl rfl) (pe_tup (pa_cons pe_str (pa_cons (pe_ix (ix_listK (K := K) rfl) (pe_lst (pa_cons (pv 6) (pa_cons pe_non (pa_cons (pv 6) pa_nil)))) (pe_cal C__law_draw (hr.mono (by omega)) (by rfl) (pa_cons (pv 0) (pa_cons pe_int pa_nil))) (fun _ _ => rfl)) (pa_cons (pv 7) (pa_cons (pe_tup (pa_cons (pv 4) pa_nil)) pa_nil))))))) (pss_one (ps_if (pt_cmpR op_gt (pv 3) pe_int (nomark _)) (pss_one (ps_set (i := 8) sc__law_row.nd rfl (.inl rfl) (pe_cal C__law_other_row (hr.mono (by omega)) (by rfl) (pa_cons (pv 0) (pa_cons (pv 1) (pa_cons (pv 2) (pa_cons (pv 4) (pa_cons (pv 5) pa_nil)))))))) pss_nil)))))))))))
      (pss_one (ps_ret (pv 8))))))), ?_⟩
  refine ⟨.ref d, rfl, d, c, _, 15, rfl, by decide, by decide, by omega, S.dk, fun r1 H1 r10 r11 dk1 X1 => ?_⟩
  obtain ⟨way, rfl⟩ := Int.eq_ofNat_of_zero_le r10
  have S1 := S.step dk1 X1
  refine ⟨.ref d, rfl, .ref kt, rfl, d, c, kt, _, cnt, M, f, rfl, by omega, dk1, S1.kt, fun v1 a1 H2 dk2 X2 g1 o1 => ?_⟩
  have S2 := S1.step dk2 X2
  refine ⟨.ref d, rfl, .ref kt, rfl, d, c, kt, _, cnt, M, f, rfl, by omega, dk2, S2.kt, fun v2 a2 H3 dk3 X3 g2 o2 => ?_⟩
  have S3 := S2.step dk3 X3
  have g1 := dp_kt (ext_kt dk2 X3) _ _ (nlO a1) g1
  have u1 := opd_up o1 (show M ≤ M + f by omega)
  have u2 := opd_up o2 (show M ≤ M + f by omega)
  refine ⟨_, _, _, rfl, ?_⟩
  -- v, f
  obtain ⟨pw, xw, dgw, sqw, low, hiw, pkw, exw⟩ := S3.words
  have dgc := S3.count
  have hM8 := S3.kt.M8
  have hlt := S3.kt.lt
  have hxl : xw.length = M := by rw [exw, List.length_map, List.length_range]
  refine ⟨.ref d, rfl, .ref kt, rfl, kt, _, rfl, dgw, .ref kt, rfl, kt, _, rfl, dgc, _, rfl, pw, xw, rfl, offL sqw, fun p4 hp4 => ?_⟩
  have hcl : (cutV xw (some (cnt : Int)) none).length = M - cnt := by
    unfold cutV
    rw [HT.sIx_nat, show HT.sIx xw.length xw.length none = xw.length from rfl, List.length_take, List.length_drop]
    omega
  have n4 := S3.dk.has hp4
  have s4 := same_new (o := .lst (cutV xw (some (cnt : Int)) none)) hp4
  have S4 := S3.same s4
  have e44 : (upd H3 p4 (.lst (cutV xw (some (cnt : Int)) none))) p4 = some (.lst (cutV xw (some (cnt : Int)) none)) := upd_same
  generalize upd H3 p4 (.lst (cutV xw (some (cnt : Int)) none)) = H4 at s4 S4 e44 ⊢
  refine ⟨d, c, p4, _, _, rfl, S4.dk, by omega, .inl (.inl (by rw [off_get n4.1 n4.2]; exact e44)), by omega, by omega, fun j5 y5 H5 hy5 dk5 X5 => ?_⟩
  obtain ⟨i5, hi5⟩ := List.getElem?_of_mem (cutV_sub (List.mem_of_getElem? hy5))
  obtain ⟨v, hv, rfl⟩ := pkw i5 y5 hi5
  have S5 := S4.step dk5 X5
  obtain ⟨pf, xf, dgf, sqf, lof, hif, pkf, hf2⟩ := S5.funcs
  refine ⟨.ref d, rfl, .ref kt, rfl, kt, _, rfl, dgf, d, c, pf, _, xf, rfl, S5.dk, by omega, sqf, lof, hif, fun j6 y6 H6 hy6 dk6 X6 => ?_⟩
  obtain ⟨jf, hjf, rfl⟩ := pkf j6 y6 hy6
  have S6 := S5.step dk6 X6
  refine ⟨_, _, rfl, ?_⟩
  have k36 : KT H3 H6 := ((KT.of s4).trans (ext_kt S4.dk X5)).trans (ext_kt S5.dk X6)
  have g1 := dp_kt k36 _ _ (nlO a1) g1
  have g2 := dp_kt k36 _ _ (nlO a2) g2
  have hvN : v < M + f := by omega
  -- row = ('const', ..)
  refine ⟨_, rfl, .ref d, rfl, d, c, _, rfl, by omega, S6.dk, fun wv H7 w0 w1 dk7 X7 => ⟨(by show 3 ≤ sizeLine; decide), fun p8 hp8 => ?_⟩⟩
  have S7 := S6.step dk7 X7
  have s8 := same_new (o := .tup [.str "const", .int (v : Int), .int wv]) hp8
  have S8 := S7.same s8
  have k68 : KT H6 (upd H7 p8 (.tup [.str "const", .int (v : Int), .int wv])) := (ext_kt S6.dk X7).trans (KT.of s8)
  have g1 := dp_kt k68 _ _ (nlO a1) g1
  have g2 := dp_kt k68 _ _ (nlO a2) g2
  have gc : Dp K (upd H7 p8 (.tup [.str "const", .int (v : Int), .int wv])) (.ref p8) (Rw.cw v wv).D := dp_tupN hp8 (.cons (.str _) (.cons (.int _) (.cons (.int _) .nil)))
  generalize upd H7 p8 (.tup [.str "const", .int (v : Int), .int wv]) = H8 at S8 k68 g1 g2 gc ⊢
  -- the end
  have fin : ∀ (z : V) (R : Rw) (H9 : Hp) (m : Nat), S52 K d c wd kt cnt M f m H H9 → m ≤ n + 40 → Dp K H9 z R.D → RwOk (M + f) R → Q z H9 := fun z R H9 m S9 hm hz hR => q z R H9 (S9.up hm) hz hR
  -- way in (1, 2)
  refine ⟨_, rfl, (by show 2 ≤ sizeLine; decide), fun p9 hp9 => ⟨_, _, rfl, .inr (.inl (.inl upd_same)), rfl, rfl, _, rfl, ?_⟩⟩
  have s9 := same_new (o := .tup [.int 1, .int 2]) hp9
  have S9 := S8.same s9
  have g1 := dp_mono s9 _ _ g1
  have g2 := dp_mono s9 _ _ g2
  have gc := dp_mono s9 _ _ gc
  generalize upd H8 p9 (.tup [.int 1, .int 2]) = H9 at s9 S9 g1 g2 gc ⊢
  show if inV (.int (way : Int)) [.int 1, .int 2] = true then _ else _
  cases hb1 : inV (.int (way : Int)) [.int 1, .int 2] with
  | true =>
    obtain ⟨pa, xs, dg, sq, lo, hi, pk, _⟩ := S9.words
    refine iteT ⟨_, rfl, .ref d, rfl, .ref kt, rfl, kt, _, rfl, dg, d, c, pa, _, xs, rfl, S9.dk, by omega, sq, lo, hi, fun j y H10 hy dk10 X10 => ?_⟩
    obtain ⟨i, hi2, rfl⟩ := pk j y hy
    have S10 := S9.step dk10 X10
    refine ⟨(by show 3 ≤ sizeLine; decide), fun p hp => ⟨_, rfl, fin _ (.cp v i) _ _ (S10.new hp) (by omega) (dp_tupN hp (.cons (.str _) (.cons (.int _) (.cons (.int _) .nil)))) ⟨hvN, by omega⟩⟩⟩
  | false =>
    refine iteF ⟨_, rfl, (by show 3 ≤ sizeLine; decide), fun p10 hp10 => ⟨_, _, rfl, .inr (.inl (.inl upd_same)), rfl, rfl, _, rfl, ?_⟩⟩
    have s10 := same_new (o := .tup [.int 3, .int 4, .int 5]) hp10
    have S10 := S9.same s10
    have g1 := dp_mono s10 _ _ g1
    have g2 := dp_mono s10 _ _ g2
    have gc := dp_mono s10 _ _ gc
    generalize upd H9 p10 (.tup [.int 3, .int 4, .int 5]) = H10 at s10 S10 g1 g2 gc ⊢
    show if inV (.int (way : Int)) [.int 3, .int 4, .int 5] = true then _ else _
    cases hb2 : inV (.int (way : Int)) [.int 3, .int 4, .int 5] with
    | true =>
      refine iteT ⟨_, rfl, .ref d, rfl, (by show 9 ≤ sizeLine; decide), fun p11 hp11 => ?_⟩
      have n11 := S10.dk.has hp11
      have s11 := same_new (o := .lst (ops9.map V.str)) hp11
      have S11 := S10.same s11
      refine ⟨d, c, p11, _, ops9.map V.str, rfl, S11.dk, by omega, .inl (.inl (by rw [off_get n11.1 n11.2]; exact upd_same)), (by decide), (by decide), fun j y H12 hy dk12 X12 => ?_⟩
      rw [List.getElem?_map] at hy
      obtain ⟨z, hz, rfl⟩ := Option.map_eq_some_iff.mp hy
      have hzn := ops9_nm z (List.mem_of_getElem? hz)
      have S12 := S11.step dk12 X12
      have k12 := (KT.of s11).trans (ext_kt S11.dk X12)
      refine ⟨v1, rfl, v2, rfl, (by show 5 ≤ sizeLine; decide), fun p hp => ⟨_, rfl, fin _ (.op v z a1 a2) _ _ (S12.new hp) (by omega) (dp_tupN hp (.cons (.str _) (.cons (.int _) (.cons (.str _) (.cons (dp_kt k12 _ _ (nlO a1) g1) (.cons (dp_kt k12 _ _ (nlO a2) g2) .nil)))))) ⟨hvN, hzn, u1, u2⟩⟩⟩
    | false =>
      refine iteF ⟨_, rfl, (by show 2 ≤ sizeLine; decide), fun p11 hp11 => ⟨_, _, rfl, .inr (.inl (.inl upd_same)), rfl, rfl, _, rfl, ?_⟩⟩
      have s11 := same_new (o := .tup [.int 6, .int 7]) hp11
      have S11 := S10.same s11
      have g1 := dp_mono s11 _ _ g1
      have g2 := dp_mono s11 _ _ g2
      have gc := dp_mono s11 _ _ gc
      generalize upd H10 p11 (.tup [.int 6, .int 7]) = H11 at s11 S11 g1 g2 gc ⊢
      show if inV (.int (way : Int)) [.int 6, .int 7] = true then _ else _
      cases hb3 : inV (.int (way : Int)) [.int 6, .int 7] with
      | true =>
        obtain ⟨pa, xs, dg, sq, lo, hi, pk⟩ := S11.cells
        refine iteT ⟨_, rfl, .ref d, rfl, .ref wd, rfl, wd, _, rfl, dg, d, c, pa, _, xs, rfl, S11.dk, by omega, sq, lo, hi, fun j y H12 hy dk12 X12 => ?_⟩
        obtain ⟨z, hz, rfl⟩ := pk j y hy
        have S12 := S11.step dk12 X12
        refine ⟨(by show 3 ≤ sizeLine; decide), fun p13 hp13 => ?_⟩
        have s13 := same_new (o := .tup [.str "load", .int (v : Int), .str z]) hp13
        have S13 := S12.same s13
        have k13 := (ext_kt S11.dk X12).trans (KT.of s13)
        have g1 := dp_kt k13 _ _ (nlO a1) g1
        have gl : Dp K (upd H12 p13 (.tup [.str "load", .int (v : Int), .str z])) (.ref p13) (Rw.ld v z).D := dp_tupN hp13 (.cons (.str _) (.cons (.int _) (.cons (.str _) .nil)))
        generalize upd H12 p13 (.tup [.str "load", .int (v : Int), .str z]) = H13 at s13 S13 g1 gl ⊢
        refine ⟨_, rfl, rfl, _, rfl, ?_⟩
        cases hb4 : decide (V.int (way : Int) = V.int 7) with
        | false => exact iteF ⟨_, rfl, fin _ (.ld v z) _ _ S13 (by omega) gl ⟨hvN, hz⟩⟩
        | true =>
          obtain ⟨pa2, xs2, dg2, sq2, lo2, hi2, pk2⟩ := S13.arrays
          refine iteT ⟨_, rfl, .ref d, rfl, .ref wd, rfl, wd, _, rfl, dg2, d, c, pa2, _, xs2, rfl, S13.dk, by omega, sq2, lo2, hi2, fun j y H14 hy dk14 X14 => ?_⟩
          obtain ⟨pA, hpA, gA⟩ := pk2 j y hy
          have gA := dp_mono (ext_all X14) _ _ gA
          have S14 := S13.step dk14 X14
          refine ⟨_, 0, _, gA, rfl, rfl, fun z hz => ?_⟩
          cases hz
          refine ⟨v1, rfl, (by show 4 ≤ sizeLine; decide), fun p hp => ⟨_, rfl, fin _ (.rd v pA.1 a1) _ _ (S14.new hp) (by omega) (dp_tupN hp (.cons (.str _) (.cons (.int _) (.cons (.str _) (.cons (dp_kt (ext_kt S13.dk X14) _ _ (nlO a1) g1) .nil))))) ⟨hvN, hpA, u1⟩⟩⟩
      | false =>
        refine iteF ⟨_, rfl, (by show 2 ≤ sizeLine; decide), fun p12 hp12 => ⟨_, _, rfl, .inr (.inl (.inl upd_same)), rfl, rfl, _, rfl, ?_⟩⟩
        have s12 := same_new (o := .tup [.int 8, .int 9]) hp12
        have S12 := S11.same s12
        have g1 := dp_mono s12 _ _ g1
        have g2 := dp_mono s12 _ _ g2
        have gc := dp_mono s12 _ _ gc
        generalize upd H11 p12 (.tup [.int 8, .int 9]) = H12 at s12 S12 g1 g2 gc ⊢
        show if inV (.int (way : Int)) [.int 8, .int 9] = true then _ else _
        cases hb4 : inV (.int (way : Int)) [.int 8, .int 9] with
        | true =>
          obtain ⟨pca, xca, dgca, sqca, loc, hic, pkca, lca⟩ := S12.calls
          refine iteT ⟨.ref d, rfl, .ref wd, rfl, wd, _, rfl, dgca, d, c, pca, _, xca, rfl, S12.dk, by omega, sqca, loc, hic, fun j y H13 hy dk13 X13 => ?_⟩
          obtain ⟨pC, hpC, hp2, gC⟩ := pkca y (List.mem_of_getElem? hy)
          have gC := dp_mono (ext_all X13) _ _ gC
          have S13 := S12.step dk13 X13
          have g1 := dp_kt (ext_kt S12.dk X13) _ _ (nlO a1) g1
          have g2 := dp_kt (ext_kt S12.dk X13) _ _ (nlO a2) g2
          cases gC with
          | @tup ac xc _ sqc hac =>
            cases hac with
            | cons x0 r0 =>
              cases r0 with
              | cons x1 r1 =>
                cases r1
                cases x0
                cases x1
                refine ⟨ac, _, rfl, sqc, rfl, _, _, rfl, _, _, rfl, rfl, ?_⟩
                refine ⟨_, rfl, _, rfl, (by show 3 ≤ sizeLine; decide), fun p14 hp14 => ?_⟩
                have n14 := S13.dk.has hp14
                have s14 := same_new (o := .lst [.int (v : Int), .non, .int (v : Int)]) hp14
                have S14 := S13.same s14
                have e14 : (upd H13 p14 (.lst [.int (v : Int), .non, .int (v : Int)])) p14 = some (.lst [.int (v : Int), .non, .int (v : Int)]) := upd_same
                refine ⟨.ref d, rfl, d, c, _, 3, rfl, by decide, by decide, by omega, S14.dk, fun r15 H15 r0 r1 dk15 X15 => ?_⟩
                obtain ⟨j15, rfl⟩ := Int.eq_ofNat_of_zero_le r0
                obtain ⟨o, ho, hok⟩ := vnv (v := v) (j := j15) hvN (by omega)
                have S15 := S14.step dk15 X15
                have k15 := (KT.of s14).trans (ext_kt S14.dk X15)
                have g1 := dp_kt k15 _ _ (nlO a1) g1
                have g2 := dp_kt k15 _ _ (nlO a2) g2
                refine ⟨p14, _, _, _, rfl, rfl, .inl (.inl (X15.at n14.1 n14.2 e14)), atI_nat ho, _, rfl, v1, rfl, v2, rfl, (by show 2 ≤ sizeLine; decide), fun p16 hp16 => ?_⟩
                have s16 := same_new (o := .tup [v1, v2]) hp16
                have S16 := S15.same s16
                refine ⟨_, rfl, (pC.2 : Int), rfl, [oD a1, oD a2], dp_tupN hp16 (.cons g1 (.cons g2 .nil)), fun z17 H17 s17 h17 => ⟨(by show 4 ≤ sizeLine; decide), fun p hp => ?_⟩⟩
                rw [cutP_to] at h17
                have em : [oD a1, oD a2].take pC.2 = (([a1, a2] : List Opd).take pC.2).map oD := by rw [List.map_take]; rfl
                rw [em] at h17
                refine ⟨_, rfl, fin _ (.ca o pC.1 (([a1, a2] : List Opd).take pC.2)) _ _ ((S16.same s17).new hp) (by omega) (dp_tupN hp (.cons (.str _) (.cons (ov_dp o) (.cons (.str _) (.cons h17 .nil))))) ⟨hok, hpC, ?_, fun a ha => ?_⟩⟩
                · rw [List.length_take]
                  show min pC.2 2 ≤ 2
                  omega
                · have := List.mem_of_mem_take ha
                  simp only [List.mem_cons, List.not_mem_nil, or_false] at this
                  rcases this with rfl | rfl
                  · exact u1
                  · exact u2
        | false =>
          refine iteF ⟨_, rfl, rfl, _, rfl, ?_⟩
          cases hb5 : decide (V.int (way : Int) = V.int 10) with
          | true =>
            refine iteT ⟨_, rfl, _, rfl, (by show 3 ≤ sizeLine; decide), fun p14 hp14 => ?_⟩
            have n14 := S12.dk.has hp14
            have s14 := same_new (o := .lst [.int (v : Int), .non, .int (v : Int)]) hp14
            have S14 := S12.same s14
            have e14 : (upd H12 p14 (.lst [.int (v : Int), .non, .int (v : Int)])) p14 = some (.lst [.int (v : Int), .non, .int (v : Int)]) := upd_same
            refine ⟨.ref d, rfl, d, c, _, 3, rfl, by decide, by decide, by omega, S14.dk, fun r15 H15 r0 r1 dk15 X15 => ?_⟩
            obtain ⟨j15, rfl⟩ := Int.eq_ofNat_of_zero_le r0
            obtain ⟨o, ho, hok⟩ := vnv (v := v) (j := j15) hvN (by omega)
            have S15 := S14.step dk15 X15
            have k15 := (KT.of s14).trans (ext_kt S14.dk X15)
            have g1 := dp_kt k15 _ _ (nlO a1) g1
            refine ⟨p14, _, _, _, rfl, rfl, .inl (.inl (X15.at n14.1 n14.2 e14)), atI_nat ho, _, rfl, v1, rfl, (by show 1 ≤ sizeLine; decide), fun p16 hp16 => ⟨(by show 4 ≤ sizeLine; decide), fun p hp => ?_⟩⟩
            have s16 := same_new (o := .tup [v1]) hp16
            have S16 := S15.same s16
            refine ⟨_, rfl, fin _ (.ap o jf [a1]) _ _ (S16.new hp) (by omega) (dp_tupN hp (.cons (.str _) (.cons (ov_dp o) (.cons (.int _) (.cons (dp_tupN hp16 (.cons g1 .nil)) .nil))))) ⟨hok, hjf, by show 1 ≤ 2; decide, fun a ha => by rw [List.mem_singleton.mp ha]; exact u1⟩⟩
          | false =>
            refine iteF ⟨_, rfl, _, _, rfl, rfl, _, rfl, ?_⟩
            show if decide ((10 : Int) < (way : Int)) = true then _ else _
            cases hb6 : decide ((10 : Int) < (way : Int)) with
            | true =>
              refine iteT ⟨.ref d, rfl, .ref wd, rfl, .ref kt, rfl, v1, rfl, v2, rfl, d, c, wd, kt, _, cnt, M, f, v1, v2, a1, a2, rfl, by omega, ⟨S12.dk, Ext.refl _, S12.wd, S12.kt⟩, g1, g2, o1, o2, fun z R H13 S13 hz hR => ?_⟩
              exact ⟨_, rfl, fin z R H13 _ ⟨S13.dk, S12.X.trans S13.X, S13.wd, S13.kt⟩ (by omega) hz hR⟩
            | false => exact iteF ⟨_, rfl, fin _ (.cw v wv) _ _ S12 (by omega) gc ⟨hvN, w0, w1⟩⟩
end
end K51

set_option maxHeartbeats 4000000
/-! HM: for k, x in enumerate(tuple). -/
namespace HG
open PySem PySem.Spec PyProof.Rows L2
theorem meets_enumerate_newT (t : Addr) (items : Array Value) (n : Nat) (dct : Option Addr) (sl : Array (Option Value)) :
    Meets (Builtin.«enumerate.__new__» ⟨[.type "enumerate", .ref t], []⟩) (fun _ R s => s.heap.get? t = some { cls := .type "tuple", dict := dct, data := .seq items n, slots := sl } ∧
      R (.ok (.ret (.ref (s.heap.push { cls := .type "tuple_iterator", data := .fields #[.ref t, .int 0 0] }).objs.size)))
        { s with heap := (s.heap.push { cls := .type "tuple_iterator", data := .fields #[.ref t, .int 0 0] }).push { cls := .type "enumerate", data := .fields #[.none, .bool false, .ref s.heap.objs.size, rawInt 0, .none, .none] } }) :=
  .of_wp fun prog w A R s h => by
    obtain ⟨hp, g, d, tk, os⟩ := s; obtain ⟨hl, h⟩ := h
    have hsub := sub_enumerate
    have hT : Heap.IsTuple (Shared.heap ⟨hp, g, d, tk, os⟩) t items := ⟨_, hl, rfl, n, rfl⟩
    have q1 : ∀ {A' : Around} {E : Value → Shared → Prop} {Q : Value → Shared → Prop}, Q (.ref hp.objs.size) ⟨hp.push { cls := .type "tuple_iterator", data := .fields #[.ref t, .int 0 0] }, g, d, tk, os⟩ → wpAny (model prog w) A' (pyIter (.ref t)) Q E ⟨hp, g, d, tk, os⟩ :=
      fun q => wpAny_pyIter_tuple hT q
    wp_walk using q1
    refine wpAny_stack_any fun st => wpAny_pure ?_
    split
    · rename_i c _ _ _ _ _
      cases (c == Value.type "enumerate")
      · wp_walk using q1
        exact ⟨_, rfl, h⟩
      · wp_walk using q1
        exact ⟨_, rfl, h⟩
    · wp_walk using q1
      exact ⟨_, rfl, h⟩
theorem call_enumerate_tup {prog : Program} {w : World} {A : Around} {E : Value → Shared → Prop} {s : Shared} {l : Addr} {items : Array Value} {Q : Value → Shared → Prop} (hL : s.heap.IsTuple l items)
    (h : ∀ h', IsEnum h' (s.heap.objs.size + 1) s.heap.objs.size 0 .none → h'.IsTupleIter s.heap.objs.size l 0 → h'.objs.size = s.heap.objs.size + 2 →
      (∀ b o, s.heap.get? b = some o → h'.get? b = some o) → Q (.ref (s.heap.objs.size + 1)) { s with heap := h' }) :
    wpAny (model prog w) A (call (.type "enumerate") [.ref l]) Q E s := by
  obtain ⟨⟨c, dct, dt, sl⟩, hl, hc, n, hd⟩ := hL
  replace hc : c = .type "tuple" := hc
  replace hd : dt = .seq items n := hd
  subst hc hd
  refine callType_new F.called_enumerate (by decide) (F.typeCall_enumerate_1 _) (F.newCall_enumerate_1 _) (fun obj => F.args_object_init_2 obj _) F.entry_enumerate_new
    (meets_enumerate_newT l items n dct sl) ⟨hl, ?_⟩
  have hz : (s.heap.push { cls := .type "tuple_iterator", data := .fields #[.ref l, .int 0 0] }).objs.size = s.heap.objs.size + 1 := Heap.size_push ..
  show _ ∧ _
  rw [hz]
  have he : IsEnum ((s.heap.push { cls := .type "tuple_iterator", data := .fields #[.ref l, .int 0 0] }).push
      { cls := .type "enumerate", data := .fields #[.none, .bool false, .ref s.heap.objs.size, rawInt 0, .none, .none] }) (s.heap.objs.size + 1) s.heap.objs.size 0 .none := by
    have := Heap.get?_push_size (s.heap.push { cls := .type "tuple_iterator", data := .fields #[.ref l, .int 0 0] })
      (o := { cls := .type "enumerate", data := .fields #[.none, .bool false, .ref s.heap.objs.size, rawInt 0, .none, .none] }) rfl
    rw [hz] at this; exact this
  refine ⟨⟨_, he, rfl⟩, h _ he ⟨_, Heap.get?_push_of_some _ (Heap.get?_push_size _ rfl), rfl, rfl⟩ (by rw [Heap.size_push, hz]) fun b o x => Heap.get?_push_of_some _ (Heap.get?_push_of_some _ x)⟩
def IteT (K : PySem.W.Frag) (a : Addr) : It :=
  ⟨fun i H => ∃ (xs : List V) (x : V), SqT K H a xs ∧ xs[i]? = some x, fun i H v H' => ∃ T x, v = .ref T ∧ H T = none ∧ H' = upd H T (.tup [.int (i : Nat), x]) ∧ ∀ xs, SqT K H a xs → xs[i]? = some x, fun i H => ∃ xs : List V, SqT K H a xs ∧ xs.length ≤ i⟩
theorem turn_enumT {P : Program} {w : World} {K : PySem.W.Frag} {elts : List Expr} {kk : Nat} {tpos : Pos} (a e it : Addr) :
    Turn P w K (.Tuple elts kk tpos) (IteT K a) [e, it] e (fun i h => (∃ old, IsEnum h e it ((i : Nat) : Int) old) ∧ h.IsTupleIter it a i ∧ e ≠ it) where
  mem := by simp
  obj := fun i h st b hb => by
    obtain ⟨⟨old, he⟩, ⟨o, ho, hc, hd⟩, _⟩ := st
    have e' : b = e ∨ b = it := by simpa using hb
    rcases e' with z | z
    · rw [z]; exact ⟨_, he, fun v q => nomatch q⟩
    · rw [z]; exact ⟨o, ho, fun v q => by rw [hd] at q; cases q⟩
  keep := fun i h h' st k => let ⟨⟨old, he⟩, hi, hne⟩ := st; ⟨⟨old, k e (by simp) _ he⟩, hi.at fun o q => k it (by simp) o q, hne⟩
  item := by
    intro X hP hw hK hc i pins s σ H E I hf st hg
    subst hP hw hK
    obtain ⟨⟨old, he⟩, hit, hne⟩ := st
    obtain ⟨xs, x, hq, hx⟩ := hg
    obtain ⟨its, rv, p, hz⟩ := I.tuple hq
    obtain ⟨u, hu, ru⟩ := rv.get hx
    have hel : e < s.heap.objs.size := Heap.lt_size he
    have hil : it < s.heap.objs.size := by obtain ⟨_, q, _⟩ := hit; exact Heap.lt_size q
    have hai : a ≠ it := fun z => by
      obtain ⟨o, q, c1, _⟩ := hit
      obtain ⟨o2, q2, c2, _⟩ := p
      rw [z] at q2
      rw [q] at q2
      cases q2
      rw [c1] at c2
      exact absurd c2 (by decide)
    have hae : a ≠ e := fun z => by
      obtain ⟨o2, q2, c2, _⟩ := p
      rw [z] at q2
      have he' : s.heap.get? e = some _ := he
      rw [he'] at q2
      cases q2
      exact absurd (show Value.type "enumerate" = Value.type "tuple" from c2) (by decide)
    have hlt : i < its.toArray.size := by
      have := (List.getElem?_eq_some_iff.mp hu).1
      simpa using this
    refine wpAny_pyNext_enum_itemD (Draws.tuple (A := X.A.in1) (I.ok.hd hc) it a hai its.toArray) he ⟨hit, p⟩ hlt hne (by simp; exact ⟨hne, fun z => hae z.symm⟩) fun u' h' tk hu' ho hst hT hsz hk => ?_
    obtain ⟨hit', _⟩ := hst
    have eu : u' = u := by
      have h1 : its.toArray[i]? = some u' := hu'
      have h2 : its.toArray[i]? = some u := by simpa using hu
      rw [h2] at h1
      cases h1
      rfl
    subst eu
    refine ⟨_, rfl, wpAny_letOwnedTupleGo_enum (s := { s with heap := h', toks := tk + 1 }) ho fun h'' he' sb => ?_⟩
    have hT2 : h''.get? s.heap.objs.size = some { cls := .type "tuple", data := .seq #[.int i tk, u'] } := (sb.2 _ (Nat.ne_of_gt hel)).trans hT
    have new : ObjOk X.prog X.w (upd H s.heap.objs.size (.tup [.int (i : Nat), x])) h'' s.heap.objs.size (.tup [.int (i : Nat), x]) :=
      ⟨by show 2 ≤ sizeLine; decide, [.int i tk, u'], .cons ⟨_, rfl⟩ (.cons ru .nil), ⟨_, hT2, rfl, _, rfl⟩⟩
    have I1 : Inv X pins σ (upd H s.heap.objs.size (.tup [.int (i : Nat), x])) { s with heap := h'', toks := tk + 1 } :=
      I.turnedNew (ch := [e, it]) (fun b ob hb q => (sb.2 b (fun z => hb (by simp [z]))).trans (hk b ob (fun z => hb (by simp [z])) (fun z => hb (by simp [z])) q)) hf (Nat.le_refl _) new
    refine ⟨.ref s.heap.objs.size, _, I1, rfl, ⟨_, x, rfl, I.hok.fresh (Nat.le_refl _), rfl, fun ys hy => by rw [I.tuple_inj hy hq]; exact hx⟩, ⟨⟨u', ?_⟩, hit'.at fun o q => (sb.2 it (Ne.symm hne)).trans q, hne⟩, fun b hb => ?_⟩
    · have e1 : ((i + 1 : Nat) : Int) = (i : Int) + 1 := by omega
      rw [e1]; exact he'
    · have hb' : b < s.heap.objs.size := by
        have e' : b = e ∨ b = it := by simpa using hb
        rcases e' with z | z
        · rw [z]; exact hel
        · rw [z]; exact hil
      rw [upd_ne (Nat.ne_of_lt hb')]
      exact (hf b hb).1
  done := by
    intro X hP hw hK hc i pins s σ H E I hf st hg
    subst hP hw hK
    obtain ⟨⟨old, he⟩, hit, hne⟩ := st
    obtain ⟨xs, hq, hx⟩ := hg
    obtain ⟨its, rv, p, hz⟩ := I.tuple hq
    obtain ⟨f0, f1, f2, f3, f4, f5⟩ := hf it (by simp)
    have hl := rv.length
    have hT : s.TypeIs (.ref e) "enumerate" := ⟨_, he, rfl⟩
    unfold pyNext
    refine wpAny_bind (wpAny_attempt (wpAny_callSpecial?_slot (name := Str.ofString "__next__") hT F.slot_enumerate_next
      (wpAny_call_entry F.slot_enumerate_next hT F.entry_enumerate_next ?_ (F.args_enumerate_next_1 _))))
    show wpAny _ _ (field (.ref e) 2 >>= _) _ _ _
    refine wpAny_bind (wpAny_field he rfl (x := .ref it) rfl ?_)
    refine wpAny_bind (wpAny_nextOf_tuple_end (I.ok.hd hc) hit p (by simp; omega) fun h' x he' hx' => ?_)
    obtain ⟨o, ho, hc⟩ := hx'
    refine wpAny_bind (wpAny_isInstance (T := "StopIteration") (b := true) ⟨o, ho, hc⟩ isSubtype_stop ?_)
    exact wpAny_pure ⟨rfl, I.turned (t' := s.toks) (fun b o hb q => he' b o hb q) f0 f1 f3 f4 f5⟩
  self := fun A i s Q E st h => let ⟨⟨_, he⟩, _⟩ := st; wpAny_pyIter_enum he h
def iEnumT (K : PySem.W.Frag) (ta : TA) : TI := fun σ H R => ta σ H fun vs H1 => ∃ a xs, vs = [.ref a] ∧ SqT K H1 a xs ∧ R (IteT K a) H1
theorem pi_enumT {X : Cx} {e : Expr} {ta : TA} {p pos tpos : Pos} {elts : List Expr} {kk : Nat} (hg : Gl X "enumerate") (hm : X.mg "enumerate" = none) (ha : PA X [e] ta) (hs : starEach [e] X.env = [(false, eval e X.env)] := by rfl) :
    PI X (.Tuple elts kk tpos) (.Call (.Name "enumerate" p) [e] [] pos) (iEnumT X.K ta) := by
  refine ⟨fun pins s σ H R I h => ?_⟩
  refine Call_ (ld_blt I hg hm boot_enumerate (PyProof.Rows.callWith_type1 (thn (ha.run pos pins s σ H _ I h) fun us s1 ⟨vs, H1, I1, r1, q1⟩ => ?_) hs rfl))
  obtain ⟨a, xs, ex, hq, q⟩ := q1
  subst ex
  cases r1 with
  | cons r rr =>
    cases rr
    cases r
    obtain ⟨its, rv, p', hz⟩ := I1.tuple hq
    refine call_enumerate_tup p' fun h' he hit hsz hk => wpAny_pyIter_enum he ?_
    have I2 : Inv X pins σ H1 { s1 with heap := h' } := I1.kept (t' := s1.toks) hk
    refine ⟨s1.heap.objs.size + 1, [s1.heap.objs.size + 1, s1.heap.objs.size], _, _, H1, rfl, I2, turn_enumT a (s1.heap.objs.size + 1) s1.heap.objs.size, ⟨⟨.none, he⟩, hit, Nat.succ_ne_self _⟩, fun b hb => ?_, q⟩
    have e' : b = s1.heap.objs.size + 1 ∨ b = s1.heap.objs.size := by simpa using hb
    have hle : s1.heap.objs.size ≤ b := by
      rcases e' with z | z
      · rw [z]; exact Nat.le_add_right _ _
      · rw [z]; exact Nat.le_refl _
    exact I1.fpOk hle (I1.hok.fresh hle)
theorem walk_enumT {K : PySem.W.Frag} {a : Addr} {xs : List V} : Walk (IteT K a) xs.length (fun H => SqT K H a xs) (YPair (fun i => some (.int (i : Nat))) (fun i => xs[i]?)) := by
  refine ⟨fun i _ hi q => ⟨xs, xs[i], q, by simp [hi]⟩, fun _ q => ⟨xs, q, Nat.le_refl _⟩, fun i H v H' _ q y => ?_⟩
  obtain ⟨T, x, h1, h2, h3, h4⟩ := y
  exact ⟨T, .int (i : Nat), x, h1, h2, h3, rfl, h4 xs q⟩
theorem walk_zipT {K : PySem.W.Frag} {a b : Addr} {xs ys : List V} {n : Nat} (hn : n = min xs.length ys.length) : Walk (RZ.ItzT K a b) n (fun H => SqT K H a xs ∧ SqT K H b ys) (YPair (fun i => xs[i]?) (fun i => ys[i]?)) := by
  subst hn
  refine ⟨fun i _ hi q => ?_, fun _ q => ⟨xs, ys, q.1, q.2, by omega⟩, fun i H v H' _ q y => ?_⟩
  · have h1 : i < xs.length := by omega
    have h2 : i < ys.length := by omega
    exact ⟨xs, ys, xs[i], ys[i], q.1, q.2, by simp [h1], by simp [h2]⟩
  · obtain ⟨T, x, z, h1, h2, h3, h4, h5⟩ := y
    exact ⟨T, x, z, h1, h2, h3, h4 xs q.1, h5 ys q.2⟩
end HG

set_option maxHeartbeats 4000000
namespace K51
open PySem PySem.Spec PyProof.Rows L2 HG P52
def spEnd (K : PySem.W.Frag) : Sp := fun vs H Q _ => ∃ (d c kt : Addr) (n cnt M f B : Nat), vs = [.ref d, .ref kt, .int (B : Int)] ∧ n < 2 ^ 47 ∧ 0 < B ∧ B ≤ 9 ∧ Deck d c n H ∧ Kt (off d c H) kt cnt M f ∧
  ∀ (v : V) (E : Stp) (H' : Hp), Deck d c (n + 10) H' → Ext d c H H' → Dp K H' v E.D → StpOk M B E → Q v H'
section
variable {P : Program} {w : World} {K : PySem.W.Frag} {mg : Str → Option Value} {base : Heap}
set_option pp.maxSteps 600 in
theorem c_end (T : Txt w K mg) : Cal P w K mg base "_law_end" 4 ["_law_deck_here", "_law_kit", "_law_many"] (spEnd K) := by
  obtain ⟨fd, F⟩ := T.d__law_end
  have C__law_draw := c_draw (P := P) (base := base) T
  have C__law_word := c_word (P := P) (base := base) T
  have C__law_operand := c_operand (P := P) (base := base) T
  refine ⟨⟨fd, F.ok sc__law_end (fun vs H Q E h => ?_) (fun cdv A outer s H vs Q E hr h => ?_), F.bindsN fun _ _ _ _ _ _ us hl => match us, hl with | [_, _, _], _ => rfl⟩, T.g _ (by decide), F.kp⟩
  · obtain ⟨d, c, kt, n, cnt, M, f, B, rfl, _⟩ := h
    rfl
  obtain ⟨d, c, kt, n, cnt, M, f, B, rfl, hn, hB0, hB, dk, hk, q⟩ := h
  refine ⟨_, PSs.nox (pss_cons (ps_par (i := 3) (j := 4) rfl sc__law_end.nd rfl rfl (by decide) rfl rfl (pa_cons (pe_cal C__law_draw (hr.mono (by omega)) (by rfl) (pa_cons (pv 0) (pa_cons pe_int pa_nil))) (pa_cons (pe_cal C__law_operand (hr.mono (by omega)) (by rfl) (pa_cons (pv 0) (pa_cons (pv 1) pa_nil))) pa_nil)) (by rfl))
      (pss_cons (ps_set (i := 5) sc__law_end.nd rfl (.inl rfl) (pe_lst (pa_cons (pe_tup (pa_cons pe_str (pa_cons (pe_cal C__law_draw (hr.mono (by omega)) (by rfl) (pa_cons (pv 0) (pa_cons (pv 2) pa_nil))) pa_nil))) (pa_cons (pe_tup (pa_cons pe_str (pa_cons (pv 4) (pa_cons (pe_cal C__law_draw (hr.mono (by omega)) (by rfl) (pa_cons (pv 0) (pa_cons (pv 2) pa_nil))) (pa_cons (pe_cal C__law_draw (hr.mono (by omega)) (by rfl) (pa_cons (pv 0) (pa_cons (pv 2) pa_nil))) pa_nil))))) pa_nil))))
      (pss_one (ps_ret (pe_ix (ix_listK (K := K) rfl) (pe_op op_cat (pe_op op_cat (pv 5) (pv 5)) (pe_lst (pa_cons (pe_tup (pa_cons pe_str (pa_cons (pv 4) pa_nil))) (pa_cons (pe_tup (pa_cons pe_str (pa_cons (pe_cal C__law_word (hr.mono (by omega)) (by rfl) (pa_cons (pv 0) pa_nil)) pa_nil))) pa_nil)))) (pv 3) (fun _ _ => rfl)))))), ?_⟩
  have hB40 : ((B : Nat) : Int) < 10 ^ 40 := many40 (by omega)
  refine ⟨.ref d, rfl, d, c, _, 6, rfl, by decide, by decide, by omega, dk, fun r1 H1 r10 r11 dk1 X1 => ?_⟩
  obtain ⟨way, rfl⟩ := Int.eq_ofNat_of_zero_le r10
  refine ⟨.ref d, rfl, .ref kt, rfl, d, c, kt, _, cnt, M, f, rfl, by omega, dk1, hk.mono X1, fun v1 a1 H2 dk2 X2 g1 o1 => ⟨_, _, rfl, ?_⟩⟩
  refine ⟨.ref d, rfl, _, rfl, d, c, _, B, rfl, by omega, hB40, by omega, dk2, fun r3 H3 r30 r31 dk3 X3 => ?_⟩
  obtain ⟨j1, rfl⟩ := Int.eq_ofNat_of_zero_le r30
  refine ⟨(by show 2 ≤ sizeLine; decide), fun t4 ht4 => ?_⟩
  have s4 := same_new (o := .tup [.str "jump", .int (j1 : Int)]) ht4
  have gj : Dp K (upd H3 t4 (.tup [.str "jump", .int (j1 : Int)])) (.ref t4) (Stp.jp j1).D := dp_tupN ht4 (.cons (.str _) (.cons (.int _) .nil))
  have dk4 := dk3.same s4
  generalize upd H3 t4 (.tup [.str "jump", .int (j1 : Int)]) = H4 at s4 gj dk4 ⊢
  refine ⟨v1, rfl, .ref d, rfl, _, rfl, d, c, _, B, rfl, by omega, hB40, by omega, dk4, fun r5 H5 r50 r51 dk5 X5 => ?_⟩
  obtain ⟨j2, rfl⟩ := Int.eq_ofNat_of_zero_le r50
  refine ⟨.ref d, rfl, _, rfl, d, c, _, B, rfl, by omega, hB40, by omega, dk5, fun r6 H6 r60 r61 dk6 X6 => ?_⟩
  obtain ⟨j3, rfl⟩ := Int.eq_ofNat_of_zero_le r60
  have k46 : KT H4 H6 := (ext_kt dk4 X5).trans (ext_kt dk5 X6)
  have k26 : KT H2 H6 := (ext_kt dk2 X3).trans ((KT.of s4).trans k46)
  have g1 := dp_kt k26 _ _ (nlO a1) g1
  have gj := dp_kt k46 _ _ (nlE _) gj
  have X26 : Ext d c H2 H6 := X3.trans ((off_same_mono s4).trans (X5.trans X6))
  refine ⟨(by show 4 ≤ sizeLine; decide), fun t7 ht7 => ?_⟩
  have s7 := same_new (o := .tup [.str "branch", v1, .int (j2 : Int), .int (j3 : Int)]) ht7
  have gb : Dp K (upd H6 t7 (.tup [.str "branch", v1, .int (j2 : Int), .int (j3 : Int)])) (.ref t7) (Stp.br a1 j2 j3).D := dp_tupN ht7 (.cons (.str _) (.cons g1 (.cons (.int _) (.cons (.int _) .nil))))
  have gj := dp_mono s7 _ _ gj
  have g1 := dp_mono s7 _ _ g1
  have dk7 := dk6.same s7
  have X27 : Ext d c H2 (upd H6 t7 (.tup [.str "branch", v1, .int (j2 : Int), .int (j3 : Int)])) := X26.trans (off_same_mono s7)
  generalize upd H6 t7 (.tup [.str "branch", v1, .int (j2 : Int), .int (j3 : Int)]) = H7 at s7 gb gj g1 dk7 X27 ⊢
  refine ⟨(by show 2 ≤ sizeLine; decide), fun l8 hl8 => ?_⟩
  have s8 := same_new (o := .lst [.ref t4, .ref t7]) hl8
  have e8 : (upd H7 l8 (.lst [.ref t4, .ref t7])) l8 = some (.lst [.ref t4, .ref t7]) := upd_same
  have gb := dp_mono s8 _ _ gb
  have gj := dp_mono s8 _ _ gj
  have g1 := dp_mono s8 _ _ g1
  have dk8 := dk7.same s8
  have X28 := X27.trans (off_same_mono s8)
  generalize upd H7 l8 (.lst [.ref t4, .ref t7]) = H8 at s8 e8 gb gj g1 dk8 X28 ⊢
  refine ⟨.ref l8, rfl, .ref l8, rfl, l8, l8, _, _, rfl, rfl, e8, e8, (by show 4 ≤ sizeLine; decide), fun l9 hl9 => ?_⟩
  have n9 := dk8.has hl9
  have s9 := same_new (o := .lst [.ref t4, .ref t7, .ref t4, .ref t7]) hl9
  have e9 : (upd H8 l9 (.lst [.ref t4, .ref t7, .ref t4, .ref t7])) l9 = some (.lst [.ref t4, .ref t7, .ref t4, .ref t7]) := upd_same
  have gb := dp_mono s9 _ _ gb
  have gj := dp_mono s9 _ _ gj
  have g1 := dp_mono s9 _ _ g1
  have dk9 := dk8.same s9
  have X29 := X28.trans (off_same_mono s9)
  generalize eH9 : upd H8 l9 _ = H9
  have eH9 : upd H8 l9 (.lst [.ref t4, .ref t7, .ref t4, .ref t7]) = H9 := eH9
  rw [eH9] at s9 e9 gb gj g1 dk9 X29
  refine ⟨v1, rfl, (by show 2 ≤ sizeLine; decide), fun t10 ht10 => ?_⟩
  have s10 := same_new (o := .tup [.str "return", v1]) ht10
  have gr : Dp K (upd H9 t10 (.tup [.str "return", v1])) (.ref t10) (Stp.rt (some a1)).D := dp_tupN ht10 (.cons (.str _) (.cons g1 .nil))
  have gb := dp_mono s10 _ _ gb
  have gj := dp_mono s10 _ _ gj
  have e9 := s10 _ _ e9
  have dk10 := dk9.same s10
  have X210 := X29.trans (off_same_mono s10)
  generalize upd H9 t10 (.tup [.str "return", v1]) = H10 at s10 gr gb gj e9 dk10 X210 ⊢
  refine ⟨.ref d, rfl, d, c, _, rfl, by omega, dk10, fun wv H11 w0 w1 dk11 X11 => ⟨(by show 2 ≤ sizeLine; decide), fun t12 ht12 => ?_⟩⟩
  have k11 := ext_kt dk10 X11
  have s12 := same_new (o := .tup [.str "halt", .int wv]) ht12
  have k12 := k11.trans (KT.of s12)
  have gh : Dp K (upd H11 t12 (.tup [.str "halt", .int wv])) (.ref t12) (Stp.ht wv).D := dp_tupN ht12 (.cons (.str _) (.cons (.int _) .nil))
  have gr := dp_kt k12 _ _ (nlE _) gr
  have gb := dp_kt k12 _ _ (nlE _) gb
  have gj := dp_kt k12 _ _ (nlE _) gj
  have e9 := s12 _ _ (X11.at n9.1 n9.2 e9)
  have dk12 := dk11.same s12
  have X212 := (X210.trans X11).trans (off_same_mono s12)
  generalize upd H11 t12 (.tup [.str "halt", .int wv]) = H12 at s12 gh gr gb gj e9 dk12 X212 ⊢
  refine ⟨(by show 2 ≤ sizeLine; decide), fun l13 hl13 => ?_⟩
  have s13 := same_new (o := .lst [.ref t10, .ref t12]) hl13
  have e13 : (upd H12 l13 (.lst [.ref t10, .ref t12])) l13 = some (.lst [.ref t10, .ref t12]) := upd_same
  refine ⟨l9, l13, _, _, rfl, rfl, s13 _ _ e9, e13, (by show 6 ≤ sizeLine; decide), fun l14 hl14 => ?_⟩
  have s14 := s13.trans (same_new (o := .lst [.ref t4, .ref t7, .ref t4, .ref t7, .ref t10, .ref t12]) hl14)
  have all : DpAll K (upd (upd H12 l13 (.lst [.ref t10, .ref t12])) l14 (.lst [.ref t4, .ref t7, .ref t4, .ref t7, .ref t10, .ref t12])) [.ref t4, .ref t7, .ref t4, .ref t7, .ref t10, .ref t12] (([.jp j1, .br a1 j2 j3, .jp j1, .br a1 j2 j3, .rt (some a1), .ht wv] : List Stp).map Stp.D) :=
    dpAll_mono s14 _ _ (.cons gj (.cons gb (.cons gj (.cons gb (.cons gr (.cons gh .nil))))))
  have hw : way < 6 := by omega
  obtain ⟨y, hy⟩ : ∃ y, ([.ref t4, .ref t7, .ref t4, .ref t7, .ref t10, .ref t12] : List V)[way]? = some y := ⟨_, List.getElem?_eq_getElem (show way < 6 from hw)⟩
  obtain ⟨E1, hE, hyE⟩ := dpAll_map_get all hy
  refine ⟨_, rfl, l14, _, _, _, rfl, rfl, .inl (.inl upd_same), atI_nat hy, q y E1 _ ((dk12.same s14).up (by omega)) (X1.trans (X2.trans (X212.trans (off_same_mono s14)))) hyE ?_⟩
  have hm := List.mem_of_getElem? hE
  simp only [List.mem_cons, List.not_mem_nil, or_false] at hm
  rcases hm with rfl | rfl | rfl | rfl | rfl | rfl
  · show j1 < B
    omega
  · exact ⟨o1, by omega, by omega⟩
  · show j1 < B
    omega
  · exact ⟨o1, by omega, by omega⟩
  · intro o ho
    cases ho
    exact o1
  · exact ⟨w0, w1⟩
end
end K51

set_option maxHeartbeats 4000000
namespace K51
open PySem PySem.Spec PyProof.Rows L2 HG P52
theorem vars_ne {g : Gr} (h : ∃ b ∈ g.blocks, ∃ R ∈ b.rows, R.set ≠ none) : g.vars ≠ [] := by
  obtain ⟨b, hb, R, hR, hs⟩ := h
  intro z
  cases hn : R.set with
  | none => exact hs hn
  | some n =>
    have : n ∈ g.vars := List.mem_flatMap.mpr ⟨b, hb, List.mem_append.mpr (.inr (List.mem_flatMap.mpr ⟨R, hR, List.mem_append.mpr (.inr (by rw [hn]; exact List.mem_singleton.mpr rfl))⟩))⟩
    rw [z] at this
    cases this
def spGraph (K : PySem.W.Frag) : Sp := fun vs H Q _ => ∃ (d c wd : Addr) (n mo : Nat), vs = [.ref d, .ref wd, .int (mo : Int)] ∧ 0 < mo ∧ mo ≤ 9 ∧ n < 2 ^ 46 ∧ Deck d c n H ∧ Wd K (off d c H) wd ∧
  ∀ (v : V) (g : Gr) (N : Nat) (H' : Hp), Deck d c (n + 4000) H' → Ext d c H H' → Dp K H' v g.D → GrOk N g → g.vars ≠ [] → Q v H'
theorem stp_up {M N B : Nat} {E : Stp} (h : StpOk M B E) (hN : M ≤ N) : StpOk N B E := by
  cases E with
  | jp n => exact h
  | br a n m => exact ⟨opd_up h.1 hN, h.2⟩
  | rt a => exact fun o ho => opd_up (h o ho) hN
  | ht i => exact h
theorem rg_eq (n : Nat) : rgV 0 (n : Int) = (List.range n).map fun i => V.int ((i : Nat) : Int) := by
  unfold rgV
  rw [Int.sub_zero, Int.toNat_natCast]
  congr 1
  funext i
  rw [Int.zero_add]
section
variable {P : Program} {w : World} {K : PySem.W.Frag} {mg : Str → Option Value} {base : Heap}
set_option pp.maxSteps 600 in
theorem c_graph (T : Txt w K mg) : Cal P w K mg base "_law_graph" 5 ["_law_deck_here", "_law_world_here", "_law_most"] (spGraph K) := by
  obtain ⟨fd, F⟩ := T.d__law_graph
  have C__law_draw := c_draw (P := P) (base := base) T
  have C__law_first := c_first (P := P) (base := base) T
  have C__law_row := c_row (P := P) (base := base) T
  have C__law_end := c_end (P := P) (base := base) T
  refine ⟨⟨fd, F.ok sc__law_graph (fun vs H Q E h => ?_) (fun cdv A outer s H vs Q E hr h => ?_), F.bindsN fun _ _ _ _ _ _ us hl => match us, hl with | [_, _, _], _ => rfl⟩, T.g _ (by decide), F.kp⟩
  · obtain ⟨d, c, wd, n, mo, rfl, _⟩ := h
    rfl
  obtain ⟨d, c, wd, n, mo, rfl, hmo0, hmo9, hn, dk, hwd, q⟩ := h
  have hu := hu_of hr
  refine ⟨_, PSs.nox (pss_cons (ps_set (i := 3) sc__law_graph.nd rfl (.inl rfl) (pe_cal C__law_draw (hr.mono (by omega)) (by rfl) (pa_cons (pv 0) (pa_cons pe_int pa_nil))))
      (pss_cons (ps_set (i := 4) sc__law_graph.nd rfl (.inr rfl) (pe_disp (pps_cons pe_str (pv 3) (pps_cons pe_str (pe_listRg rfl (by rfl) T.n_list (prg_1 (by rfl) T.n_range (pe_op op_add (pe_op op_add (pv 3) pe_int) (pe_cal C__law_draw (hr.mono (by omega)) (by rfl) (pa_cons (pv 0) (pa_cons pe_int pa_nil)))))) pps_nil)) (by rfl) (by rfl) (fun z => by cases z) (by decide)))
      (pss_cons (ps_dput hu (pv 4) pe_str (pe_lc (own := [("_law_k", 9)]) (by rfl) sc__law_graph.nd (pi_range1 (by rfl) T.n_range (pa_cons (pe_op op_add pe_int (pe_cal C__law_draw (hr.mono (by omega)) (by rfl) (pa_cons (pv 0) (pa_cons pe_int pa_nil)))) pa_nil)) (blkOk_by (own := [("_law_k", 9)]) (N := N__law_graph) (sc := defScope s__law_graph) (by decide +kernel)) (fun _ _ _ _ _ => (pg_name (i := 9) sc__law_graph.nd rfl (.inl rfl))) (fun _ _ _ _ _ => pts_nil) (fun _ _ _ _ _ => (pe_op op_add (pe_callB (lenK (K := K) rfl) (by rfl) T.n_len (by decide +kernel) (pa_cons (pe_dget hu (pv 4) pe_str (fun _ _ => rfl)) pa_nil)) (pv 9)))) rfl)
      (pss_cons (ps_par (i := 5) (j := 6) rfl sc__law_graph.nd rfl rfl (by decide) rfl rfl (pa_cons (pe_op op_add pe_int (pe_cal C__law_draw (hr.mono (by omega)) (by rfl) (pa_cons (pv 0) (pa_cons (pv 2) pa_nil)))) (pa_cons (pe_lst pa_nil) pa_nil)) (by rfl))
      (pss_cons (ps_for PassesOwn.never rfl (pi_range1 (by rfl) T.n_range (pa_cons (pv 5) pa_nil)) (pg_name (i := 7) sc__law_graph.nd rfl (.inl rfl)) (pss_cons (ps_set (i := 8) sc__law_graph.nd rfl (.inl rfl) (pe_ifExp (pt_cmpR op_eq (pv 7) pe_int (nomark _)) (pe_cal C__law_first (hr.mono (by omega)) (by rfl) (pa_cons (pv 0) (pa_cons (pv 1) (pa_cons (pv 4) pa_nil)))) (pe_lst pa_nil)))
      (pss_cons (ps_for PassesOwn.never rfl (pi_range1 (by rfl) T.n_range (pa_cons (pe_cal C__law_draw (hr.mono (by omega)) (by rfl) (pa_cons (pv 0) (pa_cons pe_int pa_nil))) pa_nil)) (pg_name (i := 9) sc__law_graph.nd rfl (.inl rfl)) (pss_one (ps_expr (pe_bm PySem.F.plainAttrs_list PySem.F.slot_list_append PySem.F.type_list_append mt_append (pv 8) (pa_cons (pe_cal C__law_row (hr.mono (by omega)) (by rfl) (pa_cons (pv 0) (pa_cons (pv 1) (pa_cons (pv 4) pa_nil)))) pa_nil)))))
      (pss_one (ps_expr (pe_bm PySem.F.plainAttrs_list PySem.F.slot_list_append PySem.F.type_list_append mt_append (pv 6) (pa_cons (pe_tup (pa_cons (pe_callTy call_tuple_of (by rfl) T.n_tuple (by decide +kernel) (pa_cons (pv 8) pa_nil)) (pa_cons (pe_cal C__law_end (hr.mono (by omega)) (by rfl) (pa_cons (pv 0) (pa_cons (pv 4) (pa_cons (pv 5) pa_nil)))) pa_nil))) pa_nil)))))))
      (pss_one (ps_ret (pe_tup (pa_cons (pv 3) (pa_cons (pe_callTy call_tuple_of (by rfl) T.n_tuple (by decide +kernel) (pa_cons (pv 6) pa_nil)) pa_nil)))))))))), ?_⟩
  refine ⟨.ref d, rfl, d, c, _, 4, rfl, by decide, by decide, by omega, dk, fun r1 H1 r10 r11 dk1 X1 => ?_⟩
  obtain ⟨cnt, rfl⟩ := Int.eq_ofNat_of_zero_le r10
  -- the kit
  intro kt hkt
  have nkt := dk1.has hkt
  have s2 := same_new (o := .dK []) hkt
  have dk2 := dk1.same s2
  have ek : (upd H1 kt (.dK [])) kt = some (.dK []) := upd_same
  have X2 : Ext d c H (upd H1 kt (.dK [])) := X1.trans (off_same_mono s2)
  have hktH : H kt = none := grow X1 dk1 hkt
  generalize upd H1 kt (.dK []) = H2 at s2 dk2 ek X2 ⊢
  refine ⟨_, rfl, _, rfl, _, _, rfl, rfl, .ref d, rfl, d, c, _, 5, rfl, by decide, by decide, by omega, dk2, fun r3 H3 r30 r31 dk3 X3 => ?_⟩
  obtain ⟨m0, rfl⟩ := Int.eq_ofNat_of_zero_le r30
  have hM : ((cnt : Int) + 1 + (m0 : Int)) = ((cnt + 1 + m0 : Nat) : Int) := by omega
  have hcm : cnt ≤ 3 ∧ m0 ≤ 4 := by omega
  generalize eM : cnt + 1 + m0 = M at hM
  refine ⟨_, _, rfl, rfl, _, rfl, ⟨by omega, by omega, by omega, by omega, by omega⟩, fun wa hwa => ?_⟩
  generalize eH4 : upd H3 wa _ = H4
  have eH4 : H4 = upd H3 wa (.lst ((List.range M).map fun i => V.int ((i : Nat) : Int))) := by
    rw [← eH4, ← rg_eq, ← hM]
  have nwa := dk3.has hwa
  have s4 : Same H3 H4 := by rw [eH4]; exact same_new hwa
  have ewa : H4 wa = some (.lst ((List.range M).map fun i => V.int ((i : Nat) : Int))) := by rw [eH4]; exact upd_same
  have dk4 := dk3.same s4
  have ek4 := s4 _ _ (X3.at nkt.1 nkt.2 ek)
  have nkw : wa ≠ kt := fun z => by
    have := X3.at nkt.1 nkt.2 ek
    rw [← z, hwa] at this
    cases this
  have X4 : Ext d c H H4 := (X2.trans X3).trans (off_same_mono s4)
  refine ⟨ek4, [(Sum.inr "count", .int (cnt : Int)), (Sum.inr "words", .ref wa)], rfl, (by show 2 ≤ 15; decide), ?_⟩
  generalize eH5 : upd H4 kt _ = H5
  have eH5 : H5 = upd H4 kt (.dK [(Sum.inr "count", .int (cnt : Int)), (Sum.inr "words", .ref wa)]) := eH5.symm
  have dk5 : Deck d c (n + 1 + 1) H5 := by rw [eH5]; exact dk4.upd nkt.1 nkt.2
  have ek5 : H5 kt = some (.dK [(Sum.inr "count", .int (cnt : Int)), (Sum.inr "words", .ref wa)]) := by rw [eH5]; exact upd_same
  have ewa5 : H5 wa = some (.lst ((List.range M).map fun i => V.int ((i : Nat) : Int))) := by rw [eH5, upd_ne nkw]; exact ewa
  have X5 : Ext d c H H5 := by rw [eH5]; exact X4.mut hktH
  -- funcs
  refine ⟨.ref d, rfl, d, c, _, 2, rfl, by decide, by decide, by omega, dk5, fun r6 H6 r60 r61 dk6 X6 => ?_⟩
  obtain ⟨f0, rfl⟩ := Int.eq_ofNat_of_zero_le r60
  have hf0 : f0 ≤ 1 := by omega
  have ek6 := X6.at nkt.1 nkt.2 ek5
  have ewa6 := X6.at nwa.1 nwa.2 ewa5
  have X06 := X5.trans X6
  refine ⟨_, _, rfl, rfl, _, rfl, by omega, by omega, fun D hD => ?_⟩
  have nD := dk6.has hD
  have nkD : kt ≠ D := ne_of_none ek6 hD
  have nwD : wa ≠ D := ne_of_none ewa6 hD
  refine lc_range (lo := 0) (n := ((1 : Int) + (f0 : Int)).toNat) (fun i H7 => H7 D = some (.lst ((List.range i).map fun j => V.int ((M + j : Nat) : Int))) ∧ Same H6 H7) ⟨upd_same, same_new hD⟩ ?_ ?_
  · rintro i H7 hi ⟨hD7, s7⟩
    refine ⟨rfl, tyes ⟨.ref kt, rfl, kt, _, rfl, DGet.k (k := Sum.inr "words") (s7 _ _ ek6), .ref wa, _, rfl, .inl ⟨_, .inl (.inl (s7 _ _ ewa6)), rfl⟩, _, rfl, _, _, rfl, rfl, _, hD7, ?_, ?_, ?_⟩⟩
    · rw [List.length_map, List.length_range]
      exact small_line (by omega)
    · rw [upd_same, List.range_succ, List.map_append]
      congr 3
      show [V.int (((((List.range M).map fun i => V.int ((i : Nat) : Int)).length : Nat) : Int) + (0 + (i : Int)))] = [V.int ((M + i : Nat) : Int)]
      rw [List.length_map, List.length_range, Int.zero_add]
      congr 2
    · intro b o e
      rw [upd_ne (ne_of_none e hD)]
      exact s7 _ _ e
  rintro H7 ⟨hD7, s7⟩
  have ef : ((1 : Int) + (f0 : Int)).toNat = 1 + f0 := by omega
  rw [ef] at hD7
  have ek7 := s7 _ _ ek6
  have dk7 := dk6.same s7
  refine ⟨.ref kt, rfl, kt, _, rfl, DPut.k (k := Sum.inr "funcs") (v := .ref D) ek7 (by show 2 < sizeLine; decide), ?_⟩
  generalize eH8 : upd H7 kt _ = H8
  have eH8 : H8 = upd H7 kt (.dK [(Sum.inr "count", .int (cnt : Int)), (Sum.inr "words", .ref wa), (Sum.inr "funcs", .ref D)]) := eH8.symm
  have dk8 : Deck d c (n + 1 + 1 + 1) H8 := by rw [eH8]; exact dk7.upd nkt.1 nkt.2
  have X8 : Ext d c H H8 := by rw [eH8]; exact (X06.trans (off_same_mono s7)).mut hktH
  have hkt8 : Kt (off d c H8) kt cnt M (1 + f0) := by
    refine ⟨⟨wa, D, ?_, ?_, ?_⟩, by omega, by omega, by omega, by omega, by omega⟩
    · rw [off_get nkt.1 nkt.2, eH8]; exact upd_same
    · rw [off_get nwa.1 nwa.2, eH8, upd_ne nkw]; exact s7 _ _ ewa6
    · rw [off_get nD.1 nD.2, eH8, upd_ne nkD.symm]; exact hD7
  have S8 : S52 K d c wd kt cnt M (1 + f0) (n + 3) H8 H8 := ⟨dk8, Ext.refl _, hwd.mono X8, hkt8⟩
  clear eH8 eH5 eH4
  -- many, blocks
  refine ⟨.ref d, rfl, .int (mo : Int), rfl, d, c, _, (mo : Int), rfl, by omega, many40 (by omega), by omega, S8.dk, fun r9 H9 r90 r91 dk9 X9 => ?_⟩
  obtain ⟨b0, rfl⟩ := Int.eq_ofNat_of_zero_le r90
  have hb0 : b0 ≤ 8 := by omega
  have S9 := S8.step dk9 X9
  refine ⟨_, _, rfl, rfl, Nat.zero_le _, fun bl hbl => ?_⟩
  have nbl := S9.dk.has hbl
  have S10 := S9.new (o := .lst []) hbl
  have ebl : (upd H9 bl (.lst [])) bl = some (.lst []) := upd_same
  have hbl8 : H8 bl = none := grow S9.X S9.dk hbl
  have X10 : Ext d c H8 (upd H9 bl (.lst [])) := S10.X
  generalize upd H9 bl (.lst []) = H10 at S10 ebl X10 ⊢
  have eB : (1 : Int) + (b0 : Int) = ((1 + b0 : Nat) : Int) := by omega
  refine ⟨_, _, rfl, ?_⟩
  generalize eBv : (1 : Int) + (b0 : Int) = Bv at eB
  have hB0 : 0 < 1 + b0 := by omega
  have hB9 : 1 + b0 ≤ 9 := by omega
  generalize eBn : 1 + b0 = B at eB hB0 hB9
  have hNf : M + (1 + f0) ≤ 10 := by omega
  generalize eff : 1 + f0 = f at S8 S9 S10 hNf hkt8 hD7
  subst eB
  show (tFor (iRng1 (tCons (tVar 5) tNil)) (gName 7) _) _ [some (.ref d), some (.ref wd), some (.int (mo : Int)), some (.int (cnt : Int)), some (.ref kt), some (.int ((1 : Int) + (b0 : Int))), some (.ref bl), none, none, none] H10
  rw [eBv]
  refine ⟨_, rfl, _, rfl, by omega, by omega, for_range (lo := 0) (n := ((B : Nat) : Int).toNat) (fun i σ H3 => ∃ bvs bs x7 x8 x9, σ = [some (.ref d), some (.ref wd), some (.int (mo : Int)), some (.int (cnt : Int)), some (.ref kt), some (.int (B : Int)), some (.ref bl), x7, x8, x9] ∧ H3 bl = some (.lst bvs) ∧ DpAll K H3 bvs (bs.map Blk.D) ∧ bs.length = i ∧ (∀ b ∈ bs, BkOk (M + f) B b) ∧ (0 < i → ∃ b ∈ bs, ∃ R ∈ b.rows, R.set ≠ none) ∧ Deck d c (n + 10 + 400 * i) H3 ∧ Ext d c H8 H3)
    ⟨[], [], _, _, _, rfl, ebl, .nil, rfl, (fun _ h => nomatch h), (fun h => absurd h (Nat.lt_irrefl 0)), S10.dk.up (by omega), X10⟩ ?_ ?_⟩
  · rintro i σ H3 hi ⟨bvs, bs, x7, x8, x9, rfl, eb3, hBs, hbl, hbok, hsb, dk3, X3⟩
    have hi : i < 9 := by omega
    have S3 := S8.step dk3 X3
    -- the rows at first
    have hs : ∀ (Qc : VK), (∀ (ra : Addr) (us : List V) (rows : List Rw) (H4 : Hp), H3 ra = none → H4 ra = some (.lst us) → DpAll K H4 us (rows.map Rw.D) → rows.length ≤ 10 → (∀ R ∈ rows, RwOk (M + f) R) → (i = 0 → ∃ R ∈ rows, R.set ≠ none) → Deck d c (n + 10 + 400 * i + 20) H4 → Ext d c H3 H4 → Qc (.ref ra) H4) →
        tIf (tTest (tOp rEq (tVar 7) (tC (V.int 0)))) (tCall (spFirst K) [] E0 (tCons (tVar 0) (tCons (tVar 1) (tCons (tVar 4) tNil)))) (tLst tNil) [some (.ref d), some (.ref wd), some (.int (mo : Int)), some (.int (cnt : Int)), some (.ref kt), some (.int (B : Int)), some (.ref bl), some (.int (0 + (i : Int))), x8, x9] H3 Qc := by
      intro Qc hq
      refine ⟨_, rfl, rfl, _, rfl, ?_⟩
      cases hb : decide (V.int (0 + (i : Int)) = V.int 0) with
      | true =>
        exact iteT ⟨.ref d, rfl, .ref wd, rfl, .ref kt, rfl, d, c, wd, kt, _, cnt, M, f, rfl, by omega, ⟨dk3, Ext.refl _, S3.wd, S3.kt⟩, fun ra us rows H4 S4 hra h4 hU hl hok hs => hq ra us rows H4 hra h4 hU hl hok (fun _ => hs) S4.dk S4.X⟩
      | false =>
        exact iteF ⟨Nat.zero_le _, fun ra hra => hq ra [] [] _ hra upd_same .nil (Nat.zero_le _) (fun _ h => nomatch h) (fun z => by rw [z] at hb; exact absurd hb (by decide)) ((dk3.new hra).up (by omega)) (Ext.new hra)⟩
    refine hs _ fun ra us rows H4 hra h4 hU hl hok hsr dk4 X4 => ?_
    have nra := dk3.has hra
    have nrb : ra ≠ bl := fun z => by rw [z, eb3] at hra; cases hra
    refine ⟨.ref d, rfl, d, c, _, 6, rfl, by decide, by decide, by omega, dk4, fun r5 H5 r50 r51 dk5 X5 => ?_⟩
    obtain ⟨k6, rfl⟩ := Int.eq_ofNat_of_zero_le r50
    refine ⟨_, rfl, by omega, by omega, for_range (lo := 0) (n := ((k6 : Nat) : Int).toNat) (fun k σ H6 => ∃ us rows x9, σ = [some (.ref d), some (.ref wd), some (.int (mo : Int)), some (.int (cnt : Int)), some (.ref kt), some (.int (B : Int)), some (.ref bl), some (.int (0 + (i : Int))), some (.ref ra), x9] ∧ H6 ra = some (.lst us) ∧ DpAll K H6 us (rows.map Rw.D) ∧ rows.length ≤ 10 + k ∧ (∀ R ∈ rows, RwOk (M + f) R) ∧ (i = 0 → ∃ R ∈ rows, R.set ≠ none) ∧ Deck d c (n + 10 + 400 * i + 21 + 40 * k) H6 ∧ Ext d c H3 H6)
      ⟨us, rows, _, rfl, X5.at nra.1 nra.2 h4, dpAll_kt (ext_kt dk4 X5) _ _ (nlRs rows) hU, hl, hok, hsr, dk5.up (by omega), X4.trans X5⟩ ?_ ?_⟩
    · rintro k σ H6 hk ⟨us, rows, x9, rfl, h6, hU, hl, hok, hsr, dk6, X6⟩
      have hk6 : k < 6 := by omega
      have S6 := S3.step dk6 X6
      refine ⟨.ref ra, rfl, .inl ⟨rfl, _, .inl (.inl h6)⟩, .ref d, rfl, .ref wd, rfl, .ref kt, rfl, d, c, wd, kt, _, cnt, M, f, rfl, by omega, ⟨dk6, Ext.refl _, S6.wd, S6.kt⟩, fun v R H7 S7 hv hR => ?_⟩
      obtain ⟨m1, m2, m3, m4, m5⟩ := row_step (p := ra) nra hra h6 hU hok dk6 X6 S7.dk S7.X hv hR
      have hul := dpAll_len hU
      rw [List.length_map] at hul
      exact ⟨ra, _, _, rfl, rfl, m1, small_line (by omega), _, rows ++ [R], _, rfl, upd_same, m2, by rw [List.length_append]; show rows.length + 1 ≤ 10 + (k + 1); omega, m3, (fun z => (hsr z).imp fun R h => ⟨List.mem_append.mpr (.inl h.1), h.2⟩), m4.up (by omega), m5⟩
    · rintro σ H6 ⟨us, rows, x9, rfl, h6, hU, hl, hok, hsr, dk6, X6⟩
      have hk6 : k6 ≤ 5 := by omega
      have eb6 := X6.at nbl.1 nbl.2 eb3
      have S6 := S3.step dk6 X6
      refine ⟨.ref bl, rfl, .inl ⟨rfl, _, .inl (.inl eb6)⟩, .ref ra, rfl, ra, us, rfl, .inl ⟨.inl (.inl h6), fun t7 ht7 => ?_⟩⟩
      have s7 := same_new (o := .tup us) ht7
      have g7 : Dp K (upd H6 t7 (.tup us)) (.ref t7) (.tuple (rows.map Rw.D)) := dp_tupN ht7 hU
      have S7 := S6.same s7
      have eb7 := s7 _ _ eb6
      have X67 : Ext d c H6 (upd H6 t7 (.tup us)) := off_same_mono s7
      generalize upd H6 t7 (.tup us) = H7 at s7 g7 S7 eb7 X67 ⊢
      refine ⟨.ref d, rfl, .ref kt, rfl, _, rfl, d, c, kt, _, cnt, M, f, B, rfl, by omega, hB0, hB9, S7.dk, S7.kt, fun ve E1 H8' dk8' X8' ge oe => ⟨(by show 2 ≤ sizeLine; decide), fun t9 ht9 => ?_⟩⟩
      have s9 := same_new (o := .tup [.ref t7, ve]) ht9
      have nl7 : noL (.tuple (rows.map Rw.D)) = true := by
        have := nlRs rows
        simpa only [noL] using this
      have g9 : Dp K (upd H8' t9 (.tup [.ref t7, ve])) (.ref t9) (Blk.D ⟨rows, E1⟩) := dp_tupN ht9 (.cons (dp_kt (ext_kt S7.dk X8') _ _ nl7 g7) (.cons ge .nil))
      have X39 : Ext d c H3 (upd H8' t9 (.tup [.ref t7, ve])) := X6.trans (X67.trans (X8'.trans (off_same_mono s9)))
      have dk9' := dk8'.same s9
      have eb9 := X39.at nbl.1 nbl.2 eb3
      have hbvl := dpAll_len hBs
      rw [List.length_map] at hbvl
      refine ⟨bl, _, _, rfl, rfl, eb9, small_line (by omega), bvs ++ [.ref t9], bs ++ [⟨rows, E1⟩], _, _, _, rfl, upd_same, ?_, by rw [List.length_append, hbl]; rfl, fun b hb => ?_, fun _ => ?_, (dk9'.upd nbl.1 nbl.2).up (by omega), (X3.trans X39).mut hbl8⟩
      · have ke := KT.lst (o := .lst (bvs ++ [.ref t9])) eb9
        rw [List.map_append]
        exact dpAll_app (dpAll_kt ((ext_kt dk3 X39).trans ke) _ _ (noLAll_map fun b _ => nlB b) hBs) (.cons (dp_kt ke _ _ (nlB _) g9) .nil)
      · rcases List.mem_append.mp hb with z | z
        · exact hbok b z
        · rw [List.mem_singleton.mp z]
          exact ⟨hok, stp_up oe (by omega), by show rows.length ≤ 15; omega⟩
      · by_cases hi0 : i = 0
        · exact ⟨_, List.mem_append.mpr (.inr List.mem_cons_self), hsr hi0⟩
        · obtain ⟨b, hb, h⟩ := hsb (by omega)
          exact ⟨b, List.mem_append.mpr (.inl hb), h⟩
  · rintro σ H3 ⟨bvs, bs, x7, x8, x9, rfl, eb3, hBs, hbl, hbok, hsb, dk3, X3⟩
    have hbB : bs.length = B := by omega
    refine ⟨_, rfl, .ref bl, rfl, bl, bvs, rfl, .inl ⟨.inl (.inl eb3), fun t4 ht4 => ⟨(by show 2 ≤ sizeLine; decide), fun t5 ht5 => ?_⟩⟩⟩
    have s4 := same_new (o := .tup bvs) ht4
    have s5 := same_new (o := .tup [.int (cnt : Int), .ref t4]) ht5
    refine q _ ⟨cnt, bs⟩ (M + f) _ (((dk3.same s4).same s5).up (by omega)) (X8.trans (X3.trans (off_same_mono (s4.trans s5)))) (dp_tupN ht5 (.cons (.int _) (.cons (dp_tupN ht4 hBs) .nil))) ⟨by show cnt ≤ 3; omega, by show cnt ≤ M + f; omega, hNf, by show 0 < bs.length; omega, by show bs.length ≤ 9; omega, fun b hb => ?_⟩ (vars_ne (hsb (by omega)))
    show BkOk (M + f) bs.length b
    rw [hbB]
    exact hbok b hb
end
end K51

set_option maxHeartbeats 4000000
/-! HSum: sum(lists, []). -/
namespace HG
open PySem PySem.Spec PyProof.Rows L2
def LAt (h : Heap) (b : Addr) (xs : List Value) : Prop := ∃ n, h.get? b = some { cls := .type "list", dict := none, data := .seq xs.toArray n, slots := #[] }
def restF (ls : Nat → List Value) (i : Nat) : Nat → List Value
  | 0 => []
  | k + 1 => ls i ++ restF ls (i + 1) k
section
variable {prog : Program} {w : World} {A : Around} {R : Result → Shared → Prop}
theorem sumL_loop (hh : A.handled = none) {I ax : Addr} (hne : ax ≠ I) (items : Array Value) (bs : Nat → Addr) (ls : Nat → List Value) (hval : ∀ (i : Nat) (v : Value), items[i]? = some v → v = .ref (bs i)) (S B : Addr) (hSI : S ≠ I) (hSa : S ≠ ax) (hB : B ≤ S) :
    ∀ (k i : Nat) (s : Shared) (t : Addr) (cur : List Value) (c : Nat), items.size - i = k → i ≤ items.size → (s.heap.IsListIter I ax i ∧ s.heap.IsList ax items) → s.heap.get? S = some { cls := .type "list", dict := none, data := .seq #[.ref t] c, slots := #[] } →
    LAt s.heap t cur → t ≠ I → t ≠ S → (∀ j, j < items.size → LAt s.heap (bs j) (ls j) ∧ bs j ≠ I ∧ bs j ≠ S) → cur.length + (restF ls i k).length ≤ sizeLine →
    (∀ h' tk t', (∀ b o, b ≠ I → b ≠ S → s.heap.get? b = some o → h'.get? b = some o) → LAt h' t' (cur ++ restF ls i k) → (t' = t ∧ k = 0 ∨ B ≤ t') → R (.ok (.ret (.ref t'))) { s with heap := h', toks := tk }) →
    codeAny (model prog w) A (.builtin "sum.loop" ⟨[.ref I, .ref S, rawInt 2, rawInt 0], []⟩) R s := by
  have W := Walks.list (prog := prog) (w := w) (A := A.in1) hh I ax hne items
  intro k
  induction k with
  | zero =>
    intro i s t cur c hk hi hst hS ht tI tS hb hz hR
    have hin : i = items.size := by omega
    subst hin
    refine codeAny_builtin F.entry_sum_loop ?_
    rw [Around.under_plainId F.plain_sum_loop _]
    show wpAny _ A.in1 (seqItems? (.ref S) >>= _) _ _ s
    refine wpAny_bind (wpAny_seqItems hS rfl ?_)
    show wpAny _ A.in1 (tryCatch (pyNext (.ref I)) _ >>= _) _ _ s
    refine wpAny_bind (wpAny_tryCatch (W.done s _ _ hst fun h' tk hk' => ?_))
    refine wpAny_pure (hR h' tk t (fun b o hb1 _ e => hk' b o (by simpa using hb1) e) ?_ (.inl ⟨rfl, rfl⟩))
    obtain ⟨m, e⟩ := ht
    refine ⟨m, ?_⟩
    show h'.get? t = some { cls := .type "list", dict := none, data := .seq (cur ++ []).toArray m, slots := #[] }
    rw [List.append_nil]
    exact hk' _ _ (by simpa using tI) e
  | succ k ih =>
    intro i s t cur c hk hi hst hS ht tI tS hb hz hR
    have hlt : i < items.size := by omega
    refine codeAny_builtin F.entry_sum_loop ?_
    rw [Around.under_plainId F.plain_sum_loop _]
    show wpAny _ A.in1 (seqItems? (.ref S) >>= _) _ _ s
    refine wpAny_bind (wpAny_seqItems hS rfl ?_)
    show wpAny _ A.in1 (tryCatch (pyNext (.ref I)) _ >>= _) _ _ s
    refine wpAny_bind (wpAny_tryCatch (W.item i s _ _ hlt hst fun v h' tk hP hst' hk' => ?_))
    have ev := hval i v hP
    subst ev
    have kp : ∀ b o, b ≠ I → s.heap.get? b = some o → h'.get? b = some o := fun b o hbI e => hk' b o (by simpa using hbI) e
    obtain ⟨mt, et⟩ := ht
    obtain ⟨⟨mb, eb⟩, bI, bS⟩ := hb i hlt
    have et' := kp _ _ tI et
    have eb' := kp _ _ bI eb
    have hS' := kp _ _ hSI hS
    have hz2 : cur.length + ((ls i).length + (restF ls (i + 1) k).length) ≤ sizeLine := by
      have e : (restF ls i (k + 1)).length = (ls i).length + (restF ls (i + 1) k).length := by simp [restF]
      rw [e] at hz
      exact hz
    show wpAny _ A.in1 (Sem.attempt (holding [.ref (bs i)] (binaryOp .Add (.ref t) (.ref (bs i)))) >>= _) _ _ _
    refine wpAny_bind (wpAny_attempt (wpAny_holding (PySem.P.add_list (s := { s with heap := h', toks := tk }) et' eb' ?_ (by simp; omega))))
    have hSl : S < h'.objs.size := Heap.lt_size hS'
    have hS2 : (h'.push { cls := .type "list", data := .seq (cur.toArray ++ (ls i).toArray) }).get? S = some { cls := .type "list", dict := none, data := .seq #[.ref t] c, slots := #[] } := Heap.get?_push_of_some _ hS'
    have hIl : I < h'.objs.size := by
      obtain ⟨o, e, _⟩ := hst'.1
      exact Heap.lt_size e
    have hal : ax < h'.objs.size := by
      obtain ⟨o, e, _⟩ := hst'.2
      exact Heap.lt_size e
    show wpAny _ A.in1 (updateSeq S (fun _ => #[.ref h'.objs.size]) >>= _) _ _ _
    refine wpAny_bind (wpAny_updateSeq hS2 rfl (wpAny_bind (wpAny_letGo ?_)))
    show wpAny _ A.in1 (updateSeq S (fun _ => #[.ref h'.objs.size]) >>= _) _ _ _
    refine wpAny_bind (wpAny_updateSeq (Heap.get?_update_self _ hS2 rfl) rfl (wpAny_pure ⟨plainId_quiet F.plain_sum_loop _, ?_⟩))
    have old : ∀ b o, b ≠ S → h'.get? b = some o → ∀ (f1 f2 : Obj → Obj), (((h'.push { cls := .type "list", data := .seq (cur.toArray ++ (ls i).toArray) }).update S f1).update S f2).get? b = some o := fun b o hbS e f1 f2 =>
      (Heap.get?_update_other _ _ (Ne.symm hbS)).trans ((Heap.get?_update_other _ _ (Ne.symm hbS)).trans (Heap.get?_push_of_some _ e))
    have newL : ∀ (f1 f2 : Obj → Obj), (((h'.push { cls := .type "list", data := .seq (cur.toArray ++ (ls i).toArray) }).update S f1).update S f2).get? h'.objs.size = some { cls := .type "list", data := .seq (cur.toArray ++ (ls i).toArray) } := fun f1 f2 =>
      (Heap.get?_update_other _ _ (Nat.ne_of_lt hSl)).trans ((Heap.get?_update_other _ _ (Nat.ne_of_lt hSl)).trans (Heap.get?_push_size _ rfl))
    refine ih (i + 1) _ h'.objs.size (cur ++ ls i) _ (by omega) hlt ⟨hst'.1.at fun o e => old _ _ (Ne.symm hSI) e _ _, hst'.2.at fun o e => old _ _ (Ne.symm hSa) e _ _⟩ (Heap.get?_update_self _ (Heap.get?_update_self _ hS2 rfl) rfl) ⟨0, ?_⟩ (Nat.ne_of_gt hIl) (Nat.ne_of_gt hSl) (fun j hj => ?_) ?_ fun h2 tk2 t2 hk2 hL2 hn2 => ?_
    · have := newL (Obj.mapSeq fun _ => #[.ref h'.objs.size]) (Obj.mapSeq fun _ => #[.ref h'.objs.size])
      simpa using this
    · obtain ⟨⟨mj, ej⟩, jI, jS⟩ := hb j hj
      exact ⟨⟨mj, old _ _ jS (kp _ _ jI ej) _ _⟩, jI, jS⟩
    · rw [List.length_append]
      omega
    · refine hR h2 tk2 t2 (fun b o hbI hbS e => hk2 b o hbI hbS (old _ _ hbS (kp _ _ hbI e) _ _)) ?_ (.inr ?_)
      · obtain ⟨m, e⟩ := hL2
        refine ⟨m, ?_⟩
        show h2.get? t2 = some { cls := .type "list", dict := none, data := .seq (cur ++ (ls i ++ restF ls (i + 1) k)).toArray m, slots := #[] }
        rw [← List.append_assoc]
        exact e
      · rcases hn2 with ⟨z, _⟩ | z
        · rw [z]
          exact Nat.le_of_lt (Nat.lt_of_le_of_lt hB hSl)
        · exact z
end
theorem sub_list_str : isSubtype (.type "list") (.type "str") = pure false := by rw [isSubtype_type]; kernel_rfl
theorem sub_list_bytes : isSubtype (.type "list") (.type "bytes") = pure false := by rw [isSubtype_type]; kernel_rfl
theorem sub_list_bytearray : isSubtype (.type "list") (.type "bytearray") = pure false := by rw [isSubtype_type]; kernel_rfl
theorem args_sum2 (a b : Value) : argsOk "sum" ⟨[a, b], []⟩ := by unfold argsOk; kernel_rfl
section
variable {prog : Program} {w : World} {A : Around} {E : Value → Shared → Prop} {s : Shared}
theorem sum_lists_raw (hh : A.handled = none) {l z : Addr} {items : Array Value} (hl : s.heap.IsList l items) (hz0 : LAt s.heap z []) (bs : Nat → Addr) (ls : Nat → List Value) (hval : ∀ (i : Nat) (v : Value), items[i]? = some v → v = .ref (bs i))
    (hb : ∀ j, j < items.size → LAt s.heap (bs j) (ls j)) (h0 : 0 < items.size) (hz : (restF ls 0 items.size).length ≤ sizeLine) {Q : Value → Shared → Prop}
    (h : ∀ h' tk t', (∀ b o, s.heap.get? b = some o → h'.get? b = some o) → s.heap.objs.size ≤ t' → LAt h' t' (restF ls 0 items.size) → Q (.ref t') { s with heap := h', toks := tk }) :
    wpAny (model prog w) A (call (.builtin "sum") [.ref l, .ref z]) Q E s := by
  refine call_function_tree F.kind_sum F.plain_sum F.entry_sum (args_sum2 _ _) ?_
  unfold Builtin.«sum»
  simp only [List.length_cons, List.length_nil]
  rw [if_neg (by decide)]
  refine wpAny_bind (wpAny_of_eq (show Builtin.Builtins.bindParams "sum" ["start"] 0 ⟨[.ref z], []⟩ = pure [some (.ref z)] from rfl) ?_)
  refine wpAny_bind (wpAny_pyIter_list hl ?_)
  refine wpAny_bind (wpAny_pure ?_)
  obtain ⟨mz, ez⟩ := hz0
  have hT : Shared.TypeIs { s with heap := s.heap.push { cls := .type "list_iterator", data := .fields #[.ref l, .int 0 0] } } (.ref z) "list" := ⟨_, Heap.get?_push_of_some _ ez, rfl⟩
  simp only [List.forIn_cons, List.forIn_nil]
  refine wpAny_bind (wpAny_bind (wpAny_bind (wpAny_isInstance (T := "list") (b := false) hT sub_list_str ?_)))
  simp only [Bool.false_eq_true, if_false]
  refine wpAny_pure (wpAny_bind (wpAny_bind (wpAny_isInstance (T := "list") (b := false) hT sub_list_bytes ?_)))
  simp only [Bool.false_eq_true, if_false]
  refine wpAny_pure (wpAny_bind (wpAny_bind (wpAny_isInstance (T := "list") (b := false) hT sub_list_bytearray ?_)))
  simp only [Bool.false_eq_true, if_false]
  refine wpAny_pure (wpAny_pure ?_)
  refine wpAny_bind (wpAny_newObj_type ?_)
  have hll : l < s.heap.objs.size := by
    obtain ⟨o, e, _⟩ := hl
    exact Heap.lt_size e
  have hsz : (s.heap.push { cls := .type "list_iterator", data := .fields #[.ref l, .int 0 0] }).objs.size = s.heap.objs.size + 1 := Heap.size_push ..
  have lt : ∀ {b : Addr} {o : Obj}, s.heap.get? b = some o → b ≠ s.heap.objs.size ∧ b ≠ (s.heap.push { cls := .type "list_iterator", data := .fields #[.ref l, .int 0 0] }).objs.size := fun {b o} e => by
    have := Heap.lt_size e
    rw [hsz]
    exact ⟨Nat.ne_of_lt this, Nat.ne_of_lt (Nat.lt_succ_of_lt this)⟩
  refine wpAny_pure ⟨plainId_quiet F.plain_sum_loop _, sumL_loop hh (I := s.heap.objs.size) (ax := l) (Nat.ne_of_lt hll) items bs ls hval _ s.heap.objs.size (by rw [hsz]; exact Nat.succ_ne_self _) (by rw [hsz]; exact Nat.ne_of_gt (Nat.lt_succ_of_lt hll)) (by rw [hsz]; exact Nat.le_succ _) items.size 0 _ z [] 0 (by omega) (Nat.zero_le _)
    ⟨?_, ?_⟩ (Heap.get?_push_size _ rfl) ⟨mz, Heap.get?_push_of_some _ (Heap.get?_push_of_some _ ez)⟩ (lt ez).1 (lt ez).2 (fun j hj => ?_) (by simpa using hz) fun h' tk t' hk hL hn => ?_⟩
  · exact ⟨_, Heap.get?_push_of_some _ (Heap.get?_push_size _ rfl), rfl, rfl⟩
  · exact hl.at fun o e => Heap.get?_push_of_some _ (Heap.get?_push_of_some _ e)
  · obtain ⟨m, e⟩ := hb j hj
    exact ⟨⟨m, Heap.get?_push_of_some _ (Heap.get?_push_of_some _ e)⟩, (lt e).1, (lt e).2⟩
  · refine h h' tk t' (fun b o e => hk b o (lt e).1 (lt e).2 (Heap.get?_push_of_some _ (Heap.get?_push_of_some _ e))) ?_ hL
    rcases hn with ⟨_, z⟩ | z
    · omega
    · exact z
end
/-! ### as a rule -/
def rSumL : List V → Hp → VK → Prop := fun vs H Q => ∃ (a z : Addr) (bs : List Addr) (xss : List (List V)), vs = [.ref a, .ref z] ∧ H a = some (.lst (bs.map V.ref)) ∧ H z = some (.lst []) ∧ bs.length = xss.length ∧ 0 < bs.length ∧ xss.flatten.length ≤ sizeLine ∧
  (∀ (i : Nat) (b : Addr), bs[i]? = some b → ∃ xs, xss[i]? = some xs ∧ H b = some (.lst xs)) ∧ ∀ p, H p = none → Q (.ref p) (upd H p (.lst xss.flatten))
section
variable {X : Cx}
theorem vals_flat : ∀ {xss : List (List V)} {uss : List (List Value)}, Paired (fun xs us => Vals xs us) xss uss → Vals xss.flatten uss.flatten
  | [], _, .nil => .nil
  | _ :: _, _ :: _, .cons r t => by
    rw [List.flatten_cons, List.flatten_cons]
    exact r.append (vals_flat t)
theorem restF_eq (g : Nat → List Value) : ∀ (uss : List (List Value)) (i : Nat), (∀ (j : Nat) (us : List Value), uss[j]? = some us → g (i + j) = us) → restF g i uss.length = uss.flatten
  | [], _, _ => rfl
  | us :: uss, i, h => by
    have h0 := h 0 us rfl
    show g i ++ restF g (i + 1) uss.length = us ++ uss.flatten
    rw [show g i = us from h0, restF_eq g uss (i + 1) fun j u hu => by
      have := h (j + 1) u (by simpa using hu)
      rw [show i + 1 + j = i + (j + 1) by omega]
      exact this]
theorem cr_sumL (hc : X.calm = true) : CallR X (.builtin "sum") rSumL := by
  intro pins s σ H vs us Q I r h
  obtain ⟨a, z, bs, xss, rfl, ha, hz, hlen, h0, hsz, hb, q⟩ := h
  cases r with
  | cons r1 r2 =>
    cases r2 with
    | cons r3 r4 =>
      cases r4
      cases r1
      cases r3
      obtain ⟨_, its, n, rv, hl, e⟩ := I.lstM ha
      obtain ⟨_, itz, nz, rz, hlz, ez⟩ := I.lstM hz
      cases rz
      have hb2 : ∀ i, i < bs.length → ∃ (b : Addr) (us : List Value) (xs : List V), bs[i]? = some b ∧ xss[i]? = some xs ∧ Vals xs us ∧ LAt s.heap b us := fun i hi => by
        have e1 : bs[i]? = some bs[i] := List.getElem?_eq_getElem hi
        obtain ⟨xs, e2, e3⟩ := hb i _ e1
        obtain ⟨_, ui, ni, ri, _, ei⟩ := I.lstM e3
        exact ⟨_, ui, xs, e1, e2, ri, ni, ei⟩
      have hlen2 := rv.length
      rw [List.length_map] at hlen2
      let us : Nat → List Value := fun i => if h : i < bs.length then (hb2 i h).choose_spec.choose else []
      have hus : ∀ i (h : i < bs.length), ∃ (xs : List V), xss[i]? = some xs ∧ Vals xs (us i) ∧ LAt s.heap (bs.getD i 0) (us i) := fun i h => by
        obtain ⟨xs, h1, h2, h3, h4⟩ := (hb2 i h).choose_spec.choose_spec
        have e : us i = (hb2 i h).choose_spec.choose := dif_pos h
        have eb : bs.getD i 0 = (hb2 i h).choose := (List.getD_eq_getElem?_getD ..).trans (congrArg (fun o => Option.getD o 0) h1)
        rw [e, eb]
        exact ⟨xs, h2, h3, h4⟩
      have hP : ∀ (m : Nat) (ys : List (List V)) (i : Nat), i + ys.length = bs.length → (∀ j xs, ys[j]? = some xs → xss[i + j]? = some xs) → Vals ys.flatten (restF us i ys.length) := by
        intro m ys
        induction ys with
        | nil => intro i _ _; exact .nil
        | cons y ys ih =>
          intro i hi hj
          rw [List.length_cons] at hi
          obtain ⟨xs, h1, h2, _⟩ := hus i (by omega)
          have h3 := hj 0 y rfl
          rw [Nat.add_zero, h1] at h3
          cases h3
          show Vals (y :: ys).flatten (us i ++ restF us (i + 1) ys.length)
          rw [List.flatten_cons]
          refine h2.append (ih (i + 1) (by omega) fun j zs hz => ?_)
          have := hj (j + 1) zs (by simpa using hz)
          rw [show i + 1 + j = i + (j + 1) by omega]
          exact this
      have hall := hP 0 xss 0 (by omega) fun j xs h => by rw [Nat.zero_add]; exact h
      have hsize : its.toArray.size = xss.length := by rw [List.size_toArray]; omega
      refine sum_lists_raw (I.ok.hd hc) (items := its.toArray) ⟨_, e, rfl, n, rfl⟩ ⟨nz, ez⟩ (fun i => bs.getD i 0) us (fun i v hv => ?_) (fun j hj => ?_) (by omega) (by rw [hsize, ← hall.length]; exact hsz) fun h' tk t' hk ht hL => ?_
      · have hv : its[i]? = some v := by simpa using hv
        have hi : i < its.length := (List.getElem?_eq_some_iff.mp hv).1
        have e1 : (bs.map V.ref)[i]? = some (.ref (bs.getD i 0)) := by
          rw [List.getElem?_map, List.getElem?_eq_getElem (by omega : i < bs.length), List.getD_eq_getElem?_getD, List.getElem?_eq_getElem (by omega : i < bs.length)]
          rfl
        obtain ⟨u, hu, ru⟩ := rv.get e1
        rw [hv] at hu
        cases hu
        cases ru
        rfl
      · obtain ⟨_, _, _, h4⟩ := hus j (by omega)
        exact h4
      · rw [hsize] at hL
        obtain ⟨m, eL⟩ := hL
        refine ⟨.ref t', _, I.laid (a := t') (h' := h') (t' := tk) hk ht ?_, rfl, q t' (I.hok.fresh ht)⟩
        exact ⟨hsz, _, m, hall, eL⟩
end
end HG

set_option maxHeartbeats 4000000
/-! HSet: set(list of ints), in order. -/
namespace HG
open PySem PySem.Spec PyProof.Rows L2
section
variable {P : Program} {w : World} {A : Around} {E : Value → Shared → Prop} {s : Shared}
set_option maxRecDepth 100000 in
set_option maxHeartbeats 3200000 in
theorem set_listI {l : Addr} {items : Array Value} (ns : List Int) {Q : Value → Shared → Prop} (hh : A.handled = none) (hl : s.heap.IsList l items) (hit : IntsAre items.toList ns) (hb : ns.length + 1 < scanBound)
    (h : ∀ (h' : Heap) (tk c : Nat), SetR w h' s.heap.objs.size (fun j => decide (j ∈ ns)) c → c ≤ ns.length → (∀ b o, s.heap.get? b = some o → h'.get? b = some o) → Q (.ref s.heap.objs.size) { s with heap := h', toks := tk }) :
    wpAny (model P w) A (call (.type "set") [.ref l]) Q E s := by
  have hisz : items.size = ns.length := by
    have q := IntsAre.length hit
    rw [Array.length_toList] at q
    exact q
  obtain ⟨c, tl, hmro⟩ := F.called_set.mro
  have hmade := F.called_set.made
  have hsub := F.called_set.sub
  refine wpAny_call (codeAny_of_tree ?_)
  show wpAny _ _ (callAny (.type "set") _) _ _ _
  refine wpAny_pure ⟨Code.quiet_builtin _ (by decide +kernel), codeAny_builtin F.entry_type_call ?_⟩
  rw [Around.under_plain (weight_type_call_type "set" [.ref l] []) rfl]
  have h1 := F.called_set.notType
  have h2 := F.called_set.canCreate
  have hct := F.typeCall_set_1 (.ref l)
  repeat (any_goals (first | assumption | wp_step))

  refine codeAny_mono (code_set_led1 (.ref l) (E := E) (Q₁ := fun obj s₁ => obj = .ref s.heap.objs.size ∧ s₁ = { s with heap := s.heap.push { cls := .type "set", dict := none, data := .set #[] 0 (.fresh 0 0 (!w.params.followText "set-order")) } }) ⟨rfl, rfl⟩) fun r s₁ hr => ?_
  cases r with
  | error e => exact hr
  | ok fl =>
    cases fl with
    | ret obj =>
      obtain ⟨rfl, rfl⟩ := hr
      have hS : (s.heap.push { cls := .type "set", dict := none, data := .set #[] 0 (.fresh 0 0 (!w.params.followText "set-order")) }).get? s.heap.objs.size = some { cls := .type "set", dict := none, data := .set #[] 0 (.fresh 0 0 (!w.params.followText "set-order")) } := Heap.get?_push_size _ rfl
      have hT : Shared.TypeIs { s with heap := s.heap.push { cls := .type "set", dict := none, data := .set #[] 0 (.fresh 0 0 (!w.params.followText "set-order")) } } (.ref s.heap.objs.size) "set" := ⟨_, hS, rfl⟩
      have hli := F.called_set.init.lookup
      have hbi := F.called_set.init.bind (.ref s.heap.objs.size)
      repeat (any_goals (first | assumption | wp_step))

      refine codeAny_mono (codeAny_call_builtin (R := wants (fun r s₂ => r = .none ∧ ∃ h' tk c, s₂ = { s with heap := h', toks := tk } ∧ SetR w h' s.heap.objs.size (fun j => decide (j ∈ ns)) c ∧ c ≤ ns.length ∧
          (∀ b o, s.heap.get? b = some o → h'.get? b = some o)) E) F.called_set.init.plain F.entry_set_init (check_set_init_1 hT ?_)) fun r₂ s₂ hr₂ => ?_
      · obtain ⟨ol, hol, hcl, nl, hdl⟩ := hl
        obtain ⟨ocls, odict, odata, oslots⟩ := ol
        simp only at hcl hdl
        subst hcl; subst hdl
        have hol' : (s.heap.push { cls := .type "set", dict := none, data := .set #[] 0 (.fresh 0 0 (!w.params.followText "set-order")) }).get? l = some { cls := .type "list", dict := odict, data := .seq items nl, slots := oslots } := Heap.get?_push_of_some _ hol
        have hsls := F.sub_list_set
        have hslf := F.sub_list_frozenset
        have hne : (Value.type "list" == Value.type "dict") = false := by decide
        have hl1 : (s.heap.push { cls := .type "set", dict := none, data := .set #[] 0 (.fresh 0 0 (!w.params.followText "set-order")) }).IsList l items := ⟨_, hol', rfl, nl, rfl⟩
        unfold Builtin.«set.__init__» noKeywords Builtin.Frozenset.updateFrom
        generalize hPI : pyIter = PI
        wp_walk
        subst hPI

        refine wpAny_pyIter_list hl1 ?_
        refine wpAny_bind (wpAny_runValue ?_)
        have hlS : l < s.heap.objs.size := Heap.lt_size hol
        have hh3 : A.in1.in1.in1.handled = none := by simp [hh]
        have hz1 : (s.heap.push { cls := .type "set", dict := none, data := .set #[] 0 (.fresh 0 0 (!w.params.followText "set-order")) }).objs.size = s.heap.objs.size + 1 := Heap.size_push ..
        have hneI : l ≠ (s.heap.push { cls := .type "set", dict := none, data := .set #[] 0 (.fresh 0 0 (!w.params.followText "set-order")) }).objs.size := by
          rw [Heap.size_push]; exact Nat.ne_of_lt (Nat.lt_succ_of_lt hlS)
        have hSf : s.heap.objs.size ∉ [(s.heap.push { cls := .type "set", dict := none, data := .set #[] 0 (.fresh 0 0 (!w.params.followText "set-order")) }).objs.size, l] := by
          rw [Heap.size_push]; simp only [List.mem_cons, List.mem_singleton, List.not_mem_nil, or_false, not_or]
          exact ⟨Nat.ne_of_lt (Nat.lt_succ_self _), Nat.ne_of_gt hlS⟩
        have hval : ∀ (i : Nat) (v : Value), items[i]? = some v → ∃ k t, ns[i]? = some k ∧ v = .int k t := fun i v hv => by
          have hi : i < ns.length := by rw [← hisz]; exact (Array.getElem?_eq_some_iff.mp hv).1
          obtain ⟨t, e⟩ := PyProof.Rows.IntsAre.int_at hit i v (by rw [Array.getElem?_toList]; exact hv)
          refine ⟨ns[i], t, List.getElem?_eq_getElem hi, ?_⟩
          rw [e, List.getD_eq_getElem?_getD, List.getElem?_eq_getElem hi] <;> rfl
        refine set_update_ints ((Walks.list hh3 _ l hneI items).toS) s.heap.objs.size
          hSf ns hisz hb hval (items.size - 0) 0 _ (by omega) (Nat.zero_le _)
          ⟨⟨_, Heap.get?_push_size _ rfl, rfl, rfl⟩, (hl1.push _)⟩ ?hS0 ?hR
        case hS0 =>
          have hget : ((s.heap.push { cls := .type "set", dict := none, data := .set #[] 0 (.fresh 0 0 (!w.params.followText "set-order")) }).push { cls := .type "list_iterator", data := .fields #[.ref l, .int 0 0] }).get? s.heap.objs.size
              = some { cls := .type "set", dict := none, data := .set #[] 0 (.fresh 0 0 (!w.params.followText "set-order")) } := Heap.get?_push_of_some _ hS
          exact ⟨0, Nat.le_refl 0, setR_new_at hget⟩
        case hR =>
          intro s' c' hm hc' hS'
          obtain ⟨h', g2, d', tk', os'⟩ := s'
          have eg : g2 = s.gens := hm.gens
          have ed : d' = s.drawn := hm.drawn
          have eo : os' = s.os := hm.os
          subst eg; subst ed; subst eo
          show wpAny _ _ _ _ _ _
          refine wpAny_pure ?_
          show wpAny _ _ (ret Value.none) _ _ _
          rw [hisz] at hc'
          refine wpAny_pure ⟨rfl, h', tk', c', rfl, hS', hc', fun b o e => ?_⟩
          have hb0 : b < s.heap.objs.size := Heap.lt_size e
          have hb1 : b ≠ s.heap.objs.size := Nat.ne_of_lt hb0
          have hb2 : b ≠ (s.heap.push { cls := .type "set", dict := none, data := .set #[] 0 (.fresh 0 0 (!w.params.followText "set-order")) }).objs.size := by
            rw [Heap.size_push]; exact Nat.ne_of_lt (Nat.lt_succ_of_lt hb0)
          exact hm.heap b o (by simp only [List.mem_cons, List.mem_singleton, List.not_mem_nil, or_false, not_or]; exact ⟨hb1, hb2⟩) (Heap.get?_push_of_some _ (Heap.get?_push_of_some _ e))

      · cases r₂ with
        | error e => exact hr₂
        | ok fl₂ =>
          cases fl₂ with
          | ret r =>
            obtain ⟨rfl, h', tk, c', rfl, hS', hc', hk'⟩ := hr₂
            repeat (any_goals (first | assumption | wp_step))
            exact h _ _ _ hS' hc' hk'
          | _ => exact hr₂.elim
    | _ => exact hr.elim

end
theorem nodup_len : ∀ (n : Nat) (l : List Int), l.Nodup → (∀ k ∈ l, 0 ≤ k ∧ k < (n : Int)) → l.length ≤ n
  | 0, l, _, h => by
    cases l with
    | nil => exact Nat.le_refl _
    | cons a r =>
      have := h a List.mem_cons_self
      omega
  | n + 1, l, hn, h => by
    have h1 := nodup_len n (l.erase (n : Int)) (hn.erase _) fun k hk => by
      have h2 := (hn.mem_erase_iff).mp hk
      have h3 := h k h2.2
      have h4 := h2.1
      omega
    have h2 := List.le_length_erase (a := (n : Int)) (l := l)
    omega
/-- set(l) of a list of ints -/
def rSetLI (K : PySem.W.Frag) (w : World) : List V → Hp → VK → Prop := fun xs H Q => ∃ (l : Addr) (ns : List Int), xs = [V.ref l] ∧ SqL K H l (ns.map V.int) ∧ ns.length + 1 < scanBound ∧
  ∀ (p : Addr) (ks : List Int), H p = none → ks.Nodup → (∀ k, k ∈ ks ↔ k ∈ ns) → Q (.ref p) (upd H p (SetO w p (fun j => decide (j ∈ ns)) ks.length))
theorem cr_setLI {X : Cx} (hc : X.calm = true) : CallR X (.type "set") (rSetLI X.K X.w) := by
  intro pins s σ H vs us Q I r h
  obtain ⟨l, ns, rfl, hq, hb, q⟩ := h
  rw [Vals.ref1 r]
  obtain ⟨its, rv, pl, hz⟩ := I.list hq
  have hi : IntsAre its.toArray.toList ns := ints_of_vals rv
  refine set_listI ns (I.ok.hd hc) pl.isList hi hb fun h' tk c R1 hcn k => ?_
  have ⟨o, es, ep, t, ho, hex, hdt, g, nd, hm2, hb, hf, hn, hr, hl2⟩ := R1
  have hlen : (es.toList.map keyOf).length = c := by rw [List.length_map, Array.length_toList, hn]
  have q2 := q s.heap.objs.size (es.toList.map keyOf) (I.hok.fresh (Nat.le_refl _)) nd fun k => by rw [← hm2 k, decide_eq_true_eq]
  rw [hlen] at q2
  exact ⟨.ref _, _, I.laid (t' := tk) k (Nat.le_refl _) (setO_new R1), rfl, q2⟩
end HG

set_option maxHeartbeats 4000000
namespace K51
open PySem PySem.Spec PyProof.Rows L2 HG P52
/-! ### lines: a row or an end -/
inductive Ln where
  | r (R : Rw)
  | e (E : Stp)
def Ln.word : Ln → Str
  | .r R => R.word
  | .e E => E.word
def Ln.L : Ln → List PyData
  | .r R => R.L
  | .e E => E.L
def Ln.los : Ln → List (Option Opd)
  | .r R => R.ops.map some
  | .e (.jp _) => []
  | .e (.br a _ _) => [some a]
  | .e (.rt a) => [a]
  | .e (.ht _) => []
def Ln.ops : Ln → List Opd
  | .r R => R.ops
  | .e E => E.ops
def ooV : Option Opd → List Nat
  | none => []
  | some a => a.vars
theorem los_vars (L : Ln) : L.los.flatMap ooV = opsVars L.ops := by
  cases L with
  | r R =>
    simp only [Ln.los, Ln.ops, opsVars, List.flatMap_map]
    rfl
  | e E =>
    cases E with
    | jp n => rfl
    | br a n m => rfl
    | rt a => cases a <;> rfl
    | ht i => rfl
theorem ln0 (L : Ln) : L.L[0]? = some (.str L.word) := by cases L <;> rfl
theorem ln_va {L : Ln} (h : in2 L.word "copy" "apply" = true) : ∃ (f : Nat) (as : List Opd), L.L[2]? = some (.int (f : Int)) ∧ (L.L ++ [.tuple []])[3]? = some (.tuple (as.map oD)) ∧ L.los.map ooD = vD f :: as.map oD ∧ as.length ≤ L.los.length ∧ L.L.length ≤ 5 := by
  cases L with
  | r R =>
    cases R
    case cp v u => exact ⟨u, [], rfl, rfl, rfl, Nat.zero_le _, Nat.le_of_ble_eq_true rfl⟩
    case ap v f as => exact ⟨f, as, rfl, rfl, by simp only [Ln.los, Rw.ops, List.map_cons, List.map_map]; rfl, by simp only [Ln.los, Rw.ops, List.map_cons, List.length_cons, List.length_map]; omega, Nat.le_of_ble_eq_true rfl⟩
    all_goals exact absurd h (by dsimp only [Ln.word, Rw.word]; decide +kernel)
  | e E => cases E <;> exact absurd h (by dsimp only [Ln.word, Stp.word]; decide +kernel)
theorem ln_call {L : Ln} (h : eqw L.word "call" = true) : L.L[3]? = some (.tuple (L.los.map ooD)) := by
  cases L with
  | r R =>
    cases R
    case ca v x as =>
      show some (PyData.tuple (as.map oD)) = some (PyData.tuple ((as.map some).map ooD))
      rw [List.map_map]
      rfl
    all_goals exact absurd h (by dsimp only [Ln.word, Rw.word]; decide +kernel)
  | e E => cases E <;> exact absurd h (by dsimp only [Ln.word, Stp.word]; decide +kernel)
theorem ln_br {L : Ln} (h : eqw L.word "branch" = true) : ∃ d, L.L[1]? = some d ∧ L.los.map ooD = [d] := by
  cases L with
  | r R =>
    cases R <;> exact absurd h (by dsimp only [Ln.word, Rw.word]; decide +kernel)
  | e E =>
    cases E
    case br a n m => exact ⟨_, rfl, rfl⟩
    all_goals exact absurd h (by dsimp only [Ln.word, Stp.word]; decide +kernel)
abbrev lastKV : List (Key × V) := [(Sum.inr "op", .int 3), (Sum.inr "read", .int 3), (Sum.inr "store", .int 2), (Sum.inr "write", .int 2), (Sum.inr "print", .int 1), (Sum.inr "return", .int 1)]
def lastV (x : Str) (n : Nat) : V := (valV lastKV (Sum.inr x)).getD (.int (n : Int))
theorem mergeLast : mergeK [] lastKV = lastKV := by decide +kernel
theorem ln_drop {L : Ln} (h1 : in2 L.word "copy" "apply" = false) (h2 : eqw L.word "call" = false) (h3 : eqw L.word "branch" = false) : ∃ k : Nat, lastV L.word L.L.length = .int (k : Int) ∧ L.L.drop k = L.los.map ooD := by
  cases L with
  | r R =>
    cases R with
    | cw v i => exact ⟨3, (by decide +kernel : lastV "const" 3 = .int ((3 : Nat) : Int)), rfl⟩
    | cf v i => exact ⟨3, (by decide +kernel : lastV "const" 3 = .int ((3 : Nat) : Int)), rfl⟩
    | cp v u => exact absurd h1 (by dsimp only [Ln.word, Rw.word]; decide +kernel)
    | op v x a b => exact ⟨3, (by decide +kernel : lastV "op" 5 = .int ((3 : Nat) : Int)), rfl⟩
    | ld v x => exact ⟨3, (by decide +kernel : lastV "load" 3 = .int ((3 : Nat) : Int)), rfl⟩
    | rd v x a => exact ⟨3, (by decide +kernel : lastV "read" 4 = .int ((3 : Nat) : Int)), rfl⟩
    | ca v x as => exact absurd h2 (by dsimp only [Ln.word, Rw.word]; decide +kernel)
    | ap v x as => exact absurd h1 (by dsimp only [Ln.word, Rw.word]; decide +kernel)
    | st x a => exact ⟨2, (by decide +kernel : lastV "store" 3 = .int ((2 : Nat) : Int)), rfl⟩
    | pr a => exact ⟨1, (by decide +kernel : lastV "print" 2 = .int ((1 : Nat) : Int)), rfl⟩
    | wr x a b => exact ⟨2, (by decide +kernel : lastV "write" 4 = .int ((2 : Nat) : Int)), rfl⟩
  | e E =>
    cases E with
    | jp n => exact ⟨2, (by decide +kernel : lastV "jump" 2 = .int ((2 : Nat) : Int)), rfl⟩
    | br a n m => exact absurd h3 (by dsimp only [Ln.word, Stp.word]; decide +kernel)
    | rt a => exact ⟨1, (by decide +kernel : lastV "return" 2 = .int ((1 : Nat) : Int)), rfl⟩
    | ht i => exact ⟨2, (by decide +kernel : lastV "halt" 2 = .int ((2 : Nat) : Int)), rfl⟩
def spOperands (K : PySem.W.Frag) : Sp := fun vs H Q _ => ∃ (v : V) (L : Ln), vs = [v] ∧ Dp K H v (.tuple L.L) ∧ L.los.length ≤ 1000 ∧
  ∀ (a : Addr) (xs : List V) (H' : Hp), H a = none → Same H H' → H' a = some (.lst xs) → DpAll K H' xs (L.los.map ooD) → Q (.ref a) H'
section
variable {P : Program} {w : World} {K : PySem.W.Frag} {mg : Str → Option Value} {base : Heap}
set_option pp.maxSteps 600 in
theorem c_operands (T : Txt w K mg) : Cal P w K mg base "_law_operands" 1 ["_law_row_here"] (spOperands K) := by
  obtain ⟨fd, F⟩ := T.d__law_operands
  refine ⟨⟨fd, F.ok sc__law_operands (fun vs H Q E h => ?_) (fun cdv A outer s H vs Q E hr h => ?_), F.bindsN fun _ _ _ _ _ _ us hl => match us, hl with | [_], _ => rfl⟩, T.g _ (by decide), F.kp⟩
  · obtain ⟨v, L, rfl, _⟩ := h
    rfl
  obtain ⟨v, L, rfl, hv, hl, q⟩ := h
  have hu := hu_of hr
  refine ⟨_, PSs.nox (pss_cons (ps_set (i := 1) sc__law_operands.nd rfl (.inl rfl) (pe_ix (ix_P (K := K) rfl) (pv 0) pe_int (fun _ _ => rfl)))
      (pss_cons (ps_if (pt_cmpR (op_in_seqK (K := K) rfl) (pv 1) (pe_tup (pa_cons pe_str (pa_cons pe_str pa_nil))) (by rfl)) (pss_one (ps_ret (pe_op op_cat (pe_lst (pa_cons (pe_tup (pa_cons pe_str (pa_cons (pe_ix (ix_P (K := K) rfl) (pv 0) pe_int (fun _ _ => rfl)) pa_nil))) pa_nil)) (pe_callTy call_list_of (by rfl) T.n_list (by decide +kernel) (pa_cons (pe_ix (ix_P (K := K) rfl) (pe_op (op_catP (K := K) rfl) (pv 0) (pe_tup (pa_cons (pe_tup pa_nil) pa_nil))) pe_int (fun _ _ => rfl)) pa_nil))))) pss_nil)
      (pss_cons (ps_set (i := 2) sc__law_operands.nd rfl (.inl rfl) (pe_dget2 hu (pe_disp (pps_cons pe_str pe_int (pps_cons pe_str pe_int (pps_cons pe_str pe_int (pps_cons pe_str pe_int (pps_cons pe_str pe_int (pps_cons pe_str pe_int pps_nil)))))) (by rfl) (by rfl) (fun z => by cases z) (by decide)) (pv 1) (pe_callB (lenK (K := K) rfl) (by rfl) T.n_len (by decide +kernel) (pa_cons (pv 0) pa_nil)) ⟨rfl, rfl, rfl, rfl⟩))
      (pss_cons (ps_if (pt_cmpR op_eq (pv 1) pe_str (nomark _)) (pss_one (ps_ret (pe_callTy call_list_of (by rfl) T.n_list (by decide +kernel) (pa_cons (pe_ix (ix_P (K := K) rfl) (pv 0) pe_int (fun _ _ => rfl)) pa_nil)))) pss_nil)
      (pss_one (ps_ret (pe_ifExp (pt_cmpR op_eq (pv 1) pe_str (nomark _)) (pe_lst (pa_cons (pe_ix (ix_P (K := K) rfl) (pv 0) pe_int (fun _ _ => rfl)) pa_nil)) (pe_callTy call_list_of (by rfl) T.n_list (by decide +kernel) (pa_cons (pe_slice (sl_P (K := K) rfl) (pv 0) (po_some (pv 2)) po_none) pa_nil))))))))), ?_⟩
  refine ⟨v, rfl, _, 0, _, hv, rfl, ln0 L, fun z hz => ?_⟩
  cases hz
  refine ⟨_, rfl, (by show 2 ≤ sizeLine; decide), fun p1 hp1 => ⟨_, _, rfl, .inr (.inl (.inl upd_same)), rfl, rfl, _, rfl, ?_⟩⟩
  have s1 := same_new (o := .tup [.str "copy", .str "apply"]) hp1
  generalize upd H p1 (.tup [.str "copy", .str "apply"]) = H1 at s1 ⊢
  have hv1 := dp_mono s1 _ _ hv
  show if in2 L.word "copy" "apply" = true then _ else _
  cases h1 : in2 L.word "copy" "apply" with
  | true =>
    obtain ⟨f, as, e2, e3, e4, e5, e6⟩ := ln_va h1
    refine iteT ⟨v, rfl, _, 2, _, hv1, rfl, e2, fun z2 h2 => ?_⟩
    cases h2
    refine ⟨(by show 2 ≤ sizeLine; decide), fun p3 hp3 => ⟨(by show 1 ≤ sizeLine; decide), fun l4 hl4 => ?_⟩⟩
    have s3 := same_new (o := .tup [.str "var", .int (f : Int)]) hp3
    have d3 : Dp K (upd H1 p3 (.tup [.str "var", .int (f : Int)])) (.ref p3) (vD f) := dp_tupN hp3 (.cons (.str _) (.cons (.int _) .nil))
    generalize upd H1 p3 (.tup [.str "var", .int (f : Int)]) = H3 at s3 d3 hl4 ⊢
    have s4 := same_new (o := .lst [.ref p3]) hl4
    have e40 : (upd H3 l4 (.lst [.ref p3])) l4 = some (.lst [.ref p3]) := upd_same
    generalize upd H3 l4 (.lst [.ref p3]) = H4 at s4 e40 ⊢
    have s14 := s3.trans s4
    refine ⟨v, rfl, Nat.zero_le _, fun p5 hp5 => ⟨(by show 1 ≤ sizeLine; decide), fun p6 hp6 => ?_⟩⟩
    have s5 := same_new (o := .tup []) hp5
    have d5 : Dp K (upd H4 p5 (.tup [])) (.ref p5) (.tuple []) := dp_tupN hp5 .nil
    generalize upd H4 p5 (.tup []) = H5 at s5 d5 hp6 ⊢
    have s6 := same_new (o := .tup [.ref p5]) hp6
    have d6 : Dp K (upd H5 p6 (.tup [.ref p5])) (.ref p6) (.tuple [.tuple []]) := dp_tupN hp6 (.cons d5 .nil)
    generalize upd H5 p6 (.tup [.ref p5]) = H6 at s6 d6 ⊢
    refine ⟨_, _, dp_mono (s14.trans (s5.trans s6)) _ _ hv1, d6, ?_, fun z7 H7 s7 h7 => ⟨_, 3, _, h7, rfl, e3, fun z8 h8 => ?_⟩⟩
    · rw [sizeLine_eq]
      show L.L.length + 1 ≤ 16777216
      omega
    cases h8 with
    | @tup a8 xs8 _ sq8 ha8 =>
      have hxl := dpAll_len ha8
      rw [List.length_map] at hxl
      refine ⟨a8, xs8, rfl, .inr sq8, fun l9 hl9 => ?_⟩
      have s9 := same_new (o := .lst xs8) hl9
      have e90 : (upd H7 l9 (.lst xs8)) l9 = some (.lst xs8) := upd_same
      have s49 := s5.trans (s6.trans (s7.trans s9))
      have ha9 := dpAll_mono s9 _ _ ha8
      generalize upd H7 l9 (.lst xs8) = H9 at s9 e90 s49 ha9 ⊢
      refine ⟨l4, l9, _, _, rfl, rfl, s49 _ _ e40, e90, ?_, fun p10 hp10 => ?_⟩
      · rw [sizeLine_eq]
        show 1 + xs8.length ≤ 16777216
        omega
      have s10 := same_new (o := .lst ([.ref p3] ++ xs8)) hp10
      have sA := s1.trans (s14.trans s49)
      refine q p10 _ _ (none_same sA hp10) (sA.trans s10) upd_same ?_
      rw [e4]
      exact .cons (dp_mono (s4.trans (s49.trans s10)) _ _ d3) (dpAll_mono s10 _ _ ha9)
  | false =>
    refine iteF ?_
    intro dd hdd
    refine ⟨upd_same, lastKV, rfl, (by show 6 ≤ 15; decide), ?_⟩
    generalize eH : upd (upd H1 dd (.dK [])) dd (.dK (mergeK [] lastKV)) = H2
    have s2 : Same H1 H2 := fun b o e => by
      rw [← eH, upd_ne (ne_of_none e hdd), upd_ne (ne_of_none e hdd)]
      exact e
    have hd2 : H2 dd = some (.dK lastKV) := by
      rw [← eH, upd_same, mergeLast]
    have s02 := s1.trans s2
    have hv2 := dp_mono s02 _ _ hv
    have hlv : LenV K v H2 L.L.length := by
      cases hv2 with
      | @tup a2 xs2 _ sq2 ha2 => exact .inr ⟨xs2, sq2, (dpAll_len ha2).symm⟩
    refine ⟨dd, rfl, .inl ⟨_, .inl hd2⟩, _, rfl, v, rfl, v, _, rfl, hlv, _, DGet.k (k := Sum.inr L.word) hd2, ?_⟩
    refine ⟨_, rfl, rfl, _, rfl, ?_⟩
    show if eqw L.word "call" = true then _ else _
    cases h2 : eqw L.word "call" with
    | true =>
      refine iteT ⟨v, rfl, _, 3, _, hv2, rfl, ln_call h2, fun z3 h3 => ?_⟩
      cases h3 with
      | @tup a8 xs8 _ sq8 ha8 =>
        refine ⟨a8, xs8, rfl, .inr sq8, fun l9 hl9 => ?_⟩
        have s9 := same_new (o := .lst xs8) hl9
        exact q l9 _ _ (none_same s02 hl9) (s02.trans s9) upd_same (dpAll_mono s9 _ _ ha8)
    | false =>
      refine iteF ⟨_, rfl, rfl, _, rfl, ?_⟩
      show if eqw L.word "branch" = true then _ else _
      cases h3 : eqw L.word "branch" with
      | true =>
        obtain ⟨d, e1, e4⟩ := ln_br h3
        refine iteT ⟨v, rfl, _, 1, _, hv2, rfl, e1, fun z3 hz3 => ⟨(by show 1 ≤ sizeLine; decide), fun l9 hl9 => ?_⟩⟩
        have s9 := same_new (o := .lst [z3]) hl9
        refine q l9 _ _ (none_same s02 hl9) (s02.trans s9) upd_same ?_
        rw [e4]
        exact .cons (dp_mono s9 _ _ hz3) .nil
      | false =>
        obtain ⟨k, ek, ed⟩ := ln_drop h1 h2 h3
        refine iteF ⟨v, rfl, _, rfl, (k : Int), ek, _, hv2, fun z4 H4 s4 h4 => ?_⟩
        rw [cutP_from, ed] at h4
        cases h4 with
        | @tup a8 xs8 _ sq8 ha8 =>
          refine ⟨a8, xs8, rfl, .inr sq8, fun l9 hl9 => ?_⟩
          have s9 := same_new (o := .lst xs8) hl9
          have s04 := s02.trans s4
          exact q l9 _ _ (none_same s04 hl9) (s04.trans s9) upd_same (dpAll_mono s9 _ _ ha8)
def spVars (K : PySem.W.Frag) : Sp := fun vs H Q _ => ∃ (v : V) (L : Ln), vs = [v] ∧ Dp K H v (.tuple L.L) ∧ L.los.length ≤ 1000 ∧
  ∀ (a : Addr) (H' : Hp), H a = none → Same H H' → H' a = some (.lst ((opsVars L.ops).map nV)) → Q (.ref a) H'
theorem ooV_len (a : Option Opd) : (ooV a).length ≤ 1 := by
  cases a with
  | none => exact Nat.zero_le _
  | some a => cases a <;> exact Nat.le_of_ble_eq_true rfl
theorem fm_len : ∀ l : List (Option Opd), (l.flatMap ooV).length ≤ l.length
  | [] => Nat.le_refl _
  | a :: l => by
    have h1 := ooV_len a
    have h2 := fm_len l
    rw [List.flatMap_cons, List.length_append, List.length_cons]
    omega
set_option pp.maxSteps 600 in
theorem c_vars (T : Txt w K mg) : Cal P w K mg base "_law_variables" 2 ["_law_row_here"] (spVars K) := by
  obtain ⟨fd, F⟩ := T.d__law_variables
  have C__law_operands := c_operands (P := P) (base := base) T
  refine ⟨⟨fd, F.ok sc__law_variables (fun vs H Q E h => ?_) (fun cdv A outer s H vs Q E hr h => ?_), F.bindsN fun _ _ _ _ _ _ us hl => match us, hl with | [_], _ => rfl⟩, T.g _ (by decide), F.kp⟩
  · obtain ⟨v, L, rfl, _⟩ := h
    rfl
  obtain ⟨v, L, rfl, hv, hl, q⟩ := h
  refine ⟨_, PSs.nox (pss_one (ps_ret (pe_lc (own := [("_law_one", 1)]) (by rfl) sc__law_variables.nd (pi_list (pe_cal C__law_operands (hr.mono (by omega)) (by rfl) (pa_cons (pv 0) pa_nil))) (blkOk_by (own := [("_law_one", 1)]) (N := N__law_variables) (sc := defScope s__law_variables) (by decide +kernel)) (fun _ _ _ _ _ => (pg_name (i := 1) sc__law_variables.nd rfl (.inl rfl))) (fun _ _ _ _ _ => pts_one (pt_val (pe_callB (isiK (K := K) rfl) (by rfl) T.n_isinstance (by decide +kernel) (pa_cons (pv 1) (pa_cons (pe_bltn (v := .ty "tuple") (u := .type "tuple") (by rfl) T.n_tuple (by decide +kernel) rfl) pa_nil))))) (fun _ _ _ _ _ => (pe_ix (ix_P (K := K) rfl) (pv 1) pe_int (fun _ _ => rfl)))))), ?_⟩
  refine ⟨v, rfl, v, L, rfl, hv, hl, fun a xs H1 ha s1 e1 hx => ⟨a, rfl, ⟨_, .inl (.inl e1)⟩, fun D hD => ?_⟩⟩
  have hxl := dpAll_len hx
  rw [List.length_map] at hxl
  refine lc_list (xs := xs) (fun i H2 => H2 D = some (.lst (((L.los.take i).flatMap ooV).map nV)) ∧ Same H1 H2) ⟨upd_same, same_new hD⟩ ?_ ?_ ?_
  · rintro i H2 _ ⟨_, s2⟩
    exact .inl (.inl (s2 _ _ e1))
  · rintro i x H2 hi ⟨h2, s2⟩
    obtain ⟨o, ho, hxo⟩ := dpAll_map_get hx hi
    have hxo := dp_mono s2 _ _ hxo
    have et : (L.los.take (i + 1)).flatMap ooV = (L.los.take i).flatMap ooV ++ ooV o := by
      rw [List.take_add_one, ho, List.flatMap_append]
      show _ ++ (ooV o ++ []) = _
      rw [List.append_nil]
    refine ⟨rfl, x, rfl, x, .ty "tuple", _, _, _, rfl, .ty _, dp_ty hxo, kit_ty (kit_tuple _), _, rfl, ?_⟩
    cases o with
    | none =>
      refine iteF ⟨?_, s2⟩
      rw [et]
      show H2 D = some (.lst ((_ ++ []).map nV))
      rw [List.append_nil]
      exact h2
    | some o =>
      cases o with
      | w j =>
        refine iteF ⟨?_, s2⟩
        rw [et]
        show H2 D = some (.lst ((_ ++ []).map nV))
        rw [List.append_nil]
        exact h2
      | v n =>
        refine iteT ⟨x, rfl, _, 1, _, hxo, rfl, rfl, fun z hz => ?_⟩
        cases hz
        refine ⟨_, h2, ?_, ?_, ?_⟩
        · rw [List.length_map]
          have := fm_len (L.los.take i)
          rw [List.length_take] at this
          exact small_line (by omega)
        · rw [upd_same, et, List.map_append]
          rfl
        · intro b' o' e'
          rw [upd_ne (ne_of_none e' hD)]
          exact s2 _ _ e'
  · rintro H2 ⟨h2, s2⟩
    rw [hxl, List.take_length, los_vars] at h2
    exact q D H2 (none_same s1 hD) (s1.trans s2) h2
end
end K51

set_option maxHeartbeats 4000000
/-! P51: which variables are used later, which are apart, the best slots, what is an assignment: plain. -/
namespace P51
open PySem HG P52
/-! ### sorted sets of small numbers -/
def Lo (l : List Nat) : Prop := ∀ n ∈ l, n < 16
def srt (l : List Nat) : List Nat := (List.range 16).filter fun n => decide (n ∈ l)
theorem Lo.app {a b : List Nat} (ha : Lo a) (hb : Lo b) : Lo (a ++ b) := fun n hn => (List.mem_append.mp hn).elim (ha n) (hb n)
theorem lo_srt (l : List Nat) : Lo (srt l) := fun n hn => List.mem_range.mp (List.mem_filter.mp hn).1
theorem mem_srt {l : List Nat} (h : Lo l) {n : Nat} : n ∈ srt l ↔ n ∈ l := by
  unfold srt
  rw [List.mem_filter, decide_eq_true_eq, List.mem_range]
  exact ⟨fun h => h.2, fun hn => ⟨h n hn, hn⟩⟩
theorem mem_srt1 {l : List Nat} {n : Nat} (h : n ∈ srt l) : n ∈ l := of_decide_eq_true (List.mem_filter.mp h).2
theorem pw_srt (l : List Nat) : (srt l).Pairwise (· < ·) := List.Pairwise.filter _ List.pairwise_lt_range
theorem srt_len (l : List Nat) : (srt l).length ≤ 16 := by
  have := List.length_filter_le (fun n => decide (n ∈ l)) (List.range 16)
  rw [List.length_range] at this
  exact this
theorem srt_congr {a b : List Nat} (h : ∀ n, n ∈ a ↔ n ∈ b) : srt a = srt b := by
  unfold srt
  refine List.filter_congr fun n _ => ?_
  exact decide_eq_decide.mpr (h n)
theorem pw_ext : ∀ {a b : List Int}, a.Pairwise (· < ·) → b.Pairwise (· < ·) → (∀ x, x ∈ a ↔ x ∈ b) → a = b
  | [], [], _, _, _ => rfl
  | [], y :: b, _, _, h => by cases (h y).mpr List.mem_cons_self
  | x :: a, [], _, _, h => by cases (h x).mp List.mem_cons_self
  | x :: a, y :: b, ha, hb, h => by
    rw [List.pairwise_cons] at ha hb
    have exy : x = y := by
      rcases List.mem_cons.mp ((h x).mp List.mem_cons_self) with e | e
      · exact e
      · rcases List.mem_cons.mp ((h y).mpr List.mem_cons_self) with e2 | e2
        · exact e2.symm
        · have h1 := hb.1 x e
          have h2 := ha.1 y e2
          omega
    subst exy
    congr 1
    refine pw_ext ha.2 hb.2 fun z => ?_
    constructor
    · intro hz
      rcases List.mem_cons.mp ((h z).mp (List.mem_cons_of_mem _ hz)) with e | e
      · have := ha.1 z hz
        omega
      · exact e
    · intro hz
      rcases List.mem_cons.mp ((h z).mpr (List.mem_cons_of_mem _ hz)) with e | e
      · have := hb.1 z hz
        omega
      · exact e
abbrev iN (n : Nat) : Int := (n : Int)
theorem pw_iN {l : List Nat} (h : l.Pairwise (· < ·)) : (l.map iN).Pairwise (· < ·) := List.Pairwise.map _ (fun _ _ h => Int.ofNat_lt.mpr h) h
theorem srt_of {ns : List Int} {l : List Nat} (hl : Lo l) (h : ns.Pairwise (· < ·)) (hm : ∀ k, k ∈ ns ↔ k ∈ l.map iN) : ns = (srt l).map iN := by
  refine pw_ext h (pw_iN (pw_srt l)) fun x => ?_
  rw [hm x, List.mem_map, List.mem_map]
  exact ⟨fun ⟨n, hn, e⟩ => ⟨n, (mem_srt hl).mpr hn, e⟩, fun ⟨n, hn, e⟩ => ⟨n, (mem_srt hl).mp hn, e⟩⟩
/-! ### used later -/
def ne1 (R : Rw) (v : Nat) : Bool := decide (R.set ≠ some v)
def bef (R : Rw) (u : List Nat) : List Nat := srt (u.filter (ne1 R) ++ opsVars R.ops)
abbrev at_ (cl : List (List Nat)) (n : Nat) : List Nat := cl.getD n []
def endU (E : Stp) (cl : List (List Nat)) : List Nat := srt (opsVars E.ops ++ E.to.flatMap (at_ cl))
def rowsU : List Rw → List Nat → List Nat
  | [], u => u
  | R :: r, u => rowsU r (bef R u)
def begU (b : Blk) (cl : List (List Nat)) : List Nat := rowsU b.rows.reverse (endU b.stop cl)
/-- the variables are small -/
structure Small (g : Gr) : Prop where
  row : ∀ b ∈ g.blocks, ∀ R ∈ b.rows, Lo (opsVars R.ops)
  set : ∀ b ∈ g.blocks, ∀ R ∈ b.rows, ∀ n, R.set = some n → n < 16
  stop : ∀ b ∈ g.blocks, Lo (opsVars b.stop.ops)
abbrev LoA (cl : List (List Nat)) : Prop := ∀ l ∈ cl, Lo l
theorem lo_at {cl : List (List Nat)} (h : LoA cl) (n : Nat) : Lo (at_ cl n) := by
  show Lo (cl.getD n [])
  rw [List.getD_eq_getElem?_getD]
  cases hn : cl[n]? with
  | none => exact fun _ h => nomatch h
  | some l => exact h l (List.mem_of_getElem? hn)
theorem lo_tos {cl : List (List Nat)} (h : LoA cl) (l : List Nat) : Lo (l.flatMap (at_ cl)) := fun n hn => by
  obtain ⟨m, _, hn⟩ := List.mem_flatMap.mp hn
  exact lo_at h m n hn
theorem lo_filter {l : List Nat} (h : Lo l) (p : Nat → Bool) : Lo (l.filter p) := fun n hn => h n (List.mem_filter.mp hn).1
theorem lo_bef (R : Rw) (u : List Nat) : Lo (bef R u) := lo_srt _
theorem lo_rowsU : ∀ (r : List Rw) {u : List Nat}, Lo u → Lo (rowsU r u)
  | [], _, h => h
  | R :: r, _, _ => lo_rowsU r (lo_bef R _)
theorem lo_begU (b : Blk) (cl : List (List Nat)) : Lo (begU b cl) := lo_rowsU _ (lo_srt _)
theorem bef_mono {R : Rw} {u u' : List Nat} (hR : Lo (opsVars R.ops)) (hu : Lo u) (hu' : Lo u') (h : ∀ n ∈ u, n ∈ u') : ∀ n ∈ bef R u, n ∈ bef R u' := fun n hn => by
  unfold bef at hn ⊢
  rw [mem_srt ((lo_filter hu _).app hR)] at hn
  rw [mem_srt ((lo_filter hu' _).app hR)]
  rcases List.mem_append.mp hn with hn | hn
  · obtain ⟨h1, h2⟩ := List.mem_filter.mp hn
    exact List.mem_append.mpr (.inl (List.mem_filter.mpr ⟨h n h1, h2⟩))
  · exact List.mem_append.mpr (.inr hn)
theorem rowsU_mono : ∀ (r : List Rw) {u u' : List Nat}, (∀ R ∈ r, Lo (opsVars R.ops)) → Lo u → Lo u' → (∀ n ∈ u, n ∈ u') → ∀ n ∈ rowsU r u, n ∈ rowsU r u'
  | [], _, _, _, _, _, h => h
  | R :: r, _, _, hr, hu, hu', h => rowsU_mono r (fun Q hQ => hr Q (List.mem_cons_of_mem _ hQ)) (lo_bef R _) (lo_bef R _) (bef_mono (hr R List.mem_cons_self) hu hu' h)
def Le (cl cl' : List (List Nat)) : Prop := ∀ i, ∀ n ∈ at_ cl i, n ∈ at_ cl' i
theorem begU_mono {g : Gr} (S : Small g) {b : Blk} (hb : b ∈ g.blocks) {cl cl' : List (List Nat)} (h1 : LoA cl) (h2 : LoA cl') (h : Le cl cl') : ∀ n ∈ begU b cl, n ∈ begU b cl' := by
  refine rowsU_mono _ (fun R hR => S.row b hb R (List.mem_reverse.mp hR)) (lo_srt _) (lo_srt _) fun n hn => ?_
  unfold endU at hn ⊢
  have hs := S.stop b hb
  rw [mem_srt (hs.app (lo_tos h1 _))] at hn
  rw [mem_srt (hs.app (lo_tos h2 _))]
  rcases List.mem_append.mp hn with hn | hn
  · exact List.mem_append.mpr (.inl hn)
  · obtain ⟨m, hm, hn⟩ := List.mem_flatMap.mp hn
    exact List.mem_append.mpr (.inr (List.mem_flatMap.mpr ⟨m, hm, h m n hn⟩))
/-- what both hands end with -/
structure Fx (g : Gr) (cl : List (List Nat)) : Prop where
  len : cl.length = g.blocks.length
  lo : LoA cl
  eq : ∀ i b, g.blocks[i]? = some b → at_ cl i = begU b cl
/-- on the way there -/
structure Bw (g : Gr) (cl : List (List Nat)) : Prop where
  len : cl.length = g.blocks.length
  lo : LoA cl
  pw : ∀ l ∈ cl, l.Pairwise (· < ·)
  le : ∀ fx, Fx g fx → Le cl fx
  up : ∀ i b, g.blocks[i]? = some b → ∀ n ∈ at_ cl i, n ∈ begU b cl
  vs : ∀ l ∈ cl, ∀ n ∈ l, n ∈ g.vars
theorem at_vs {g : Gr} {cl : List (List Nat)} (h : ∀ l ∈ cl, ∀ n ∈ l, n ∈ g.vars) (i : Nat) : ∀ n ∈ at_ cl i, n ∈ g.vars := by
  show ∀ n ∈ cl.getD i [], _
  rw [List.getD_eq_getElem?_getD]
  cases hn : cl[i]? with
  | none => exact fun _ h => nomatch h
  | some l => exact h l (List.mem_of_getElem? hn)
theorem endU_vs {g : Gr} {b : Blk} (hb : b ∈ g.blocks) {cl : List (List Nat)} (h : ∀ l ∈ cl, ∀ n ∈ l, n ∈ g.vars) : ∀ n ∈ endU b.stop cl, n ∈ g.vars := fun n hn => by
  rcases List.mem_append.mp (mem_srt1 hn) with hn | hn
  · exact List.mem_flatMap.mpr ⟨b, hb, List.mem_append.mpr (.inl hn)⟩
  · obtain ⟨m, _, hn⟩ := List.mem_flatMap.mp hn
    exact at_vs h m n hn
theorem bef_vs {g : Gr} {b : Blk} (hb : b ∈ g.blocks) {R : Rw} (hR : R ∈ b.rows) {u : List Nat} (h : ∀ n ∈ u, n ∈ g.vars) : ∀ n ∈ bef R u, n ∈ g.vars := fun n hn => by
  rcases List.mem_append.mp (mem_srt1 hn) with hn | hn
  · exact h n (List.mem_filter.mp hn).1
  · exact List.mem_flatMap.mpr ⟨b, hb, List.mem_append.mpr (.inr (List.mem_flatMap.mpr ⟨R, hR, List.mem_append.mpr (.inl hn)⟩))⟩
theorem rowsU_vs {g : Gr} {b : Blk} (hb : b ∈ g.blocks) : ∀ (r : List Rw) {u : List Nat}, (∀ R ∈ r, R ∈ b.rows) → (∀ n ∈ u, n ∈ g.vars) → ∀ n ∈ rowsU r u, n ∈ g.vars
  | [], _, _, h => h
  | R :: r, _, hr, h => rowsU_vs hb r (fun Q hQ => hr Q (List.mem_cons_of_mem _ hQ)) (bef_vs hb (hr R List.mem_cons_self) h)
theorem begU_vs {g : Gr} {b : Blk} (hb : b ∈ g.blocks) {cl : List (List Nat)} (h : ∀ l ∈ cl, ∀ n ∈ l, n ∈ g.vars) : ∀ n ∈ begU b cl, n ∈ g.vars :=
  rowsU_vs hb _ (fun R hR => List.mem_reverse.mp hR) (endU_vs hb h)
theorem at_rep (k i : Nat) : at_ (List.replicate k []) i = [] := by
  show (List.replicate k ([] : List Nat)).getD i [] = []
  rw [List.getD_eq_getElem?_getD, List.getElem?_replicate]
  split <;> rfl
theorem bw_nil (g : Gr) : Bw g (List.replicate g.blocks.length []) := by
  refine ⟨List.length_replicate, fun l hl n hn => ?_, fun l hl => ?_, fun fx _ i n hn => ?_, fun i b _ n hn => ?_, fun l hl n hn => by rw [List.eq_of_mem_replicate hl] at hn; cases hn⟩
  · rw [List.eq_of_mem_replicate hl] at hn; cases hn
  · rw [List.eq_of_mem_replicate hl]; exact .nil
  · rw [at_rep] at hn; cases hn
  · rw [at_rep] at hn; cases hn
theorem pw_rowsU : ∀ (r : List Rw) {u : List Nat}, u.Pairwise (· < ·) → (rowsU r u).Pairwise (· < ·)
  | [], _, h => h
  | R :: r, _, _ => pw_rowsU r (pw_srt _)
theorem pw_begU (b : Blk) (cl : List (List Nat)) : (begU b cl).Pairwise (· < ·) := pw_rowsU _ (pw_srt _)
theorem at_set {cl : List (List Nat)} {k : Nat} (hk : k < cl.length) (l : List Nat) (i : Nat) : at_ (cl.set k l) i = if i = k then l else at_ cl i := by
  show (cl.set k l).getD i [] = _
  rw [List.getD_eq_getElem?_getD, List.getElem?_set]
  by_cases h : k = i
  · subst h
    simp [hk]
  · rw [if_neg h, if_neg (fun e => h e.symm), ← List.getD_eq_getElem?_getD]
theorem bw_set {g : Gr} (S : Small g) {cl : List (List Nat)} (B : Bw g cl) {k : Nat} {b : Blk} (hb : g.blocks[k]? = some b) : Bw g (cl.set k (begU b cl)) ∧ Le cl (cl.set k (begU b cl)) := by
  have hk : k < cl.length := by rw [B.len]; exact (List.getElem?_eq_some_iff.mp hb).1
  have hbm := List.mem_of_getElem? hb
  have lo' : LoA (cl.set k (begU b cl)) := fun l hl => by
    rcases List.mem_or_eq_of_mem_set hl with h | h
    · exact B.lo l h
    · rw [h]; exact lo_begU b cl
  have le1 : Le cl (cl.set k (begU b cl)) := fun i n hn => by
    rw [at_set hk]
    split
    · rename_i e
      subst e
      exact B.up _ b hb n hn
    · exact hn
  refine ⟨⟨by rw [List.length_set, B.len], lo', fun l hl => ?_, fun fx hf i n hn => ?_, fun i b' hb' n hn => ?_, fun l hl => (List.mem_or_eq_of_mem_set hl).elim (B.vs l) (fun e => e ▸ begU_vs hbm B.vs)⟩, le1⟩
  · rcases List.mem_or_eq_of_mem_set hl with h | h
    · exact B.pw l h
    · rw [h]; exact pw_begU b cl
  · rw [at_set hk] at hn
    split at hn
    · rename_i e
      subst e
      rw [hf.eq _ b hb]
      exact begU_mono S hbm B.lo hf.lo (B.le fx hf) n hn
    · exact B.le fx hf i n hn
  · rw [at_set hk] at hn
    have hbm' := List.mem_of_getElem? hb'
    split at hn
    · rename_i e
      subst e
      rw [hb] at hb'
      cases hb'
      exact begU_mono S hbm B.lo lo' le1 n hn
    · exact begU_mono S hbm' B.lo lo' le1 n (B.up i b' hb' n hn)
theorem at_map {g : Gr} {cl : List (List Nat)} {i : Nat} {b : Blk} (hb : g.blocks[i]? = some b) : at_ (g.blocks.map (begU · cl)) i = begU b cl := by
  show (g.blocks.map (begU · cl)).getD i [] = _
  rw [List.getD_eq_getElem?_getD, List.getElem?_map, hb]
  rfl
theorem bw_all {g : Gr} (S : Small g) {cl : List (List Nat)} (B : Bw g cl) : Bw g (g.blocks.map (begU · cl)) ∧ Le cl (g.blocks.map (begU · cl)) := by
  have lo' : LoA (g.blocks.map (begU · cl)) := fun l hl => by
    obtain ⟨b, _, rfl⟩ := List.mem_map.mp hl
    exact lo_begU b cl
  have le1 : Le cl (g.blocks.map (begU · cl)) := fun i n hn => by
    cases hb : g.blocks[i]? with
    | none =>
      have e : at_ cl i = [] := by
        show cl.getD i [] = []
        rw [List.getD_eq_getElem?_getD, List.getElem?_eq_none (by rw [B.len]; exact List.getElem?_eq_none_iff.mp hb)]
        rfl
      rw [e] at hn
      cases hn
    | some b =>
      rw [at_map hb]
      exact B.up i b hb n hn
  refine ⟨⟨List.length_map _, lo', fun l hl => ?_, fun fx hf i n hn => ?_, fun i b hb n hn => ?_, fun l hl => by
    obtain ⟨b, hb, rfl⟩ := List.mem_map.mp hl
    exact begU_vs hb B.vs⟩, le1⟩
  · obtain ⟨b, _, rfl⟩ := List.mem_map.mp hl
    exact pw_begU b cl
  · cases hb : g.blocks[i]? with
    | none =>
      have e : at_ (g.blocks.map (begU · cl)) i = [] := by
        show (g.blocks.map (begU · cl)).getD i [] = []
        rw [List.getD_eq_getElem?_getD, List.getElem?_map, hb]
        rfl
      rw [e] at hn
      cases hn
    | some b =>
      rw [at_map hb] at hn
      rw [hf.eq i b hb]
      exact begU_mono S (List.mem_of_getElem? hb) B.lo hf.lo (B.le fx hf) n hn
  · rw [at_map hb] at hn
    exact begU_mono S (List.mem_of_getElem? hb) B.lo lo' le1 n hn
theorem pw_eq {a b : List Nat} (ha : a.Pairwise (· < ·)) (hb : b.Pairwise (· < ·)) (h : ∀ n, n ∈ a ↔ n ∈ b) : a = b := by
  have e := pw_ext (pw_iN ha) (pw_iN hb) fun x => by
    rw [List.mem_map, List.mem_map]
    exact ⟨fun ⟨n, hn, e⟩ => ⟨n, (h n).mp hn, e⟩, fun ⟨n, hn, e⟩ => ⟨n, (h n).mpr hn, e⟩⟩
  exact (List.map_inj_right (f := iN) (fun _ _ h => Int.ofNat.inj h)).mp e
/-- there is but one -/
theorem fx_one {g : Gr} {a b : List (List Nat)} (ha : Fx g a) (hb : Fx g b) (Ba : Bw g a) (Bb : Bw g b) : a = b := by
  refine List.ext_getElem (by rw [ha.len, hb.len]) fun i h1 h2 => ?_
  have e1 : at_ a i = a[i] := by
    show a.getD i [] = _
    rw [List.getD_eq_getElem?_getD, List.getElem?_eq_getElem h1]
    rfl
  have e2 : at_ b i = b[i] := by
    show b.getD i [] = _
    rw [List.getD_eq_getElem?_getD, List.getElem?_eq_getElem h2]
    rfl
  refine pw_eq (Ba.pw _ (List.getElem_mem h1)) (Bb.pw _ (List.getElem_mem h2)) fun n => ?_
  rw [← e1, ← e2]
  exact ⟨Ba.le b hb i n, Bb.le a ha i n⟩
/-! ### how long it may take -/
def size (cl : List (List Nat)) : Nat := (cl.map List.length).sum
theorem size_le : ∀ {cl : List (List Nat)}, (∀ l ∈ cl, Lo l ∧ l.Pairwise (· < ·)) → size cl ≤ 16 * cl.length
  | [], _ => Nat.le_refl _
  | l :: cl, h => by
    have ih := size_le (cl := cl) fun l hl => h l (List.mem_cons_of_mem _ hl)
    obtain ⟨h1, h2⟩ := h l List.mem_cons_self
    have e : l = srt l := pw_eq h2 (pw_srt l) fun n => (mem_srt h1).symm
    have h3 := srt_len l
    rw [← e] at h3
    unfold size at *
    rw [List.map_cons, List.sum_cons, List.length_cons]
    omega
theorem len_sub : ∀ {a b : List Nat}, a.Pairwise (· < ·) → b.Pairwise (· < ·) → (∀ n ∈ a, n ∈ b) → a.length ≤ b.length ∧ (a.length = b.length → a = b)
  | [], b, _, _, _ => ⟨Nat.zero_le _, fun h => by cases b with | nil => rfl | cons _ _ => cases h⟩
  | x :: a, [], _, _, h => by cases h x List.mem_cons_self
  | x :: a, y :: b, ha, hb, h => by
    have ha' := List.pairwise_cons.mp ha
    have hb' := List.pairwise_cons.mp hb
    by_cases e : x = y
    · subst e
      have ih := len_sub ha'.2 hb'.2 fun n hn => by
        rcases List.mem_cons.mp (h n (List.mem_cons_of_mem _ hn)) with e | e
        · have := ha'.1 n hn
          omega
        · exact e
      refine ⟨Nat.succ_le_succ ih.1, fun hl => ?_⟩
      rw [ih.2 (Nat.succ.inj hl)]
    · have hx : ∀ n ∈ x :: a, n ∈ b := fun n hn => by
        rcases List.mem_cons.mp (h n hn) with e2 | e2
        · subst e2
          rcases List.mem_cons.mp hn with e3 | e3
          · exact absurd e3.symm e
          · have h1 := ha'.1 n e3
            rcases List.mem_cons.mp (h x List.mem_cons_self) with e4 | e4
            · exact absurd e4 e
            · have h2 := hb'.1 x e4
              omega
        · exact e2
      have ih := len_sub ha hb'.2 hx
      refine ⟨Nat.le_succ_of_le ih.1, fun hl => ?_⟩
      have h1 := ih.1
      rw [List.length_cons, List.length_cons] at hl
      rw [List.length_cons] at h1
      omega
theorem size_sub : ∀ {a b : List (List Nat)}, a.length = b.length → (∀ l ∈ a, l.Pairwise (· < ·)) → (∀ l ∈ b, l.Pairwise (· < ·)) → Le a b → size a ≤ size b ∧ (size a = size b → a = b)
  | [], [], _, _, _, _ => ⟨Nat.le_refl _, fun _ => rfl⟩
  | [], _ :: _, h, _, _, _ => by cases h
  | _ :: _, [], h, _, _, _ => by cases h
  | x :: a, y :: b, hl, ha, hb, h => by
    have ih := size_sub (a := a) (b := b) (Nat.succ.inj hl) (fun l hl => ha l (List.mem_cons_of_mem _ hl)) (fun l hl => hb l (List.mem_cons_of_mem _ hl)) fun i n hn => h (i + 1) n hn
    have h0 := len_sub (ha x List.mem_cons_self) (hb y List.mem_cons_self) (h 0)
    unfold size at *
    rw [List.map_cons, List.map_cons, List.sum_cons, List.sum_cons]
    refine ⟨by omega, fun e => ?_⟩
    rw [h0.2 (by omega), ih.2 (by omega)]
theorem size_lt {g : Gr} {a b : List (List Nat)} (Ba : Bw g a) (Bb : Bw g b) (h : Le a b) (hn : a ≠ b) : size a < size b := by
  have := size_sub (by rw [Ba.len, Bb.len]) Ba.pw Bb.pw h
  rcases Nat.lt_or_eq_of_le this.1 with e | e
  · exact e
  · exact absurd (this.2 e) hn
theorem size_max {g : Gr} {a : List (List Nat)} (B : Bw g a) : size a ≤ 16 * g.blocks.length := by
  rw [← B.len]
  exact size_le fun l hl => ⟨B.lo l hl, B.pw l hl⟩
end P51

set_option maxHeartbeats 4000000
/-! P51B: apart, needed, the best slots, assignments: plain. -/
namespace P51
open PySem HG P52
/-! ### apart -/
def cpU : Rw → List Nat
  | .cp _ u => [u]
  | _ => []
def frees (R : Rw) (v : Nat) : List Nat := v :: cpU R
def prs (R : Rw) (u : List Nat) : List (Nat × Nat) := match R.set with
  | none => []
  | some v => (u.filter fun w => !decide (w ∈ frees R v)).map fun w => (v, w)
def prsB : List Rw → List Nat → List (Nat × Nat)
  | [], _ => []
  | R :: r, u => prs R u ++ prsB r (bef R u)
def apartG (g : Gr) (cl : List (List Nat)) : List (Nat × Nat) := g.blocks.flatMap fun b => prsB b.rows.reverse (endU b.stop cl)
theorem prsB_vs {g : Gr} {b : Blk} (hb : b ∈ g.blocks) : ∀ (r : List Rw) {u : List Nat}, (∀ R ∈ r, R ∈ b.rows) → (∀ n ∈ u, n ∈ g.vars) → ∀ p ∈ prsB r u, p.1 ∈ g.vars ∧ p.2 ∈ g.vars
  | [], _, _, _, p, hp => nomatch hp
  | R :: r, u, hr, h, p, hp => by
    have hRm := hr R List.mem_cons_self
    rcases List.mem_append.mp hp with hp | hp
    · unfold prs at hp
      cases hs : R.set with
      | none => rw [hs] at hp; cases hp
      | some v =>
        rw [hs] at hp
        obtain ⟨x, hx, rfl⟩ := List.mem_map.mp hp
        exact ⟨List.mem_flatMap.mpr ⟨b, hb, List.mem_append.mpr (.inr (List.mem_flatMap.mpr ⟨R, hRm, List.mem_append.mpr (.inr (by rw [hs]; exact List.mem_singleton.mpr rfl))⟩))⟩, h x (List.mem_filter.mp hx).1⟩
    · exact prsB_vs hb r (fun Q hQ => hr Q (List.mem_cons_of_mem _ hQ)) (bef_vs hb hRm h) p hp
theorem apart_vs {g : Gr} {cl : List (List Nat)} (B : Bw g cl) : ∀ p ∈ apartG g cl, p.1 ∈ g.vars ∧ p.2 ∈ g.vars := fun p hp => by
  obtain ⟨b, hb, hp⟩ := List.mem_flatMap.mp hp
  exact prsB_vs hb _ (fun R hR => List.mem_reverse.mp hR) (endU_vs hb B.vs) p hp
/-! ### needed, their number -/
def occ (g : Gr) : List Nat := srt g.vars
def nd (ks vs : List Nat) : List Nat := ks ++ vs.filter fun v => !decide (v ∈ ks)
def cnt (g : Gr) : Nat := ((occ g).map fun v => v + 1).foldl max g.count
theorem fmaxN_ge : ∀ (ns : List Nat) (n : Nat), n ≤ ns.foldl max n ∧ ∀ y ∈ ns, y ≤ ns.foldl max n
  | [], n => ⟨Nat.le_refl _, fun _ h => nomatch h⟩
  | k :: ns, n => by
    obtain ⟨h1, h2⟩ := fmaxN_ge ns (max n k)
    rw [List.foldl_cons]
    refine ⟨by omega, fun y hy => ?_⟩
    rcases List.mem_cons.mp hy with rfl | hy
    · omega
    · exact h2 y hy
theorem fmaxN_mem : ∀ (ns : List Nat) (n : Nat), ns.foldl max n ∈ n :: ns
  | [], n => List.mem_cons_self
  | k :: ns, n => by
    rw [List.foldl_cons]
    rcases List.mem_cons.mp (fmaxN_mem ns (max n k)) with h | h
    · rw [h]
      by_cases hk : n ≤ k
      · rw [Nat.max_eq_right hk]
        exact List.mem_cons_of_mem _ List.mem_cons_self
      · rw [Nat.max_eq_left (by omega)]
        exact List.mem_cons_self
    · exact List.mem_cons_of_mem _ (List.mem_cons_of_mem _ h)
theorem cnt_of {g : Gr} {M : Nat} (h1 : g.count ≤ M) (h2 : ∀ v ∈ occ g, v < M) (h3 : M = g.count ∨ ∃ v ∈ occ g, M = v + 1) : M = cnt g := by
  have a := fmaxN_ge ((occ g).map fun v => v + 1) g.count
  have b := fmaxN_mem ((occ g).map fun v => v + 1) g.count
  have hle : M ≤ cnt g := by
    rcases h3 with rfl | ⟨v, hv, rfl⟩
    · exact a.1
    · exact a.2 _ (List.mem_map.mpr ⟨v, hv, rfl⟩)
  have hge : cnt g ≤ M := by
    rcases List.mem_cons.mp b with e | e
    · rw [cnt, e]
      exact h1
    · obtain ⟨v, hv, e⟩ := List.mem_map.mp e
      rw [cnt, ← e]
      exact h2 v hv
  omega
theorem cnt_count (g : Gr) : g.count ≤ cnt g := (fmaxN_ge _ _).1
theorem cnt_occ {g : Gr} {v : Nat} (h : v ∈ occ g) : v < cnt g := (fmaxN_ge ((occ g).map fun v => v + 1) g.count).2 _ (List.mem_map.mpr ⟨v, h, rfl⟩)
/-! ### the least that is not taken -/
theorem nodup_sub : ∀ {l t : List Nat}, l.Nodup → (∀ x ∈ l, x ∈ t) → l.length ≤ t.length
  | [], _, _, _ => Nat.zero_le _
  | x :: l, t, hn, h => by
    have hn := List.nodup_cons.mp hn
    have ih := nodup_sub (l := l) (t := t.erase x) hn.2 fun y hy => by
      refine (List.mem_erase_of_ne fun e => ?_).mpr (h y (List.mem_cons_of_mem _ hy))
      subst e
      exact hn.1 hy
    have hx := h x List.mem_cons_self
    rw [List.length_erase_of_mem hx] at ih
    have := List.length_pos_of_mem hx
    rw [List.length_cons]
    omega
def mex (t : List Nat) : Nat := (((List.range (t.length + 1)).filter fun k => !decide (k ∈ t))[0]?).getD 0
theorem out_of (t : List Nat) : ∃ k, k ≤ t.length ∧ k ∉ t := by
  refine Classical.byContradiction fun hn => ?_
  have h : ∀ k ∈ List.range (t.length + 1), k ∈ t := fun k hk => Classical.byContradiction fun h => hn ⟨k, Nat.le_of_lt_succ (List.mem_range.mp hk), h⟩
  have := nodup_sub List.nodup_range h
  rw [List.length_range] at this
  omega
theorem first_of : ∀ (n lo : Nat) (p : Nat → Bool), (∃ k, lo ≤ k ∧ k < lo + n ∧ p k = true) → ∃ k, ((List.range' lo n).filter p)[0]? = some k ∧ p k = true ∧ ∀ j, lo ≤ j → j < k → p j = false
  | 0, lo, p, ⟨k, h1, h2, _⟩ => by omega
  | n + 1, lo, p, ⟨k, h1, h2, h3⟩ => by
    rw [List.range'_succ]
    cases hp : p lo with
    | true => exact ⟨lo, by rw [List.filter_cons_of_pos hp]; rfl, hp, fun j h4 h5 => by omega⟩
    | false =>
      have hk : k ≠ lo := fun e => by rw [e, hp] at h3; cases h3
      obtain ⟨k2, e1, e2, e3⟩ := first_of n (lo + 1) p ⟨k, by omega, by omega, h3⟩
      refine ⟨k2, by rw [List.filter_cons_of_neg (by rw [hp]; decide)]; exact e1, e2, fun j h4 h5 => ?_⟩
      by_cases e : j = lo
      · rw [e]; exact hp
      · exact e3 j (by omega) h5
theorem mex_first (t : List Nat) : ((List.range (t.length + 1)).filter fun k => !decide (k ∈ t))[0]? = some (mex t) ∧ mex t ∉ t ∧ ∀ j, j < mex t → j ∈ t := by
  obtain ⟨k, h1, h2⟩ := out_of t
  obtain ⟨k2, e1, e2, e3⟩ := first_of (t.length + 1) 0 (fun k => !decide (k ∈ t)) ⟨k, Nat.zero_le _, by omega, by rw [decide_eq_false h2]; rfl⟩
  rw [← List.range_eq_range'] at e1
  have em : mex t = k2 := by unfold mex; rw [e1]; rfl
  rw [em]
  refine ⟨e1, by simpa using e2, fun j hj => ?_⟩
  have := e3 j (Nat.zero_le _) hj
  simpa using this
theorem mex_of {t : List Nat} {k : Nat} (h1 : k ∉ t) (h2 : ∀ j, j < k → j ∈ t) : k = mex t := by
  obtain ⟨_, h3, h4⟩ := mex_first t
  rcases Nat.lt_trichotomy k (mex t) with h | h | h
  · exact absurd (h4 k h) h1
  · exact h
  · exact absurd (h2 _ h) h3
theorem mex_congr {s t : List Nat} (h : ∀ n, n ∈ s ↔ n ∈ t) : mex s = mex t := by
  obtain ⟨_, h3, h4⟩ := mex_first s
  exact mex_of (fun e => h3 ((h _).mpr e)) fun j hj => (h j).mp (h4 j hj)
theorem mex_le (t : List Nat) : mex t ≤ t.length := by
  obtain ⟨k, h1, h2⟩ := out_of t
  obtain ⟨_, h3, h4⟩ := mex_first t
  refine Classical.byContradiction fun hn => ?_
  exact h2 (h4 k (by omega))
/-! ### the best slots -/
def look (sl : List (Nat × Nat)) (v : Nat) : Option Nat := (sl.find? fun p => decide (p.1 = v)).map (·.2)
def others (ps : List (Nat × Nat)) (v : Nat) : List Nat := (ps.filter fun p => decide (p.1 = v)).map (·.2) ++ (ps.filter fun p => decide (p.2 = v)).map (·.1)
def takenP (ps : List (Nat × Nat)) (ks : List Nat) (v : Nat) (sl : List (Nat × Nat)) : List Nat := ((others ps v ++ (if v ∈ ks then ks else [])).filter fun w => (look sl w).isSome).map fun w => (look sl w).getD 0
def takenL (ps : List (Nat × Nat)) (ks : List Nat) (v : Nat) (sl : List (Nat × Nat)) : List Nat := (sl.filter fun p => decide (p.1 ∈ others ps v) || (decide (v ∈ ks) && decide (p.1 ∈ ks))).map (·.2)
def step (ps : List (Nat × Nat)) (ks : List Nat) (sl : List (Nat × Nat)) (v : Nat) : List (Nat × Nat) := sl ++ [(v, mex (takenP ps ks v sl))]
def best (ps : List (Nat × Nat)) (ks ns : List Nat) : List (Nat × Nat) := ns.foldl (step ps ks) []
theorem look_mem {sl : List (Nat × Nat)} (hn : (sl.map (·.1)).Nodup) {v x : Nat} : look sl v = some x ↔ (v, x) ∈ sl := by
  induction sl with
  | nil => simp [look]
  | cons p r ih =>
    rw [List.map_cons, List.nodup_cons] at hn
    unfold look at *
    rw [List.find?_cons]
    by_cases h : p.1 = v
    · rw [decide_eq_true h]
      constructor
      · intro e
        have : p.2 = x := by simpa using e
        rw [← h, ← this]
        exact List.mem_cons_self
      · intro e
        rcases List.mem_cons.mp e with e | e
        · rw [← e]; rfl
        · exact absurd (List.mem_map.mpr ⟨(v, x), e, h.symm⟩) hn.1
    · rw [decide_eq_false h]
      show (Option.map _ (List.find? _ r) = some x) ↔ _
      rw [ih hn.2]
      constructor
      · exact fun e => List.mem_cons_of_mem _ e
      · intro e
        rcases List.mem_cons.mp e with e | e
        · rw [← e] at h
          exact absurd rfl h
        · exact e
theorem taken_same {ps : List (Nat × Nat)} {ks : List Nat} {v : Nat} {sl : List (Nat × Nat)} (hn : (sl.map (·.1)).Nodup) : ∀ x, x ∈ takenP ps ks v sl ↔ x ∈ takenL ps ks v sl := by
  intro x
  unfold takenP takenL
  rw [List.mem_map, List.mem_map]
  constructor
  · rintro ⟨w, hw, rfl⟩
    obtain ⟨h1, h2⟩ := List.mem_filter.mp hw
    obtain ⟨y, hy⟩ := Option.isSome_iff_exists.mp h2
    rw [hy]
    refine ⟨(w, y), List.mem_filter.mpr ⟨(look_mem hn).mp hy, ?_⟩, rfl⟩
    rcases List.mem_append.mp h1 with h | h
    · show (decide (w ∈ others ps v) || _) = true
      rw [decide_eq_true h]
      rfl
    · show (decide (w ∈ others ps v) || (decide (v ∈ ks) && decide (w ∈ ks))) = true
      split at h
      · rename_i hv
        rw [decide_eq_true hv, decide_eq_true h]
        simp
      · cases h
  · rintro ⟨⟨w, y⟩, hw, rfl⟩
    obtain ⟨h1, h2⟩ := List.mem_filter.mp hw
    have hy := (look_mem hn).mpr h1
    refine ⟨w, List.mem_filter.mpr ⟨?_, by rw [hy]; rfl⟩, by rw [hy]; rfl⟩
    have h2 : (decide (w ∈ others ps v) || (decide (v ∈ ks) && decide (w ∈ ks))) = true := h2
    rw [Bool.or_eq_true, Bool.and_eq_true, decide_eq_true_eq, decide_eq_true_eq, decide_eq_true_eq] at h2
    rcases h2 with h | ⟨h3, h4⟩
    · exact List.mem_append.mpr (.inl h)
    · refine List.mem_append.mpr (.inr ?_)
      rw [if_pos h3]
      exact h4
theorem mex_same {ps : List (Nat × Nat)} {ks : List Nat} {v : Nat} {sl : List (Nat × Nat)} (hn : (sl.map (·.1)).Nodup) : mex (takenL ps ks v sl) = mex (takenP ps ks v sl) := mex_congr fun x => (taken_same hn x).symm
theorem best_keys (ps : List (Nat × Nat)) (ks : List Nat) : ∀ (ns : List Nat) (sl : List (Nat × Nat)), (ns.foldl (step ps ks) sl).map (·.1) = sl.map (·.1) ++ ns
  | [], sl => by simp
  | v :: ns, sl => by
    rw [List.foldl_cons, best_keys ps ks ns (step ps ks sl v)]
    unfold step
    rw [List.map_append, List.append_assoc]
    rfl
theorem nd_nodup {ks vs : List Nat} (h1 : ks.Nodup) (h2 : vs.Nodup) : (nd ks vs).Nodup := by
  unfold nd
  rw [List.nodup_append]
  refine ⟨h1, h2.filter _, fun a ha b hb e => ?_⟩
  subst e
  have := (List.mem_filter.mp hb).2
  rw [decide_eq_true ha] at this
  cases this
theorem pw_nodup {l : List Nat} (h : l.Pairwise (· < ·)) : l.Nodup := h.imp fun h => Nat.ne_of_lt h
theorem mem_nd {ks vs : List Nat} {v : Nat} : v ∈ nd ks vs ↔ v ∈ ks ∨ v ∈ vs := by
  unfold nd
  rw [List.mem_append, List.mem_filter]
  constructor
  · rintro (h | h)
    · exact .inl h
    · exact .inr h.1
  · intro h
    by_cases hk : v ∈ ks
    · exact .inl hk
    · rcases h with h | h
      · exact .inl h
      · exact .inr ⟨h, by rw [decide_eq_false hk]; rfl⟩
/-! ### assignments -/
def isSlot : PyData → Bool
  | .int i => decide (0 ≤ i)
  | _ => false
def isNon : PyData → Bool
  | .none => true
  | _ => false
def okS (need : Bool) (d : PyData) : Bool := if need = true then isSlot d else isNon d
def need (ks vs : List Nat) (v : Nat) : Bool := decide (v ∈ ks) || decide (v ∈ vs)
def allS (ks vs : List Nat) (S : List PyData) : Bool := (List.range S.length).all fun i => okS (need ks vs i) (S.getD i .none)
def sI (S : List PyData) (v : Nat) : Int := match S.getD v .none with
  | .int i => i
  | _ => 0
def ownS (ks : List Nat) (S : List PyData) : Bool := decide ((ks.map (sI S)).Nodup)
def prsS (ps : List (Nat × Nat)) (S : List PyData) : Bool := ps.all fun p => !decide (sI S p.1 = sI S p.2)
def valid (g : Gr) (ks : List Nat) (ps : List (Nat × Nat)) : PyData → Bool
  | .tuple S => decide (S.length = cnt g) && (allS ks (occ g) S && (ownS ks S && prsS ps S))
  | _ => false
theorem allS_at {ks vs : List Nat} {S : List PyData} (h : allS ks vs S = true) {v : Nat} (hv : v < S.length) : okS (need ks vs v) (S.getD v .none) = true := List.all_eq_true.mp h v (List.mem_range.mpr hv)
theorem slot_int {ks vs : List Nat} {S : List PyData} (h : allS ks vs S = true) {v : Nat} (hv : v < S.length) (hn : v ∈ ks ∨ v ∈ vs) : S[v]? = some (.int (sI S v)) := by
  have h1 := allS_at h hv
  have hne : need ks vs v = true := by
    unfold need
    rcases hn with e | e
    · rw [decide_eq_true e]; rfl
    · rw [decide_eq_true e, Bool.or_true]
  rw [hne] at h1
  have h2 : isSlot (S.getD v .none) = true := h1
  unfold sI
  rw [List.getD_eq_getElem?_getD, List.getElem?_eq_getElem hv] at *
  have e : (some S[v]).getD PyData.none = S[v] := rfl
  rw [e] at *
  generalize S[v] = d at h2
  cases d with
  | int i => rfl
  | _ => cases h2
end P51

set_option maxHeartbeats 4000000
/-! HSc: set comprehensions of ints. -/
namespace HG
open PySem PySem.Spec PyProof.Rows L2 PpSet
section
variable {X : Cx}
theorem setO_fresh {h : Heap} (w : World) : SetR w (h.push { cls := .type "set", dict := none, data := .set #[] 0 (.fresh 0 0 (!w.params.followText "set-order")) }) h.objs.size (fun _ => false) 0 :=
  (setR_new_at (ns := []) (Heap.get?_push_size _ rfl)).congr fun _ => rfl
theorem addI_ok {pins : List (Addr × Obj)} {σ : L2.St} {H : Hp} {s : Shared} {E : Value → Shared → Prop} {D : Addr} {S : Int → Bool} {n : Nat} {y : Int} {tk : Tok} {Q : Value → Shared → Prop} (I : Inv X pins σ H s) (hD : H D = some (SetO X.w D S n)) (room : n + 1 < scanBound)
    (h : ∀ s', Inv X pins σ (upd H D (SetO X.w D (fun j => S j || decide (j = y)) (if S y = true then n else n + 1))) s' → Q .none s') : wpAny (model X.prog X.w) X.A (call (.builtin "set.add") [.ref D, .int y tk]) Q E s := by
  have R := setO_get I hD
  refine setR_add R room fun h' sb new => ?_
  have he : ∃ u, h'.get? D = some u := by
    have ⟨o, _, _, _, ho, _⟩ := new
    exact ⟨o, ho⟩
  exact h _ (I.write (e := D) (t' := s.toks + 1) (by rw [hD]; trivial) (.inl rfl) (fun b u hb hu => (sb.2 b hb).trans hu) he (setO_new new))
def tScI (w : World) (wi : TI) (g : TG) (tt : TT) (te : TE) (vs : List Nat) : TE := fun σ H Q => wi σ H fun J H1 => ∀ D, H1 D = none → ∃ W : Nat → Nat → Hp → Prop, (∃ m, W 0 m (upd H1 D (SetO w D (fun _ => false) 0))) ∧ ∀ i m H, W i m H →
  (J.stop i H ∧ Q (.ref D) H) ∨ (J.go i H ∧ ∃ Nx : Hp → Prop, (∀ H', Nx H' → ∃ m', m' < m ∧ W (i + 1) m' H') ∧ ∀ x H', J.yld i H x H' → g x (wipe σ vs) H' fun σ2 H2 => wipe σ2 vs = wipe σ vs ∧ tt σ2 H2 fun b H3 =>
    if b = true then te σ2 H3 fun y H4 => ∃ (c : Int) (S : Int → Bool) (n : Nat), y = .int c ∧ H4 D = some (SetO w D S n) ∧ n + 1 < scanBound ∧ Nx (upd H4 D (SetO w D (fun j => S j || decide (j = c)) (if S c = true then n else n + 1))) else Nx H3)
theorem sc_coreI {pins : List (Addr × Obj)} {s : Shared} {σ : L2.St} {H : Hp} {Q : VK} {elt tg iter : Expr} {ifs : List Expr} {scope : Scope} {own : List (PySem.Str × Nat)} {pos pos' : Pos} {wi : TI} {g : TG} {tt : TT} {te : TE} {use : Option (Value → Sem Unit)} {Qf : Value → Shared → Prop}
    (hc : X.calm = true) (hN : X.N.Nodup) (I : Inv X pins σ H s) (hi : PI X tg iter wi) (ok : BlkOk X.N X.env.scope scope own)
    (hg : ∀ (s : Shared) (H : Hp) (C : Addr) (cl : List (PySem.Str × Addr)) (fp : List Addr), PG (X.blk s H scope (compEnvC scope cl C X.env) fp) tg g) (ht : ∀ (s : Shared) (H : Hp) (C : Addr) (cl : List (PySem.Str × Addr)) (fp : List Addr), PTs (X.blk s H scope (compEnvC scope cl C X.env) fp) ifs tt)
    (he : ∀ (s : Shared) (H : Hp) (C : Addr) (cl : List (PySem.Str × Addr)) (fp : List Addr), PE (X.blk s H scope (compEnvC scope cl C X.env) fp) elt te) (hs : ∀ x, foldedSetIterable iter X.env x = pure x)
    (h : tScI X.w wi g tt te (own.map (·.2)) σ H Q)
    (hRR : ∀ D C s' m H', Inv X pins σ H' s' → Q (.ref D) H' → s'.heap.Ns C m → FpOk X pins H' C → compPost (model X.prog X.w) X.A X.xe use Qf (.ref D) C (.ok .next) s') :
    wpAny (model X.prog X.w) X.A (comprehension (.SetComp elt [⟨tg, iter, ifs, 0⟩] scope pos) scope X.env pos' (newSet (.type "set")) false (eval iter X.env) use) Qf X.xe s := by
  have hfree : ∀ y ∈ scope.names, y.2 = .free → ∃ c, X.env.cells.lookup y.1 = some c := fun y hy e => by
    rcases ok.free y hy e with k | k
    · exact I.ok.has _ (.inl k)
    · exact I.ok.has _ (.inr k)
  refine wpAny_comprehension_free (use := use) rfl hs (closure_ok hfree) ok.kind (fun y hy e => by rw [ok.uniq y hy, e])
    (thn (hi.run pins s σ H _ I h) fun xv s1 hx => thn hx fun itv s2 h2 => ?_)
  obtain ⟨it, fp, tn, J, H2, e, I2, T, st2, f2, q⟩ := h2
  subst e
  refine newSet_ok (newEnv_comp ?_)
  generalize hD : s2.heap.objs.size = D
  have hDn : H2 D = none := I2.hok.fresh (Nat.le_of_eq hD)
  obtain ⟨W, ⟨m0, w0⟩, turn⟩ := q D hDn
  -- the new list
  generalize hs3 : ({ s2 with heap := s2.heap.push { cls := .type "set", dict := none, data := .set #[] 0 (.fresh 0 0 (!X.w.params.followText "set-order")) } } : Shared) = s3
  have I3 : Inv X pins σ (upd H2 D (SetO X.w D (fun _ => false) 0)) s3 := by
    rw [← hs3]
    refine I2.laid (t' := s2.toks) (fun b o e => Heap.get?_push_of_some _ e) (Nat.le_of_eq hD) ?_
    rw [← hD]
    exact setO_new (setO_fresh X.w)
  have h3 : s3.heap = s2.heap.push { cls := .type "set", dict := none, data := .set #[] 0 (.fresh 0 0 (!X.w.params.followText "set-order")) } := by rw [← hs3]
  have sz : ∀ b ∈ fp, b < s2.heap.objs.size := fun b hb => by
    obtain ⟨o, e, _⟩ := T.obj _ _ st2 b hb
    exact Heap.lt_size e
  have f3 : ∀ b ∈ fp, FpOk X pins (upd H2 D (SetO X.w D (fun _ => false) 0)) b ∧ b < s3.heap.objs.size := fun b hb => by
    have hlt := sz b hb
    refine ⟨⟨?_, (f2 b hb).2⟩, by rw [h3, Heap.size_push]; exact Nat.lt_succ_of_lt hlt⟩
    rw [upd_ne (by rw [← hD]; exact Nat.ne_of_lt hlt)]
    exact (f2 b hb).1
  have st3 : tn 0 s3.heap := T.keep _ _ _ st2 fun b _ o e => by rw [h3]; exact Heap.get?_push_of_some _ e
  have I4 := block_start I3 ok hN f3
  have pg := hg s3 (upd H2 D (SetO X.w D (fun _ => false) 0)) s3.heap.objs.size (cellsFrom (s3.heap.objs.size + 1) scope.names (cloFrom X.env.cells scope.names [])) fp
  have pt := ht s3 (upd H2 D (SetO X.w D (fun _ => false) 0)) s3.heap.objs.size (cellsFrom (s3.heap.objs.size + 1) scope.names (cloFrom X.env.cells scope.names [])) fp
  have pe := he s3 (upd H2 D (SetO X.w D (fun _ => false) 0)) s3.heap.objs.size (cellsFrom (s3.heap.objs.size + 1) scope.names (cloFrom X.env.cells scope.names [])) fp
  show codeAny _ _ (.compStart (.SetComp elt [⟨tg, iter, ifs, 0⟩] scope pos) 0 (.ref it) (.ref D) (compEnvC scope (cellsFrom (s3.heap.objs.size + 1) scope.names (cloFrom X.env.cells scope.names [])) s3.heap.objs.size X.env)) (compPost (model X.prog X.w) X.A X.xe use Qf (.ref D) s3.heap.objs.size) { s3 with heap := pushCells (s3.heap.push { cls := .type "dict", data := .dict #[] }) scope.names }
  have nfp : ∀ b ∈ fp, (upd H2 D (SetO X.w D (fun _ => false) 0)) b = none := fun b hb => (f3 b hb).1.1
  generalize hce : compEnvC scope (cellsFrom (s3.heap.objs.size + 1) scope.names (cloFrom X.env.cells scope.names [])) s3.heap.objs.size X.env = ce at I4 pg pt pe ⊢
  have cL : ce.locals = s3.heap.objs.size := by subst hce; rfl
  generalize hH3 : upd H2 D (SetO X.w D (fun _ => false) 0) = H3 at I3 I4 pg pt pe w0 nfp f3
  generalize hs4 : ({ s3 with heap := pushCells (s3.heap.push { cls := .type "dict", data := .dict #[] }) scope.names } : Shared) = s4 at I4 ⊢
  have st4 : tn 0 s4.heap := T.keep _ _ _ st3 fun b _ o e => by rw [← hs4]; exact pushCells_keeps _ _ _ _ (Heap.get?_push_of_some _ e)
  have stat : ∀ {σ' : L2.St} {H' : Hp} {s' : Shared}, Inv (X.blk s3 H3 scope ce fp) [] σ' H' s' → (∀ b ∈ fp, H' b = none) → ∀ b ∈ fp, FpOk (X.blk s3 H3 scope ce fp) [] H' b := fun {σ' H' s'} I' hn b hb =>
    ⟨hn b hb, (I'.ok.exf b hb).1, I'.ok.exfs b hb, .inl hb, fun x c e => (I'.ok.exf b hb).2 x c e, fun p hp => absurd (show p ∈ ([] : List (Addr × Obj)) ++ [] from hp) (by simp)⟩
  have loop : codeAny (model X.prog X.w) X.A (.compLoop (.SetComp elt [⟨tg, iter, ifs, 0⟩] scope pos) 0 (.ref it) (.ref D) ce) (compPost (model X.prog X.w) X.A X.xe use Qf (.ref D) s3.heap.objs.size) s4 := by
    refine compLoopS_any (fun n s' => ∃ i H', Inv (X.blk s3 H3 scope ce fp) [] (wipe σ (own.map (·.2))) H' s' ∧ tn i s'.heap ∧ (∀ b ∈ fp, H' b = none) ∧ W i n H') ?_ m0 ⟨0, H3, I4, st4, nfp, w0⟩
    rintro n s5 ⟨i, H5, I5, st5, n5, w5⟩
    rcases turn i n H5 w5 with ⟨stop, qq⟩ | ⟨go, Nx, hNx, step⟩
    · have td := T.done (X.blk s3 H3 scope ce fp) rfl rfl rfl hc i [] s5 _ H5 (fun _ _ => False) I5 (stat I5 n5) st5 stop
      refine thnF td fun r s6 ⟨hr, I6⟩ => ?_
      subst hr
      -- back in the def's context
      have I7 : Inv X pins σ H5 s6 := I3.call' (ch := fp) I6.os I6.base I6.hok I6.bare fun b hb => ⟨(f3 b hb).1.2.2.2.1, (f3 b hb).1.2.1, (f3 b hb).1.2.2.2.2.1, (f3 b hb).1.2.2.2.2.2⟩
      have nC : H5 s3.heap.objs.size = none := by
        have z : H5 ce.locals = none := I6.free
        rw [cL] at z
        exact z
      obtain ⟨m, hn, _⟩ := I6.loc
      have hn : s6.heap.Ns ce.locals m := hn
      rw [cL] at hn
      exact hRR D s3.heap.objs.size s6 m H5 I7 qq hn (I3.fpOk (Nat.le_refl _) nC)
    · have ti := T.item (X.blk s3 H3 scope ce fp) rfl rfl rfl hc i [] s5 _ H5 (fun _ _ => False) I5 (stat I5 n5) st5 go
      refine thnF ti fun r s6 ⟨u, hr, h6⟩ => ?_
      subst hr
      refine thnF h6 fun _ s7 ⟨x, H7, I7, r7, y7, st7, n7⟩ => ?_
      have I7' := I7.pinned (stat I7 n7) (T.obj _ _ st7)
      refine thnF (pg.run _ s7 _ H7 x u _ I7' r7 (step x H7 y7)) fun _ s8 ⟨σ8, H8, I8, hw8, q8⟩ => ?_
      refine thnF (pt.run _ s8 σ8 H8 _ I8 q8) fun b s9 ⟨H9, I9, q9⟩ => ?_
      -- the turn's end
      have fin : ∀ {s' : Shared} {H' : Hp}, Inv (X.blk s3 H3 scope ce fp) ([] ++ pinsAt fp s7.heap) σ8 H' s' → Nx H' → ∃ m, m < n ∧ ∃ i H', Inv (X.blk s3 H3 scope ce fp) [] (wipe σ (own.map (·.2))) H' s' ∧ tn i s'.heap ∧ (∀ b ∈ fp, H' b = none) ∧ W i m H' := fun {s' H'} I' nx => by
        obtain ⟨m', hm, w'⟩ := hNx H' nx
        have pin' : ∀ b ∈ fp, ∀ o, s7.heap.get? b = some o → s'.heap.get? b = some o ∧ H' b = none := fun b hb o e =>
          let z := I'.pin (b, o) (List.mem_append_right _ (List.mem_append_right _ (mem_pinsAt hb e)))
          ⟨z.1, z.2.1⟩
        have hl : (wipe σ (own.map (·.2))).length = σ8.length := by rw [← hw8, wipe_length]
        refine ⟨m', hm, i + 1, H', (I'.unpinned (pins := [])).weak hl (fun j v e => ?_), T.keep _ _ _ st7 fun b hb o e => (pin' b hb o e).1, fun b hb => ?_, w'⟩
        · rw [← hw8] at e
          exact (wipe_some e).1
        · obtain ⟨o, e, _⟩ := T.obj _ _ st7 b hb
          exact (pin' b hb o e).2
      cases b with
      | false =>
        simp only [Bool.false_eq_true, if_false] at q9 ⊢
        exact fin I9 q9
      | true =>
        simp only [if_true] at q9 ⊢
        refine thnF (pe.run _ s9 σ8 H9 _ I9 q9) fun z s10 ⟨yv, H10, I10, r10, cb, S0, n0, ey, hD10, hz10, nx⟩ => ?_
        subst ey
        obtain ⟨tk10, rfl⟩ := r10
        exact addI_ok (X := X.blk s3 H3 scope ce fp) I10 hD10 hz10 fun s11 I11 => fin I11 nx
  exact codeAny_compStart_set loop (T.self X.A 0 _ _ _ st4 loop)
/-- as a value -/
theorem pe_scI {elt tg iter : Expr} {ifs : List Expr} {scope : Scope} {own : List (PySem.Str × Nat)} {pos : Pos} {wi : TI} {g : TG} {tt : TT} {te : TE} (hc : X.calm = true) (hN : X.N.Nodup) (hi : PI X tg iter wi) (ok : BlkOk X.N X.env.scope scope own)
    (hg : ∀ (s : Shared) (H : Hp) (C : Addr) (cl : List (PySem.Str × Addr)) (fp : List Addr), PG (X.blk s H scope (compEnvC scope cl C X.env) fp) tg g) (ht : ∀ (s : Shared) (H : Hp) (C : Addr) (cl : List (PySem.Str × Addr)) (fp : List Addr), PTs (X.blk s H scope (compEnvC scope cl C X.env) fp) ifs tt)
    (he : ∀ (s : Shared) (H : Hp) (C : Addr) (cl : List (PySem.Str × Addr)) (fp : List Addr), PE (X.blk s H scope (compEnvC scope cl C X.env) fp) elt te) (hs : ∀ x, foldedSetIterable iter X.env x = pure x := by intro _; rfl) :
    PE X (.SetComp elt [⟨tg, iter, ifs, 0⟩] scope pos) (tScI X.w wi g tt te (own.map (·.2))) := by
  refine ⟨fun pins s σ H Q I h => ?_⟩
  rw [eval_SetComp]
  refine sc_coreI hc hN I hi ok hg ht he hs h fun D C s' m H' I' q hn f => ⟨m, hn, fun h'' sb => ?_⟩
  obtain ⟨f0, f1, f2, f3, f4, f5⟩ := f
  exact ⟨.ref D, H', I'.turned (t' := s'.toks) (fun b o hb e => (sb.2 b hb).trans e) f0 f1 f3 f4 f5, rfl, q⟩
end
theorem sc_tupI {w : World} {K : PySem.W.Frag} {a : Addr} {xs : List V} {g : TG} {tt : TT} {te : TE} {vs : List Nat} {σ : L2.St} {H1 : Hp} {D : Addr} {Qd : Hp → Prop} (Pv : Nat → Hp → Prop) (h0 : Pv 0 (upd H1 D (SetO w D (fun _ => false) 0))) (hl : ∀ i H, i ≤ xs.length → Pv i H → SqT K H a xs)
    (hs : ∀ i x H, xs[i]? = some x → Pv i H → g x (wipe σ vs) H fun σ2 H2 => wipe σ2 vs = wipe σ vs ∧ tt σ2 H2 fun b H3 =>
      if b = true then te σ2 H3 fun y H4 => ∃ (c : Int) (S : Int → Bool) (n : Nat), y = .int c ∧ H4 D = some (SetO w D S n) ∧ n + 1 < scanBound ∧ Pv (i + 1) (upd H4 D (SetO w D (fun j => S j || decide (j = c)) (if S c = true then n else n + 1))) else Pv (i + 1) H3) (hd : ∀ H, Pv xs.length H → Qd H) :
    ∃ W : Nat → Nat → Hp → Prop, (∃ m, W 0 m (upd H1 D (SetO w D (fun _ => false) 0))) ∧ ∀ i m H, W i m H →
      ((Itt K a).stop i H ∧ Qd H) ∨ ((Itt K a).go i H ∧ ∃ Nx : Hp → Prop, (∀ H', Nx H' → ∃ m', m' < m ∧ W (i + 1) m' H') ∧ ∀ x H', (Itt K a).yld i H x H' → g x (wipe σ vs) H' fun σ2 H2 => wipe σ2 vs = wipe σ vs ∧ tt σ2 H2 fun b H3 =>
        if b = true then te σ2 H3 fun y H4 => ∃ (c : Int) (S : Int → Bool) (n : Nat), y = .int c ∧ H4 D = some (SetO w D S n) ∧ n + 1 < scanBound ∧ Nx (upd H4 D (SetO w D (fun j => S j || decide (j = c)) (if S c = true then n else n + 1))) else Nx H3) := by
  refine ⟨fun i m H => m = xs.length - i ∧ i ≤ xs.length ∧ Pv i H, ⟨xs.length, by simp, Nat.zero_le _, h0⟩, ?_⟩
  rintro i m H ⟨rfl, hi, p⟩
  have q := hl i H hi p
  by_cases hlt : i < xs.length
  · refine .inr ⟨⟨xs, xs[i], q, by simp [hlt]⟩, Pv (i + 1), fun H' p' => ⟨xs.length - (i + 1), by omega, rfl, hlt, p'⟩, fun x H' y => ?_⟩
    obtain ⟨e, y⟩ := y
    subst e
    exact hs i x _ (y xs q) p
  · have e : i = xs.length := by omega
    subst e
    exact .inl ⟨⟨xs, q, Nat.le_refl _⟩, hd H p⟩
end HG

set_option maxHeartbeats 4000000
/-! HMax: max(tuple of ints, default=d). -/
namespace HG
open PySem PySem.Spec PyProof.Rows L2
theorem fmax_ge : ∀ (ns : List Int) (n : Int), n ≤ ns.foldl max n ∧ ∀ y ∈ ns, y ≤ ns.foldl max n
  | [], n => ⟨Int.le_refl _, fun _ h => nomatch h⟩
  | k :: ns, n => by
    obtain ⟨h1, h2⟩ := fmax_ge ns (max n k)
    rw [List.foldl_cons]
    refine ⟨by omega, fun y hy => ?_⟩
    rcases List.mem_cons.mp hy with rfl | hy
    · omega
    · exact h2 y hy
theorem fmax_mem : ∀ (ns : List Int) (n : Int), ns.foldl max n ∈ n :: ns
  | [], n => List.mem_cons_self
  | k :: ns, n => by
    rw [List.foldl_cons]
    rcases List.mem_cons.mp (fmax_mem ns (max n k)) with h | h
    · rw [h]
      by_cases hk : n ≤ k
      · rw [Int.max_eq_right hk]
        exact List.mem_cons_of_mem _ List.mem_cons_self
      · rw [Int.max_eq_left (by omega)]
        exact List.mem_cons_self
    · exact List.mem_cons_of_mem _ (List.mem_cons_of_mem _ h)
theorem dp_ints {K : PySem.W.Frag} {H : Hp} : ∀ ns : List Int, DpAll K H (ns.map V.int) (ns.map PyData.int)
  | [] => .nil
  | n :: ns => .cons (.int n) (dp_ints ns)
def rMaxDef (K : PySem.W.Frag) : List V → List V → Hp → VK → Prop := fun vs zs H Q => ∃ (a : Addr) (ns : List Int) (d : V), vs = [V.ref a] ∧ zs = [d] ∧ SqT K H a (ns.map V.int) ∧ (ns = [] → Q d H) ∧ ∀ m, m ∈ ns → (∀ y ∈ ns, y ≤ m) → Q (.int m) H
theorem cr_maxDef {X : Cx} (hc : X.calm = true) (hu : X.A.units + 64 < cLine) : CallRK X (.builtin "max") [Str.ofString "default"] (rMaxDef X.K) := by
  intro pins s σ H vs zs us ws Q I r rz h
  obtain ⟨a, ns, d, rfl, rfl, hs, q0, q1⟩ := h
  obtain rfl := Vals.ref1 r
  obtain ⟨w1, rfl, e1⟩ := vals1 rz
  obtain ⟨its, rv, pt, hz⟩ := I.tuple hs
  obtain ⟨as, ra⟩ := Dp.readsAll I _ _ _ (dp_ints ns) rv
  refine PySem.W.max_tuple_default (vs := its.toArray) (I.ok.hd hc) pt (by simpa using ra) ⟨?_, ?_⟩ (by have := depth_ints ns; omega) (fun e h' tk k => ?_) (fun y ys i v h' tk bs e hv rd k => ?_)
  · intro x hx y hy
    obtain ⟨i, _, rfl⟩ := List.mem_map.mp hx
    obtain ⟨j, _, rfl⟩ := List.mem_map.mp hy
    rfl
  · intro x hx
    obtain ⟨i, _, rfl⟩ := List.mem_map.mp hx
    exact fun z => by cases z
  · have e2 : ns = [] := by
      cases ns with
      | nil => rfl
      | cons _ _ => cases e
    exact ⟨d, H, I.kept k, e1, q0 e2⟩
  · cases ns with
    | nil => cases e
    | cons n ns =>
      rw [List.map_cons] at e
      injection e with e2 e3
      subst e2
      subst e3
      rw [PySem.W.maxD_ints] at rd
      cases rd with
      | int _ t =>
        have hge := fmax_ge ns n
        exact ⟨.int _, H, I.kept k, ⟨_, rfl⟩, q1 _ (fmax_mem ns n) fun y hy => by
          rcases List.mem_cons.mp hy with rfl | hy
          · exact hge.1
          · exact hge.2 y hy⟩
end HG

set_option maxHeartbeats 4000000
/-! HExt: list.extend(tuple). -/
namespace HG
open PySem PySem.Spec PyProof.Rows L2
open PySem.AutoSeq1 in
theorem ext_tup (l : Addr) (items : Array Value) (n : Nat) (b : Addr) (items2 : Array Value) (n2 : Nat) (dd : Option Addr) (sl : Array (Option Value)) (hs0 : ¬(!items.isEmpty && Builtin.List.listTooLong (items.size + items2.size)) = true) (hs1 : items.size ≤ sizeLine) (hs2 : items.size + items2.size ≤ sizeLine + 1) :
    Meets (Builtin.«list.extend» ⟨[.ref l, .ref b], []⟩) (fun _ R s => s.heap.get? l = some { cls := .type "list", dict := none, data := .seq items n, slots := #[] } ∧ s.heap.get? b = some { cls := .type "tuple", dict := dd, data := .seq items2 n2, slots := sl } ∧ R (.ok (.ret Value.none)) { s with heap := s.heap.update l (Obj.mapSeq fun x => x ++ items2), toks := s.toks }) :=
  .of_wp fun prog w A R s h => by
    obtain ⟨hp, g, d, tk, os⟩ := s; obtain ⟨hl, hb, h⟩ := h; have f1 := idx_int; have f2 := AutoSeq1.sub_tuple_tuple; have f3 := AutoSeq1.sub_list_list; have f4 := AutoSeq1.sub_tuple_list; have f5 := AutoSeq1.sub_list_tuple;
    have hz' : (items ++ items2).size ≤ sizeLine + 1 := by rw [Array.size_append]; exact hs2
    wp_walk using (wpAny_updateSeq hl rfl (hz := hs1) (_hz' := hz')), wpAny_loadPart' hl, wpAny_loadPart' hb; exact ⟨_, rfl, h⟩
def rExtT (K : PySem.W.Frag) : V → List V → Hp → VK → Prop := fun x vs H Q => ∃ l b xs zs, x = .ref l ∧ vs = [.ref b] ∧ H l = some (.lst xs) ∧ SqT K H b zs ∧ xs.length + zs.length ≤ sizeLine ∧ Q .non (upd H l (.lst (xs ++ zs)))
theorem mt_extT {X : Cx} : MtM X "list.extend" (rExtT X.K) := by
  intro pins s σ H x vs v us Q I rx rv h
  obtain ⟨l, b, xs, zs, rfl, rfl, hH, hB, hz, q⟩ := h
  cases rx
  obtain ⟨u, rfl, ru⟩ := rv.one
  cases ru
  obtain ⟨z, its, n, r, hl, e⟩ := I.lstM hH
  obtain ⟨its2, r2, ⟨⟨cls, dd, data, sl⟩, e2, hc2, n2, hd2⟩, z2⟩ := I.tuple hB
  simp only at hc2 hd2
  subst hc2 hd2
  have hl2 := r2.length
  have hsz : its.toArray.size + its2.toArray.size ≤ sizeLine := by rw [List.size_toArray, List.size_toArray]; omega
  have hlong : ¬ (!its.toArray.isEmpty && Builtin.List.listTooLong (its.toArray.size + its2.toArray.size)) = true := by
    rw [notLongL hsz, Bool.and_false]
    exact Bool.false_ne_true
  refine call_meets PySem.F.slot_list_extend ⟨_, e, rfl⟩ PySem.F.entry_list_extend (PySem.F.args_list_extend_2 _ _)
    (ext_tup l its.toArray n b its2.toArray n2 dd sl hlong (by rw [List.size_toArray]; omega) (by omega)) ⟨e, e2, ?_⟩
  refine ⟨.non, _, I.lset (its' := its ++ its2) hH e (by simp) (r.append r2) ?_, rfl, q⟩
  rw [List.length_append]
  omega
end HG

set_option maxHeartbeats 4000000
namespace K51
open PySem PySem.Spec PyProof.Rows L2 HG P52 P51
theorem dpAll_map {α : Type} {K : PySem.W.Frag} {H : Hp} {f : α → V} {g : α → PyData} : ∀ l : List α, (∀ x ∈ l, Dp K H (f x) (g x)) → DpAll K H (l.map f) (l.map g)
  | [], _ => .nil
  | x :: l, h => .cons (h x List.mem_cons_self) (dpAll_map l fun y hy => h y (List.mem_cons_of_mem _ hy))
theorem dpAll_nV {K : PySem.W.Frag} {H : Hp} : ∀ {ks : List Nat} {xs : List V}, DpAll K H xs (ks.map nD) → xs = ks.map nV
  | [], _, h => by cases h; rfl
  | k :: ks, _, h => by
    cases h with
    | cons h1 h2 =>
      cases h1
      rw [dpAll_nV h2]
      rfl
abbrev nsD (l : List Nat) : PyData := .tuple (l.map nD)
theorem nlNs (ks : List Nat) : noL (nsD ks) = true := by
  have := noLAll_map (f := nD) (as := ks) fun _ _ => rfl
  simpa only [noL] using this
theorem nsD_new {K : PySem.W.Frag} {H : Hp} {p : Addr} (l : List Nat) (hp : H p = none) : Dp K (upd H p (.tup (l.map nV))) (.ref p) (nsD l) := dp_tupN hp (dpAll_map l fun _ _ => .int _)
/-! ### targets -/
def tgt : Stp → List Nat
  | .jp n => [n]
  | .br _ n m => if n = m then [n] else [n, m]
  | .rt _ => []
  | .ht _ => []
theorem mem_tgt (E : Stp) (n : Nat) : n ∈ tgt E ↔ n ∈ E.to := by
  cases E with
  | br a k m =>
    by_cases h : k = m
    · subst h; simp [tgt, Stp.to]
    · simp [tgt, Stp.to, h]
  | _ => exact Iff.rfl
theorem stpj {E : Stp} (h : eqw E.word "jump" = true) : ∃ n, E = .jp n := by cases E <;> first | exact ⟨_, rfl⟩ | (dsimp only [Stp.word] at h; exact absurd h (by decide +kernel))
theorem tgt_no {E : Stp} (h1 : eqw E.word "jump" = false) (h2 : eqw E.word "branch" = false) : tgt E = [] := by
  cases E <;> first | rfl | (dsimp only [Stp.word] at h1; exact absurd h1 (by decide +kernel)) | (dsimp only [Stp.word] at h2; exact absurd h2 (by decide +kernel))
def spTargets (K : PySem.W.Frag) : Sp := fun vs H Q _ => ∃ (v : V) (E : Stp), vs = [v] ∧ Dp K H v E.D ∧ ∀ z H', Same H H' → Dp K H' z (nsD (tgt E)) → Q z H'
section
variable {P : Program} {w : World} {K : PySem.W.Frag} {mg : Str → Option Value} {base : Heap}
set_option pp.maxSteps 600 in
theorem c_targets (T : Txt w K mg) : Cal P w K mg base "targets" 1 ["terminator"] (spTargets K) := by
  obtain ⟨fd, F⟩ := T.d_targets
  refine ⟨⟨fd, F.ok sc_targets (fun vs H Q E h => by repeat (first | (obtain ⟨e, _⟩ := h; subst e; rfl) | (obtain ⟨_, h⟩ := h))) (fun cdv A outer s H vs Q E hr h => ?_), F.bindsN fun _ _ _ _ _ _ us hl => match us, hl with | [_], _ => rfl⟩, T.g _ (by decide), F.kp⟩
  obtain ⟨v, E1, rfl, hv, q⟩ := h
  refine ⟨_, PSs.nox (pss_cons (ps_if (pt_cmpR op_eq (pe_ix (ix_P (K := K) rfl) (pv 0) pe_int (fun _ _ => rfl)) pe_str (nomark _)) (pss_one (ps_ret (pe_tup (pa_cons (pe_ix (ix_P (K := K) rfl) (pv 0) pe_int (fun _ _ => rfl)) pa_nil)))) pss_nil)
      (pss_cons (ps_if (PW.pt (pw_and (pt_cmpR op_eq (pe_ix (ix_P (K := K) rfl) (pv 0) pe_int (fun _ _ => rfl)) pe_str (nomark _)) (pw_and1 (pt_cmpR op_eq (pe_ix (ix_P (K := K) rfl) (pv 0) pe_int (fun _ _ => rfl)) (pe_ix (ix_P (K := K) rfl) (pv 0) pe_int (fun _ _ => rfl)) (nomark _))))) (pss_one (ps_ret (pe_tup (pa_cons (pe_ix (ix_P (K := K) rfl) (pv 0) pe_int (fun _ _ => rfl)) pa_nil)))) pss_nil)
      (pss_cons (ps_if (pt_cmpR op_eq (pe_ix (ix_P (K := K) rfl) (pv 0) pe_int (fun _ _ => rfl)) pe_str (nomark _)) (pss_one (ps_ret (pe_slice (sl_P (K := K) rfl) (pv 0) (po_some pe_int) po_none))) pss_nil)
      (pss_one (ps_ret (pe_tup pa_nil)))))), ?_⟩
  refine ⟨v, rfl, _, 0, _, hv, rfl, rfl, fun z hz => ?_⟩
  cases hz
  refine ⟨rfl, _, rfl, ?_⟩
  show if eqw E1.word "jump" = true then _ else _
  cases h1 : eqw E1.word "jump" with
  | true =>
    obtain ⟨n, rfl⟩ := stpj h1
    exact iteT ⟨v, rfl, _, 1, _, hv, rfl, rfl, fun z hz => by cases hz; exact ⟨(by show 1 ≤ sizeLine; decide), fun p hp => q _ _ (same_new hp) (nsD_new [n] hp)⟩⟩
  | false =>
    refine iteF ⟨v, rfl, _, 0, _, hv, rfl, rfl, fun z hz => ?_⟩
    cases hz
    refine ⟨rfl, _, rfl, ?_⟩
    show if eqw E1.word "branch" = true then _ else _
    cases h2 : eqw E1.word "branch" with
    | true =>
      obtain ⟨a, n, m, rfl⟩ := stp1 h2
      refine iteT ⟨v, rfl, _, 2, _, hv, rfl, rfl, fun z hz => ?_⟩
      cases hz
      refine ⟨v, rfl, _, 3, _, hv, rfl, rfl, fun z hz => ?_⟩
      cases hz
      refine ⟨rfl, _, rfl, ?_⟩
      rw [len_eq]
      by_cases h : n = m
      · subst h
        rw [decide_eq_true rfl]
        refine iteT ⟨v, rfl, _, 2, _, hv, rfl, rfl, fun z hz => ?_⟩
        cases hz
        refine ⟨(by show 1 ≤ sizeLine; decide), fun p hp => q _ _ (same_new hp) ?_⟩
        have e : tgt (.br a n n) = [n] := if_pos rfl
        rw [e]
        exact nsD_new [n] hp
      · rw [decide_eq_false h]
        refine iteF ⟨v, rfl, _, 0, _, hv, rfl, rfl, fun z hz => ?_⟩
        cases hz
        refine ⟨rfl, _, rfl, iteT ⟨v, rfl, 2, rfl, _, hv, fun z H3 s3 h3 => q _ _ s3 ?_⟩⟩
        have e : tgt (.br a n m) = [n, m] := if_neg h
        rw [e]
        rw [show (some (2 : Int)) = some ((2 : Nat) : Int) from rfl, cutP_from] at h3
        exact h3
    | false =>
      refine iteF ⟨v, rfl, _, 0, _, hv, rfl, rfl, fun z hz => ?_⟩
      cases hz
      refine ⟨rfl, _, rfl, ?_⟩
      show if eqw E1.word "branch" = true then _ else _
      rw [h2]
      refine iteF ⟨(by show 0 ≤ sizeLine; decide), fun p hp => q _ _ (same_new hp) ?_⟩
      rw [tgt_no h1 h2]
      exact nsD_new [] hp
/-! ### used_variables -/
def spUsedV (K : PySem.W.Frag) : Sp := fun vs H Q _ => ∃ (v : V) (l : List Opd), vs = [v] ∧ Dp K H v (.tuple (l.map oD)) ∧ l.length ≤ 40 ∧ Lo (opsVars l) ∧ ∀ z H', Same H H' → Dp K H' z (nsD (srt (opsVars l))) → Q z H'
theorem lo_len {l : List Nat} {ks : List Int} (h : Lo l) (hn : ks.Nodup) (hm : ∀ k, k ∈ ks ↔ k ∈ l.map iN) : ks.length < 64 := by
  have := nodup_len 16 ks hn fun k hk => by
    obtain ⟨n, hn, rfl⟩ := List.mem_map.mp ((hm k).mp hk)
    have := h n hn
    show 0 ≤ (n : Int) ∧ (n : Int) < 16
    omega
  omega
theorem ints_nats (l : List Nat) : (l.map iN).map V.int = l.map nV := by rw [List.map_map]; rfl
set_option pp.maxSteps 600 in
theorem c_used_variables (T : Txt w K mg) : Cal P w K mg base "used_variables" 1 ["operands"] (spUsedV K) := by
  obtain ⟨fd, F⟩ := T.d_used_variables
  refine ⟨⟨fd, F.ok sc_used_variables (fun vs H Q E h => by repeat (first | (obtain ⟨e, _⟩ := h; subst e; rfl) | (obtain ⟨_, h⟩ := h))) (fun cdv A outer s H vs Q E hr h => ?_), F.bindsN fun _ _ _ _ _ _ us hl => match us, hl with | [_], _ => rfl⟩, T.g _ (by decide), F.kp⟩
  obtain ⟨v, l, rfl, hv, hl, hlo, q⟩ := h
  refine ⟨_, PSs.nox (pss_one (ps_ret (pe_callTy call_tuple_of (by rfl) T.n_tuple (by decide +kernel) (pa_cons (pe_callB (cr_sortedSet rfl) (by rfl) T.n_sorted (by decide +kernel) (pa_cons (pe_scI (own := [("operand", 1)]) (by rfl) sc_used_variables.nd (pi_tup (pv 0)) (blkOk_by (own := [("operand", 1)]) (N := N_used_variables) (sc := defScope s_used_variables) (by decide +kernel)) (fun _ _ _ _ _ => (pg_name (i := 1) sc_used_variables.nd rfl (.inl rfl))) (fun _ _ _ _ _ => pts_one (pt_val (pe_callB (isiK (K := K) rfl) (by rfl) T.n_isinstance (by decide +kernel) (pa_cons (pv 1) (pa_cons (pe_bltn (v := .ty "tuple") (u := .type "tuple") (by rfl) T.n_tuple (by decide +kernel) rfl) pa_nil))))) (fun _ _ _ _ _ => (pe_ix (ix_P (K := K) rfl) (pv 1) pe_int (fun _ _ => rfl)))) pa_nil)) pa_nil)))), ?_⟩
  cases hv with
  | @tup a xs _ sq ha =>
    have hxl := dpAll_len ha
    rw [List.length_map] at hxl
    refine ⟨.ref a, rfl, a, rfl, ⟨_, sq⟩, fun D hD => ?_⟩
    refine sc_tupI (xs := xs) (fun i H2 => ∃ S n, H2 D = some (SetO w D S n) ∧ (∀ j, S j = true ↔ j ∈ (opsVars (l.take i)).map iN) ∧ n ≤ i ∧ Same H H2) ⟨_, _, upd_same, fun j => ?_, Nat.le_refl _, same_new hD⟩ ?_ ?_ ?_
    · simp [opsVars]
    · rintro i H2 _ ⟨_, _, _, _, _, s2⟩
      exact sqT_same s2 sq
    · rintro i x H2 hi ⟨S, n, h2, hS, hn, s2⟩
      obtain ⟨o, ho, hxo⟩ := dpAll_map_get ha hi
      have hxo := dp_mono s2 _ _ hxo
      have hil : i < l.length := (List.getElem?_eq_some_iff.mp ho).1
      have et : opsVars (l.take (i + 1)) = opsVars (l.take i) ++ o.vars := by
        unfold opsVars
        rw [List.take_add_one, ho, List.flatMap_append]
        show _ ++ (o.vars ++ []) = _
        rw [List.append_nil]
      refine ⟨rfl, x, rfl, x, .ty "tuple", _, _, _, rfl, .ty _, dp_ty hxo, kit_ty (kit_tuple _), _, rfl, ?_⟩
      cases o with
      | w j =>
        refine iteF ⟨S, n, h2, fun k => ?_, by omega, s2⟩
        rw [et, hS]
        simp [Opd.vars]
      | v m =>
        refine iteT ⟨x, rfl, _, 1, _, hxo, rfl, rfl, fun z hz => ?_⟩
        cases hz
        refine ⟨_, S, n, rfl, h2, by unfold scanBound; omega, _, _, upd_same, fun k => ?_, by split <;> omega, fun b' o' e' => ?_⟩
        · rw [et, List.map_append, List.mem_append, Bool.or_eq_true, hS, decide_eq_true_eq]
          exact ⟨fun h => h.imp id fun e => by rw [e]; exact List.mem_singleton.mpr rfl, fun h => h.imp id fun e => List.mem_singleton.mp e⟩
        · rw [upd_ne (ne_of_none e' hD)]
          exact s2 _ _ e'
    · rintro H2 ⟨S, n, h2, hS, hn, s2⟩
      rw [hxl, List.take_length] at hS
      refine ⟨D, S, n, rfl, h2, by omega, fun ns p hpw hmem hlen hp => ⟨p, _, rfl, .inl ⟨.inl (.inl upd_same), fun p2 hp2 => ?_⟩⟩⟩
      have e := srt_of hlo hpw fun k => (hmem k).trans (hS k)
      rw [e, ints_nats]
      rw [e, ints_nats] at hp2
      exact q _ _ (s2.trans ((same_new hp).trans (same_new hp2))) (nsD_new _ hp2)
end
end K51

set_option maxHeartbeats 4000000
/-! P51G: graphs of many blocks and few rows. -/
namespace P52
open PySem HG P54 P51
def rowsN (l : List Blk) : Nat := (l.map fun b => b.rows.length).sum
structure BlkB (N B : Nat) (b : Blk) : Prop where
  rows : ∀ R ∈ b.rows, RwOk N R
  stop : StpOk N B b.stop
structure GrB (N : Nat) (g : Gr) : Prop where
  count : g.count ≤ 3
  cN : g.count ≤ N
  small : N ≤ 10
  pos : 0 < g.blocks.length
  many : g.blocks.length ≤ 130
  few : rowsN g.blocks ≤ 140
  blk : ∀ b ∈ g.blocks, BlkB N g.blocks.length b
theorem rowsN_le {m : Nat} : ∀ {l : List Blk}, (∀ b ∈ l, b.rows.length ≤ m) → rowsN l ≤ l.length * m
  | [], _ => Nat.zero_le _
  | b :: l, h => by
    have h1 := h b List.mem_cons_self
    have h2 := rowsN_le (l := l) fun x hx => h x (List.mem_cons_of_mem _ hx)
    unfold rowsN at *
    rw [List.map_cons, List.sum_cons, List.length_cons, Nat.add_mul]
    omega
theorem rowsN_app (a b : List Blk) : rowsN (a ++ b) = rowsN a + rowsN b := by
  unfold rowsN
  rw [List.map_append, List.sum_append]
theorem rowsN_mem : ∀ {l : List Blk} {b : Blk}, b ∈ l → b.rows.length ≤ rowsN l
  | c :: l, b, h => by
    unfold rowsN
    rw [List.map_cons, List.sum_cons]
    rcases List.mem_cons.mp h with rfl | h
    · omega
    · have := rowsN_mem h
      unfold rowsN at this
      omega
theorem GrOk.b {N : Nat} {g : Gr} (h : GrOk N g) : GrB N g := by
  refine ⟨h.count, h.cN, h.small, h.pos, by have := h.many; omega, ?_, fun b hb => ⟨(h.blk b hb).rows, (h.blk b hb).stop⟩⟩
  have h1 := rowsN_le (l := g.blocks) (m := 15) fun b hb => (h.blk b hb).len
  have h2 := h.many
  omega
theorem vars_len_rows : ∀ {N : Nat} {l : List Rw}, (∀ R ∈ l, RwOk N R) → (l.flatMap Rw.vars).length ≤ 4 * l.length
  | _, [], _ => Nat.zero_le _
  | N, R :: l, h => by
    have h1 := RwOk.len (h R List.mem_cons_self)
    have h2 := vars_len_rows (l := l) fun x hx => h x (List.mem_cons_of_mem _ hx)
    have h3 : (opsVars R.ops).length ≤ R.ops.length := by
      generalize R.ops = o
      induction o with
      | nil => exact Nat.le_refl _
      | cons a o ih =>
        have h1 : a.vars.length ≤ 1 := by cases a <;> exact Nat.le_of_ble_eq_true rfl
        unfold opsVars at *
        rw [List.flatMap_cons, List.length_append, List.length_cons]
        omega
    have h4 : R.set.toList.length ≤ 1 := by cases R.set <;> exact Nat.le_of_ble_eq_true rfl
    rw [List.flatMap_cons, List.length_append, List.length_cons, Rw.vars, List.length_append]
    omega
theorem ends_len (E : Stp) : (opsVars E.ops).length ≤ 1 := by
  cases E with
  | rt a =>
    cases a with
    | none => exact Nat.zero_le _
    | some a => cases a <;> exact Nat.le_of_ble_eq_true rfl
  | jp n => exact Nat.zero_le _
  | br a n m => cases a <;> exact Nat.le_of_ble_eq_true rfl
  | ht i => exact Nat.zero_le _
theorem vars_len_blks {N B : Nat} : ∀ {l : List Blk}, (∀ b ∈ l, BlkB N B b) → (l.flatMap Blk.vars).length ≤ 4 * rowsN l + l.length
  | [], _ => Nat.zero_le _
  | b :: l, h => by
    have h1 := vars_len_rows (h b List.mem_cons_self).rows
    have h2 := vars_len_blks (l := l) fun x hx => h x (List.mem_cons_of_mem _ hx)
    have h3 := ends_len b.stop
    unfold rowsN at *
    rw [List.flatMap_cons, List.length_append, List.map_cons, List.sum_cons, List.length_cons, Blk.vars, List.length_append]
    omega
theorem GrB.vlen {N : Nat} {g : Gr} (h : GrB N g) : g.vars.length ≤ 690 := by
  have h1 := vars_len_blks h.blk
  have h2 := h.few
  have h3 := h.many
  unfold Gr.vars
  omega
theorem GrB.lt {N : Nat} {g : Gr} (h : GrB N g) : ∀ n ∈ g.vars, n < N := by
  intro n hn
  obtain ⟨b, hb, hn⟩ := List.mem_flatMap.mp hn
  have ok := h.blk b hb
  rcases List.mem_append.mp hn with h1 | h1
  · obtain ⟨a, ha, h2⟩ := List.mem_flatMap.mp h1
    exact OpdOk.vars (StpOk.ops ok.stop a ha) n h2
  · obtain ⟨R, hR, h2⟩ := List.mem_flatMap.mp h1
    rcases List.mem_append.mp h2 with h3 | h3
    · obtain ⟨a, ha, h4⟩ := List.mem_flatMap.mp h3
      exact OpdOk.vars (RwOk.ops (ok.rows R hR) a ha) n h4
    · exact RwOk.set (ok.rows R hR) n (by simpa using h3)
theorem GrB.sm {N : Nat} {g : Gr} (h : GrB N g) : Small g := by
  have hs := h.small
  refine ⟨fun b hb R hR n hn => ?_, fun b hb R hR n hn => ?_, fun b hb n hn => ?_⟩
  · obtain ⟨a, ha, h2⟩ := List.mem_flatMap.mp hn
    have := OpdOk.vars (RwOk.ops ((h.blk b hb).rows R hR) a ha) n h2
    omega
  · have := RwOk.set ((h.blk b hb).rows R hR) n hn
    omega
  · obtain ⟨a, ha, h2⟩ := List.mem_flatMap.mp hn
    have := OpdOk.vars (StpOk.ops (h.blk b hb).stop a ha) n h2
    omega
/-! ### how much it shows -/
theorem fnE2 {N B : Nat} {E : Stp} (hN : N ≤ 10) (hB : B ≤ 130) (h : StpOk N B E) : Fine 0 42000 3 E.D := by
  have hw : Nm E.word := by cases E <;> exact ⟨by dsimp only [Stp.word]; decide +kernel, by dsimp only [Stp.word]; decide +kernel⟩
  have o : ∀ {a : Opd}, OpdOk N a → Fine 0 8300 2 (oD a) := fun h => (fnO hN h).up (Nat.le_refl _) (by decide) (by decide)
  have n : ∀ {m : Nat}, m < B → Fine 0 8300 2 (.int (m : Int)) := fun {m} h => (fnN 2 (by omega)).up (Nat.le_refl _) (by decide) (Nat.le_refl _)
  refine (Fine.tupN (n := 5) (d := 2) (W := 8300) (fun e he => ?_) (by cases E <;> exact Nat.le_of_ble_eq_true rfl)).up (Nat.le_refl _) (by decide) (Nat.le_refl _)
  rcases List.mem_cons.mp he with rfl | he
  · exact (fnS 2 hw).up (Nat.le_refl _) (by decide) (Nat.le_refl _)
  cases E with
  | jp m =>
    simp only [Stp.rest, List.mem_cons, List.not_mem_nil, or_false] at he
    subst he
    exact n h
  | br a m k =>
    simp only [Stp.rest, List.mem_cons, List.not_mem_nil, or_false] at he
    rcases he with rfl | rfl | rfl
    · exact o h.1
    · exact n h.2.1
    · exact n h.2.2
  | rt a =>
    simp only [Stp.rest, List.mem_cons, List.not_mem_nil, or_false] at he
    subst he
    cases a with
    | none => exact (Fine.none 0 2).up (Nat.le_refl _) (by decide) (Nat.le_refl _)
    | some a => exact o (h a rfl)
  | ht i =>
    simp only [Stp.rest, List.mem_cons, List.not_mem_nil, or_false] at he
    subst he
    have : (65536 : Int) < 10 ^ 9 := by decide
    exact (fnI 2 h.1 (by have := h.2; omega)).up (Nat.le_refl _) (by decide) (Nat.le_refl _)
theorem wt_rows {N : Nat} (hN : N ≤ 10) : ∀ {l : List Rw}, (∀ R ∈ l, RwOk N R) → wtAll (l.map Rw.D) ≤ 42002 * l.length
  | [], _ => Nat.zero_le _
  | R :: l, h => by
    have h1 := (fnR hN (h R List.mem_cons_self)).wt
    have h2 := wt_rows hN (l := l) fun x hx => h x (List.mem_cons_of_mem _ hx)
    rw [List.map_cons, List.length_cons]
    simp only [wtAll]
    omega
theorem fnB2 {N B : Nat} {b : Blk} (hN : N ≤ 10) (hB : B ≤ 130) (h : BlkB N B b) : Fine 0 (42002 * b.rows.length + 42020) 5 b.D := by
  have f2 := fnE2 hN hB h.stop
  have f1 : ∀ R ∈ b.rows, Fine 0 42000 3 R.D := fun R hR => fnR hN (h.rows R hR)
  refine ⟨?_, ?_, ?_⟩
  · rw [sm_tup]
    intro d hd
    simp only [List.mem_cons, List.not_mem_nil, or_false] at hd
    rcases hd with rfl | rfl
    · rw [sm_tup]
      intro d hd
      obtain ⟨R, hR, rfl⟩ := List.mem_map.mp hd
      exact (f1 R hR).sm
    · exact f2.sm
  · have h1 := wt_rows hN h.rows
    have h2 := f2.wt
    simp only [Blk.D]
    rw [wt_tup]
    simp only [wtAll]
    rw [wt_tup]
    omega
  · have h1 : PyData.depthAll (b.rows.map Rw.D) ≤ 3 := depthAll_le fun d hd => by
      obtain ⟨R, hR, rfl⟩ := List.mem_map.mp hd
      exact (f1 R hR).dp
    have h2 := f2.dp
    simp only [Blk.D]
    rw [dp_tup]
    simp only [PyData.depthAll]
    rw [dp_tup]
    omega
theorem wt_blks {N B : Nat} (hN : N ≤ 10) (hB : B ≤ 130) : ∀ {l : List Blk}, (∀ b ∈ l, BlkB N B b) → wtAll (l.map Blk.D) ≤ 42002 * rowsN l + 42022 * l.length
  | [], _ => Nat.zero_le _
  | b :: l, h => by
    have h1 := (fnB2 hN hB (h b List.mem_cons_self)).wt
    have h2 := wt_blks hN hB (l := l) fun x hx => h x (List.mem_cons_of_mem _ hx)
    unfold rowsN at *
    rw [List.map_cons, List.map_cons, List.sum_cons, List.length_cons]
    simp only [wtAll]
    omega
theorem fnGB {N : Nat} {g : Gr} (h : GrB N g) : Fine 0 12000000 7 g.D := by
  have f2 : Fine 0 2000 0 (.int (g.count : Int)) := fnN 0 (by have := h.count; omega)
  have f1 : ∀ b ∈ g.blocks, _ := fun b hb => fnB2 h.small h.many (h.blk b hb)
  refine ⟨?_, ?_, ?_⟩
  · rw [sm_tup]
    intro d hd
    simp only [List.mem_cons, List.not_mem_nil, or_false] at hd
    rcases hd with rfl | rfl
    · exact f2.sm
    · rw [sm_tup]
      intro d hd
      obtain ⟨b, hb, rfl⟩ := List.mem_map.mp hd
      exact (f1 b hb).sm
  · have h1 := wt_blks h.small h.many h.blk
    have h2 := f2.wt
    have h3 := h.few
    have h4 := h.many
    simp only [Gr.D]
    rw [wt_tup]
    simp only [wtAll]
    rw [wt_tup]
    omega
  · have h1 : PyData.depthAll (g.blocks.map Blk.D) ≤ 5 := depthAll_le fun d hd => by
      obtain ⟨b, hb, rfl⟩ := List.mem_map.mp hd
      exact (f1 b hb).dp
    have h2 := f2.dp
    simp only [Gr.D]
    rw [dp_tup]
    simp only [PyData.depthAll]
    rw [dp_tup]
    omega
end P52

set_option maxHeartbeats 4000000
namespace K51
open PySem PySem.Spec PyProof.Rows L2 HG P52 P51
/-! ### used_before -/
def spUsedBef (K : PySem.W.Frag) : Sp := fun vs H Q _ => ∃ (v : V) (a : Addr) (R : Rw) (u : List Nat), vs = [v, .ref a] ∧ Dp K H v R.D ∧ SqL K H a (u.map nV) ∧ R.ops.length ≤ 40 ∧ Lo (opsVars R.ops) ∧ Lo u ∧ u.length ≤ 1000 ∧
  ∀ p H', H p = none → Same H H' → H' p = some (.lst ((bef R u).map nV)) → Q (.ref p) H'
theorem ne_set (m : Nat) (R : Rw) : (!decide (nV m = ovV R.set)) = ne1 R m := by
  unfold ne1
  cases h : R.set with
  | none =>
    have e1 : decide (V.int (m : Int) = V.non) = false := decide_eq_false fun e => nomatch e
    have e2 : decide ((none : Option Nat) ≠ some m) = true := decide_eq_true fun e => nomatch e
    show (!decide (V.int (m : Int) = V.non)) = _
    rw [e1, e2]
    rfl
  | some n =>
    show (!decide (V.int (m : Int) = V.int (n : Int))) = _
    rw [len_eq]
    by_cases e : m = n
    · subst e
      have e2 : decide (some m ≠ some m) = false := decide_eq_false fun h => h rfl
      rw [decide_eq_true rfl, e2]
      rfl
    · have e2 : decide (some n ≠ some m) = true := decide_eq_true fun h => e (Option.some.inj h).symm
      rw [decide_eq_false e, e2]
      rfl
theorem srt_fin {l : List Nat} {ks : List Int} (hlo : Lo l) (hnd : ks.Nodup) (hks : ∀ k, k ∈ ks ↔ k ∈ l.map iN) : ks.length < 64 := lo_len hlo hnd hks
section
variable {P : Program} {w : World} {K : PySem.W.Frag} {mg : Str → Option Value} {base : Heap}
set_option pp.maxSteps 600 in
theorem c_used_before (T : Txt w K mg) : Cal P w K mg base "used_before" 3 ["instruction", "used"] (spUsedBef K) := by
  obtain ⟨fd, F⟩ := T.d_used_before
  have C_set_by := c_set_by (P := P) (w := w) (base := base) T
  have C_used_variables := c_used_variables (P := P) (w := w) (base := base) T
  have C_operands_of := c_operands_of (P := P) (w := w) (base := base) T
  refine ⟨⟨fd, F.ok sc_used_before (fun vs H Q E h => by repeat (first | (obtain ⟨e, _⟩ := h; subst e; rfl) | (obtain ⟨_, h⟩ := h))) (fun cdv A outer s H vs Q E hr h => ?_), F.bindsN fun _ _ _ _ _ _ us hl => match us, hl with | [_, _], _ => rfl⟩, T.g _ (by decide), F.kp⟩
  obtain ⟨v, a, R, u, rfl, hv, hu, hol, hoo, hlo, hul, q⟩ := h
  refine ⟨_, PSs.nox (pss_cons (ps_setLc (i := 2) (own := [("v", 3)]) (by rfl) sc_used_before.nd rfl rfl (sw_true rfl rfl rfl (by decide +kernel)) (pi_list (pv 1)) (blkOk_by (own := [("v", 3)]) (N := N_used_before) (sc := defScope s_used_before) (by decide +kernel)) (fun _ _ _ _ _ => (pg_name (i := 3) sc_used_before.nd rfl (.inl rfl))) (fun _ _ _ _ _ => pts_one (pt_cmpR op_ne (pv 3) (pe_cal C_set_by (hr.mono (by omega)) (by rfl) (pa_cons (pv 0) pa_nil)) (nomark _))) (fun _ _ _ _ _ => (pv 3)))
      (pss_one (ps_ret (pe_callB (cr_sortedSet rfl) (by rfl) T.n_sorted (by decide +kernel) (pa_cons (pe_callTy (cr_setLI rfl) (by rfl) T.n_set (by decide +kernel) (pa_cons (pe_op op_cat (pv 2) (pe_callTy call_list_of (by rfl) T.n_list (by decide +kernel) (pa_cons (pe_cal C_used_variables (hr.mono (by omega)) (by rfl) (pa_cons (pe_cal C_operands_of (hr.mono (by omega)) (by rfl) (pa_cons (pv 0) pa_nil)) pa_nil)) pa_nil))) pa_nil)) pa_nil))))), ?_⟩
  refine ⟨.ref a, rfl, a, rfl, ⟨_, hu⟩, fun D hD => ?_⟩
  refine lc_list (xs := u.map nV) (fun i H2 => H2 D = some (.lst (((u.take i).filter (ne1 R)).map nV)) ∧ Same H H2) ⟨upd_same, same_new hD⟩ ?_ ?_ ?_
  · rintro i H2 _ ⟨_, s2⟩
    exact Same.seq s2 hu
  · rintro i x H2 hi ⟨h2, s2⟩
    rw [List.getElem?_map] at hi
    obtain ⟨m, hm, rfl⟩ := Option.map_eq_some_iff.mp hi
    have et : (u.take (i + 1)).filter (ne1 R) = (u.take i).filter (ne1 R) ++ (if ne1 R m = true then [m] else []) := by
      rw [List.take_add_one, hm, List.filter_append]
      congr 1
      show List.filter _ [m] = _
      rw [List.filter_cons]
      cases ne1 R m <;> rfl
    refine ⟨rfl, _, rfl, v, rfl, v, R, rfl, dp_mono s2 _ _ hv, (by cases R.set <;> rfl), _, rfl, ?_⟩
    rw [ne_set, et]
    cases ne1 R m with
    | false =>
      refine iteF ⟨?_, s2⟩
      rw [if_neg Bool.false_ne_true, List.append_nil]
      exact h2
    | true =>
      refine iteT ⟨_, rfl, _, h2, ?_, ?_, fun b' o' e' => ?_⟩
      · rw [List.length_map]
        have := List.length_filter_le (ne1 R) (u.take i)
        rw [List.length_take] at this
        exact small_line (by omega)
      · rw [upd_same, if_pos rfl, List.map_append]
        rfl
      · rw [upd_ne (ne_of_none e' hD)]
        exact s2 _ _ e'
  rintro H2 ⟨h2, s2⟩
  rw [List.length_map, List.take_length] at h2
  have hfl := List.length_filter_le (ne1 R) u
  have hlf := lo_filter hlo (ne1 R)
  refine ⟨.ref D, rfl, v, rfl, v, R, rfl, dp_mono s2 _ _ hv, by omega, fun z3 H3 s3 h3 => ⟨_, _, rfl, h3, hol, hoo, fun z4 H4 s4 h4 => ?_⟩⟩
  cases h4 with
  | @tup a4 x4 _ sq4 ha4 =>
    have e4 := dpAll_nV ha4
    subst e4
    refine ⟨a4, _, rfl, .inr sq4, fun l5 hl5 => ?_⟩
    have hsl := srt_len (opsVars R.ops)
    have s25 := s3.trans (s4.trans (same_new (o := .lst ((srt (opsVars R.ops)).map nV)) hl5))
    refine ⟨D, l5, _, _, rfl, rfl, s25 _ _ h2, upd_same, ?_, fun p6 hp6 => ?_⟩
    · rw [List.length_map, List.length_map, sizeLine_eq]
      omega
    have s6 := same_new (o := .lst (((u.filter (ne1 R)).map nV) ++ ((srt (opsVars R.ops)).map nV))) hp6
    have hlo2 : Lo (u.filter (ne1 R) ++ srt (opsVars R.ops)) := hlf.app (lo_srt _)
    refine ⟨p6, (u.filter (ne1 R) ++ srt (opsVars R.ops)).map iN, rfl, .inl (.inl ?_), ?_, fun p ks hp hnd hks => ?_⟩
    · rw [upd_same, ints_nats, List.map_append]
    · rw [List.length_map, List.length_append]
      unfold scanBound
      omega
    refine ⟨p, _, _, rfl, upd_same, srt_fin hlo2 hnd hks, fun ns p2 hpw hmem hlen hp2 => ?_⟩
    have s02 := s2.trans (s25.trans (s6.trans (same_new (o := SetO w p (fun j => decide (j ∈ (u.filter (ne1 R) ++ srt (opsVars R.ops)).map iN)) ks.length) hp)))
    have e : ns = (bef R u).map iN := by
      rw [srt_of hlo2 hpw fun k => (hmem k).trans (by rw [decide_eq_true_eq])]
      unfold bef
      congr 1
      exact srt_congr fun n => by rw [List.mem_append, List.mem_append, mem_srt hoo]
    rw [e, ints_nats]
    exact q _ _ (none_same s02 hp2) (s02.trans (same_new hp2)) upd_same
/-! ### used_at_end -/
theorem stp_ops (E : Stp) : E.ops.length ≤ 1 := by
  cases E with
  | rt a => cases a <;> exact Nat.le_of_ble_eq_true rfl
  | jp n => exact Nat.le_of_ble_eq_true rfl
  | br a n m => exact Nat.le_of_ble_eq_true rfl
  | ht i => exact Nat.le_of_ble_eq_true rfl
theorem tgt_len (E : Stp) : (tgt E).length ≤ 2 := by
  cases E with
  | br a n m =>
    show (if n = m then [n] else [n, m]).length ≤ 2
    split <;> exact Nat.le_of_ble_eq_true rfl
  | _ => exact Nat.le_of_ble_eq_true rfl
structure Cl (K : PySem.W.Frag) (H : Hp) (a : Addr) (cl : List (List Nat)) : Prop where
  ex : ∃ cvs, SqL K H a cvs ∧ DpAll K H cvs (cl.map nsD)
  ok : ∀ l ∈ cl, Lo l ∧ l.length ≤ 16
theorem Cl.same {K : PySem.W.Frag} {H H' : Hp} {a : Addr} {cl : List (List Nat)} (h : Cl K H a cl) (s : Same H H') : Cl K H' a cl := by
  obtain ⟨cvs, h1, h2⟩ := h.ex
  exact ⟨⟨cvs, Same.seq s h1, dpAll_mono s _ _ h2⟩, h.ok⟩
def spUsedEnd (K : PySem.W.Frag) : Sp := fun vs H Q _ => ∃ (v : V) (a : Addr) (b : Blk) (cl : List (List Nat)), vs = [v, .ref a] ∧ Dp K H v b.D ∧ Cl K H a cl ∧ Lo (opsVars b.stop.ops) ∧ (∀ n ∈ b.stop.to, n < cl.length) ∧
  ∀ p H', H p = none → Same H H' → H' p = some (.lst ((endU b.stop cl).map nV)) → Q (.ref p) H'
set_option pp.maxSteps 600 in
theorem c_used_at_end (T : Txt w K mg) : Cal P w K mg base "used_at_end" 3 ["block", "claims"] (spUsedEnd K) := by
  obtain ⟨fd, F⟩ := T.d_used_at_end
  have C_targets := c_targets (P := P) (w := w) (base := base) T
  have C_used_variables := c_used_variables (P := P) (w := w) (base := base) T
  have C_operands_of_end := c_operands_of_end (P := P) (w := w) (base := base) T
  refine ⟨⟨fd, F.ok sc_used_at_end (fun vs H Q E h => by repeat (first | (obtain ⟨e, _⟩ := h; subst e; rfl) | (obtain ⟨_, h⟩ := h))) (fun cdv A outer s H vs Q E hr h => ?_), F.bindsN fun _ _ _ _ _ _ us hl => match us, hl with | [_, _], _ => rfl⟩, T.g _ (by decide), F.kp⟩
  obtain ⟨v, a, b, cl, rfl, hv, hc, hoo, hto, q⟩ := h
  refine ⟨_, PSs.nox (pss_cons (ps_set (i := 2) sc_used_at_end.nd rfl (.inl rfl) (pe_callTy call_list_of (by rfl) T.n_list (by decide +kernel) (pa_cons (pe_cal C_used_variables (hr.mono (by omega)) (by rfl) (pa_cons (pe_cal C_operands_of_end (hr.mono (by omega)) (by rfl) (pa_cons (pe_ix (ix_P (K := K) rfl) (pv 0) pe_int (fun _ _ => rfl)) pa_nil)) pa_nil)) pa_nil)))
      (pss_cons (ps_for PassesOwn.never rfl (pi_tup (pe_cal C_targets (hr.mono (by omega)) (by rfl) (pa_cons (pe_ix (ix_P (K := K) rfl) (pv 0) pe_int (fun _ _ => rfl)) pa_nil))) (pg_name (i := 3) sc_used_at_end.nd rfl (.inl rfl)) (pss_one (ps_expr (pe_bm PySem.F.plainAttrs_list PySem.F.slot_list_extend PySem.F.type_list_extend mt_extT (pv 2) (pa_cons (pe_ix (ix_listK (K := K) rfl) (pv 1) (pv 3) (fun _ _ => rfl)) pa_nil)))))
      (pss_one (ps_ret (pe_callB (cr_sortedSet rfl) (by rfl) T.n_sorted (by decide +kernel) (pa_cons (pe_callTy (cr_setLI rfl) (by rfl) T.n_set (by decide +kernel) (pa_cons (pv 2) pa_nil)) pa_nil)))))), ?_⟩
  refine ⟨v, rfl, _, 1, _, hv, rfl, rfl, fun ze hze => ⟨ze, b.stop, rfl, hze, fun z1 H1 s1 h1 => ⟨z1, _, rfl, h1, by have := stp_ops b.stop; omega, hoo, fun z2 H2 s2 h2 => ?_⟩⟩⟩
  cases h2 with
  | @tup a2 x2 _ sq2 ha2 =>
    have e2 := dpAll_nV ha2
    subst e2
    refine ⟨a2, _, rfl, .inr sq2, fun l3 hl3 => ?_⟩
    have s03 := s1.trans s2
    have hl3H := none_same s03 hl3
    generalize eH3 : upd H2 l3 _ = H3
    have s3 : Same H H3 := eH3 ▸ s03.trans (same_new hl3)
    have e3 : H3 l3 = some (.lst ((srt (opsVars b.stop.ops)).map nV)) := by rw [← eH3, upd_same]
    clear eH3
    refine ⟨v, rfl, _, 1, _, dp_mono s3 _ _ hv, rfl, rfl, fun ze hze => ⟨ze, b.stop, rfl, hze, fun z4 H4 s4 h4 => ?_⟩⟩
    cases h4 with
    | @tup a4 x4 _ sq4 ha4 =>
      have e4 := dpAll_nV ha4
      subst e4
      have s04 := s3.trans s4
      refine ⟨a4, rfl, ⟨_, sq4⟩, ?_⟩
      have hol := srt_len (opsVars b.stop.ops)
      have htl := tgt_len b.stop
      refine for_tup (xs := (tgt b.stop).map nV) (fun i σ H5 => ∃ x3, σ = [some v, some (.ref a), some (.ref l3), x3] ∧ H5 l3 = some (.lst ((srt (opsVars b.stop.ops) ++ ((tgt b.stop).take i).flatMap (at_ cl)).map nV)) ∧ (((tgt b.stop).take i).flatMap (at_ cl)).length ≤ 16 * i ∧ Same H H5 ∧ KT H4 H5) ⟨_, rfl, ?_, Nat.zero_le _, s04, KT.refl _⟩ ?_ ?_ ?_
      · show H4 l3 = some (.lst ((srt (opsVars b.stop.ops) ++ []).map nV))
        rw [List.append_nil]
        exact s4 _ _ e3
      · rintro i σ H5 _ ⟨x3, rfl, _, _, _, k5⟩
        exact sqT_kt k5 sq4
      · rintro i x σ H5 hi ⟨x3, rfl, e5, hl5, s5, k5⟩
        rw [List.getElem?_map] at hi
        obtain ⟨n, hn, rfl⟩ := Option.map_eq_some_iff.mp hi
        have hi2 : i < (tgt b.stop).length := (List.getElem?_eq_some_iff.mp hn).1
        obtain ⟨cvs, hs, hd⟩ := (hc.same s5).ex
        have hnl := hto n ((mem_tgt _ _).mp (List.mem_of_getElem? hn))
        have hcl := dpAll_len hd
        rw [List.length_map] at hcl
        have hcn : (cl.map nsD)[n]? = some (nsD cl[n]) := by rw [List.getElem?_map, List.getElem?_eq_getElem hnl]; rfl
        obtain ⟨cv, hcv, hcd⟩ := dpAll_getD hd hcn
        have eat : at_ cl n = cl[n] := by
          show cl.getD n [] = _
          rw [List.getD_eq_getElem?_getD, List.getElem?_eq_getElem hnl]
          rfl
        have hcl16 := (hc.ok _ (List.getElem_mem hnl)).2
        have et : ((tgt b.stop).take (i + 1)).flatMap (at_ cl) = ((tgt b.stop).take i).flatMap (at_ cl) ++ cl[n] := by
          rw [List.take_add_one, hn, List.flatMap_append]
          show _ ++ (at_ cl n ++ []) = _
          rw [List.append_nil, eat]
        cases hcd with
        | @tup a6 x6 _ sq6 ha6 =>
          have e6 := dpAll_nV ha6
          subst e6
          refine ⟨.ref l3, rfl, .inl ⟨rfl, _, .inl (.inl e5)⟩, .ref a, rfl, _, rfl, a, cvs, n, _, rfl, rfl, hs, atI_nat hcv, l3, a6, _, _, rfl, rfl, e5, sq6, ?_, _, rfl, ?_, ?_, ?_, k5.trans (KT.lst e5)⟩
          · rw [List.length_map, List.length_map, List.length_append, sizeLine_eq]
            omega
          · rw [upd_same, et, ← List.map_append, List.append_assoc]
          · rw [et, List.length_append]
            omega
          · intro b' o' e'
            rw [upd_ne (ne_of_none e' hl3H)]
            exact s5 _ _ e'
      · rintro σ H5 ⟨x3, rfl, e5, hl5, s5, k5⟩
        rw [List.length_map, List.take_length] at e5 hl5
        have hlo2 : Lo (srt (opsVars b.stop.ops) ++ (tgt b.stop).flatMap (at_ cl)) := (lo_srt _).app (lo_tos (fun l hl => (hc.ok l hl).1) _)
        refine ⟨.ref l3, rfl, l3, (srt (opsVars b.stop.ops) ++ (tgt b.stop).flatMap (at_ cl)).map iN, rfl, .inl (.inl ?_), ?_, fun p ks hp hnd hks => ?_⟩
        · rw [ints_nats]
          exact e5
        · rw [List.length_map, List.length_append]
          unfold scanBound
          omega
        refine ⟨p, _, _, rfl, upd_same, srt_fin hlo2 hnd hks, fun ns p2 hpw hmem hlen hp2 => ?_⟩
        have s02 := s5.trans (same_new (o := SetO w p (fun j => decide (j ∈ (srt (opsVars b.stop.ops) ++ (tgt b.stop).flatMap (at_ cl)).map iN)) ks.length) hp)
        have e : ns = (endU b.stop cl).map iN := by
          rw [srt_of hlo2 hpw fun k => (hmem k).trans (by rw [decide_eq_true_eq])]
          unfold endU
          congr 1
          refine srt_congr fun n => ?_
          rw [List.mem_append, List.mem_append, mem_srt hoo, List.mem_flatMap, List.mem_flatMap]
          refine or_congr Iff.rfl ⟨fun ⟨m, h1, h2⟩ => ⟨m, (mem_tgt _ _).mp h1, h2⟩, fun ⟨m, h1, h2⟩ => ⟨m, (mem_tgt _ _).mpr h1, h2⟩⟩
        rw [e, ints_nats]
        exact q _ _ (none_same s02 hp2) (s02.trans (same_new hp2)) upd_same
end
end K51

set_option maxHeartbeats 4000000
namespace K51
open PySem PySem.Spec PyProof.Rows L2 HG P52 P51
/-! ### used_at_beginning -/
theorem rowsU_app : ∀ (l : List Rw) (R : Rw) (u : List Nat), rowsU (l ++ [R]) u = bef R (rowsU l u)
  | [], _, _ => rfl
  | S :: l, R, u => rowsU_app l R (bef S u)
theorem bef_len (R : Rw) (u : List Nat) : (bef R u).length ≤ 16 := srt_len _
theorem rowsU_len : ∀ (l : List Rw) {u : List Nat}, u.length ≤ 16 → (rowsU l u).length ≤ 16
  | [], _, h => h
  | R :: l, _, _ => rowsU_len l (bef_len R _)
def spUsedBeg (K : PySem.W.Frag) : Sp := fun vs H Q _ => ∃ (v : V) (a : Addr) (N B : Nat) (b : Blk) (cl : List (List Nat)), vs = [v, .ref a] ∧ Dp K H v b.D ∧ Cl K H a cl ∧ BlkB N B b ∧ N ≤ 10 ∧ B = cl.length ∧
  ∀ p H', H p = none → Same H H' → H' p = some (.lst ((begU b cl).map nV)) → Q (.ref p) H'
theorem lo_ops {N : Nat} {R : Rw} (h : RwOk N R) (hN : N ≤ 10) : Lo (opsVars R.ops) := fun n hn => by
  obtain ⟨a, ha, h2⟩ := List.mem_flatMap.mp hn
  have := OpdOk.vars (RwOk.ops h a ha) n h2
  omega
theorem lo_stop {N B : Nat} {E : Stp} (h : StpOk N B E) (hN : N ≤ 10) : Lo (opsVars E.ops) := fun n hn => by
  obtain ⟨a, ha, h2⟩ := List.mem_flatMap.mp hn
  have := OpdOk.vars (StpOk.ops h a ha) n h2
  omega
section
variable {P : Program} {w : World} {K : PySem.W.Frag} {mg : Str → Option Value} {base : Heap}
set_option pp.maxSteps 600 in
theorem c_used_at_beginning (T : Txt w K mg) : Cal P w K mg base "used_at_beginning" 4 ["block", "claims"] (spUsedBeg K) := by
  obtain ⟨fd, F⟩ := T.d_used_at_beginning
  have C_used_at_end := c_used_at_end (P := P) (w := w) (base := base) T
  have C_used_before := c_used_before (P := P) (w := w) (base := base) T
  refine ⟨⟨fd, F.ok sc_used_at_beginning (fun vs H Q E h => by repeat (first | (obtain ⟨e, _⟩ := h; subst e; rfl) | (obtain ⟨_, h⟩ := h))) (fun cdv A outer s H vs Q E hr h => ?_), F.bindsN fun _ _ _ _ _ _ us hl => match us, hl with | [_, _], _ => rfl⟩, T.g _ (by decide), F.kp⟩
  obtain ⟨v, a, N, B, b, cl, rfl, hv, hc, hb, hN, rfl, q⟩ := h
  refine ⟨_, PSs.nox (pss_cons (ps_set (i := 2) sc_used_at_beginning.nd rfl (.inl rfl) (pe_cal C_used_at_end (hr.mono (by omega)) (by rfl) (pa_cons (pv 0) (pa_cons (pv 1) pa_nil))))
      (pss_cons (ps_for PassesOwn.never rfl (pi_tup (pe_revP (pe_ix (ix_P (K := K) rfl) (pv 0) pe_int (fun _ _ => rfl)))) (pg_name (i := 3) sc_used_at_beginning.nd rfl (.inl rfl)) (pss_one (ps_set (i := 2) sc_used_at_beginning.nd rfl (.inl rfl) (pe_cal C_used_before (hr.mono (by omega)) (by rfl) (pa_cons (pv 3) (pa_cons (pv 2) pa_nil))))))
      (pss_one (ps_ret (pv 2))))), ?_⟩
  refine ⟨v, rfl, .ref a, rfl, v, a, b, cl, rfl, hv, hc, lo_stop hb.stop hN, StpOk.to hb.stop, fun p1 H1 hp1 s1 h1 => ?_⟩
  refine ⟨v, rfl, _, 0, _, dp_mono s1 _ _ hv, rfl, rfl, fun z hz => ⟨_, hz, fun z2 H2 s2 h2 => ?_⟩⟩
  have s02 := s1.trans s2
  rw [← List.map_reverse] at h2
  cases h2 with
  | @tup a2 x2 _ sq2 ha2 =>
    have hxl := dpAll_len ha2
    rw [List.length_map] at hxl
    refine ⟨a2, rfl, ⟨_, sq2⟩, ?_⟩
    refine for_tup (xs := x2) (fun i σ H3 => ∃ p x3, σ = [some v, some (.ref a), some (.ref p), x3] ∧ H p = none ∧ H3 p = some (.lst ((rowsU (b.rows.reverse.take i) (endU b.stop cl)).map nV)) ∧ Same H H3 ∧ Same H2 H3) ⟨p1, _, rfl, hp1, s2 _ _ h1, s02, Same.refl _⟩ ?_ ?_ ?_
    · rintro i σ H3 _ ⟨p, x3, rfl, _, _, _, s3⟩
      exact sqT_same s3 sq2
    · rintro i x σ H3 hi ⟨p, x3, rfl, hp, h3, s03, s3⟩
      obtain ⟨R, hR, hxR⟩ := dpAll_map_get ha2 hi
      have hRm : R ∈ b.rows := List.mem_reverse.mp (List.mem_of_getElem? hR)
      have ok := hb.rows R hRm
      have hu : Lo (rowsU (b.rows.reverse.take i) (endU b.stop cl)) := lo_rowsU _ (lo_srt _)
      have hul := rowsU_len (b.rows.reverse.take i) (u := endU b.stop cl) (srt_len _)
      refine ⟨x, rfl, .ref p, rfl, x, p, R, _, rfl, dp_mono s3 _ _ hxR, .inl (.inl h3), by have := RwOk.len ok; omega, lo_ops ok hN, hu, by omega, fun p4 H4 hp4 s4 h4 => ⟨p4, _, rfl, none_same s03 hp4, ?_, s03.trans s4, s3.trans s4⟩⟩
      rw [List.take_add_one, hR]
      show H4 p4 = some (.lst ((rowsU (_ ++ [R]) _).map nV))
      rw [rowsU_app]
      exact h4
    · rintro σ H3 ⟨p, x3, rfl, hp, h3, s03, s3⟩
      rw [hxl, List.take_length] at h3
      exact ⟨_, rfl, q p H3 hp s03 h3⟩
/-! ### later_uses -/
def spLater (K : PySem.W.Frag) : Sp := fun vs H Q _ => ∃ (v : V) (N : Nat) (g : Gr), vs = [v] ∧ Dp K H v g.D ∧ GrB N g ∧
  ∀ p H' cl, H p = none → Same H H' → Cl K H' p cl → Fx g cl → Bw g cl → Q (.ref p) H'
theorem shaped_nats (l : List Nat) : SeqAt.shaped (nsD l) = true := by
  have e : l.map nD = (l.map iN).map PyData.int := by rw [List.map_map]; rfl
  have h := depth_ints (l.map iN)
  have h2 : (PyData.tuple ((l.map iN).map PyData.int)).depth ≤ 64 := by
    simp only [PyData.depth]
    omega
  unfold nsD
  rw [e]
  unfold SeqAt.shaped
  simp only [PyData.canLay0, canLay_ints, Bool.true_and]
  exact decide_eq_true h2
theorem bw_len {g : Gr} {cl : List (List Nat)} (B : Bw g cl) : ∀ l ∈ cl, Lo l ∧ l.length ≤ 16 := fun l hl => by
  have h1 := B.lo l hl
  have h2 := B.pw l hl
  have e : l = srt l := pw_eq h2 (pw_srt l) fun n => (mem_srt h1).symm
  refine ⟨h1, ?_⟩
  rw [e]
  exact srt_len _
theorem eqvAll_nats : ∀ a b : List Nat, PyData.eqvAll (a.map nD) (b.map nD) = decide (a = b)
  | [], [] => by simp [PyData.eqvAll]
  | [], _ :: _ => by simp [PyData.eqvAll]
  | _ :: _, [] => by simp [PyData.eqvAll]
  | x :: a, y :: b => by
    have ih := eqvAll_nats a b
    rw [List.map_cons, List.map_cons]
    simp only [PyData.eqvAll, ih, PyData.eqv]
    by_cases h : x = y
    · subst h
      simp
    · have h2 : ¬ ((x : Int) = (y : Int)) := by omega
      simp [h, h2]
theorem eqv_nats (a b : List Nat) : PyData.eqv (nsD a) (nsD b) = decide (a = b) := by
  have := eqvAll_nats a b
  simp only [PyData.eqv]
  exact this
theorem rep1 {α : Type} (n : Nat) (x : α) : (List.replicate n [x]).flatten = List.replicate n x := by
  induction n with
  | zero => rfl
  | succ n ih => rw [List.replicate_succ, List.flatten_cons, ih, List.replicate_succ]; rfl
theorem dpAll_rep {K : PySem.W.Frag} {H : Hp} {v : V} {d : PyData} (h : Dp K H v d) : ∀ n, DpAll K H (List.replicate n v) (List.replicate n d)
  | 0 => .nil
  | n + 1 => .cons h (dpAll_rep h n)
theorem dpAll_set {K : PySem.W.Frag} {H : Hp} {v : V} {d : PyData} : ∀ {vs : List V} {ds : List PyData} (k : Nat), DpAll K H vs ds → Dp K H v d → DpAll K H (vs.set k v) (ds.set k d)
  | _, _, _, .nil, _ => .nil
  | _, _, 0, .cons _ h, g => .cons g h
  | _, _, k + 1, .cons a h, g => .cons a (dpAll_set k h g)
theorem nlCl (cl : List (List Nat)) : noLAll (cl.map nsD) = true := noLAll_map fun a _ => nlNs a
theorem le_refl (cl : List (List Nat)) : Le cl cl := fun _ _ h => h
theorem le_trans {a b c : List (List Nat)} (h1 : Le a b) (h2 : Le b c) : Le a c := fun i n h => h2 i n (h1 i n h)
set_option pp.maxSteps 900 in
set_option pp.maxSteps 600 in
theorem c_later_uses (T : Txt w K mg) : Cal P w K mg base "later_uses" 5 ["graph"] (spLater K) := by
  obtain ⟨fd, F⟩ := T.d_later_uses
  have C_used_at_beginning := c_used_at_beginning (P := P) (w := w) (base := base) T
  refine ⟨⟨fd, F.ok sc_later_uses (fun vs H Q E h => by repeat (first | (obtain ⟨e, _⟩ := h; subst e; rfl) | (obtain ⟨_, h⟩ := h))) (fun cdv A outer s H vs Q E hr h => ?_), F.bindsN fun _ _ _ _ _ _ us hl => match us, hl with | [_], _ => rfl⟩, T.g _ (by decide), F.kp⟩
  obtain ⟨v, N, g, rfl, hv, hg, q⟩ := h
  have hu := hu_of hr
  refine ⟨_, PSs.nox (pss_cons (ps_set (i := 1) sc_later_uses.nd rfl (.inl rfl) (pe_ix (ix_P (K := K) rfl) (pv 0) pe_int (fun _ _ => rfl)))
      (pss_cons (ps_set (i := 2) sc_later_uses.nd rfl (.inl rfl) (pe_op op_rep (pe_lst (pa_cons (pe_tup pa_nil) pa_nil)) (pe_callB (lenK (K := K) rfl) (by rfl) T.n_len (by decide +kernel) (pa_cons (pv 1) pa_nil))))
      (pss_cons (ps_set (i := 3) sc_later_uses.nd rfl (.inl rfl) pe_bl)
      (pss_cons (ps_while PassesOwn.never (pt_val (pv 3)) (pss_cons (ps_set (i := 3) sc_later_uses.nd rfl (.inl rfl) pe_bl)
      (pss_one (ps_for PassesOwn.never rfl (pi_revR (by rfl) T.n_reversed (prg_1 (by rfl) T.n_range (pe_callB (lenK (K := K) rfl) (by rfl) T.n_len (by decide +kernel) (pa_cons (pv 1) pa_nil)))) (pg_name (i := 4) sc_later_uses.nd rfl (.inl rfl)) (pss_cons (ps_set (i := 5) sc_later_uses.nd rfl (.inl rfl) (pe_callTy call_tuple_of (by rfl) T.n_tuple (by decide +kernel) (pa_cons (pe_cal C_used_at_beginning (hr.mono (by omega)) (by rfl) (pa_cons (pe_ix (ix_P (K := K) rfl) (pv 1) (pv 4) (fun _ _ => rfl)) (pa_cons (pv 2) pa_nil))) pa_nil)))
      (pss_one (ps_if (pt_cmpR (op_neDK (K := K) rfl hr.units) (pv 5) (pe_ix (ix_listK (K := K) rfl) (pv 2) (pv 4) (fun _ _ => rfl)) (nomark _)) (pss_cons (ps_asg (pv 5) (pg_sub (pv 2) (pv 4) set_list))
      (pss_one (ps_set (i := 3) sc_later_uses.nd rfl (.inl rfl) pe_bl))) pss_nil)))))))
      (pss_one (ps_ret (pv 2))))))), ?_⟩
  refine ⟨v, rfl, _, 1, _, hv, rfl, rfl, fun vb hvb => ?_⟩
  refine ⟨(by show 0 ≤ sizeLine; decide), fun p1 hp1 => ⟨(by show 1 ≤ sizeLine; decide), fun l2 hl2 => ?_⟩⟩
  have s1 := same_new (o := .tup []) hp1
  have d1 : Dp K (upd H p1 (.tup [])) (.ref p1) (nsD []) := nsD_new [] hp1
  generalize upd H p1 (.tup []) = H1 at s1 d1 hl2 ⊢
  have s2 := same_new (o := .lst [.ref p1]) hl2
  have e2 : (upd H1 l2 (.lst [.ref p1])) l2 = some (.lst [.ref p1]) := upd_same
  have d2 := dp_mono s2 _ _ d1
  generalize upd H1 l2 (.lst [.ref p1]) = H2 at s2 e2 d2 ⊢
  have s02 := s1.trans s2
  have hmany := hg.many
  have hvb2 := dp_mono s02 _ _ hvb
  have hlv : LenV K vb H2 g.blocks.length := by
    cases hvb2 with
    | @tup a2 xs2 _ sq2 ha2 => exact .inr ⟨xs2, sq2, by rw [dpAll_len ha2, List.length_map]⟩
  refine ⟨_, rfl, vb, _, rfl, hlv, l2, (g.blocks.length : Int), _, rfl, rfl, e2, by omega, by omega, ?_, fun c hc => ?_⟩
  · rw [sizeLine_eq]
    show 1 * ((g.blocks.length : Nat) : Int).toNat ≤ 16777216
    omega
  generalize eH3 : upd H2 c _ = H3
  have s3 : Same H H3 := eH3 ▸ s02.trans (same_new hc)
  have ec : H3 c = some (.lst (List.replicate g.blocks.length (.ref p1))) := by rw [← eH3, upd_same, Int.toNat_natCast, rep1]
  have d3 : Dp K H3 (.ref p1) (nsD []) := eH3 ▸ dp_mono (same_new hc) _ _ d2
  have hcH := none_same s02 hc
  clear eH3
  refine ⟨fun m σ H4 => ∃ cl cvs ch x4 x5, σ = [some v, some vb, some (.ref c), some (.bl ch), x4, x5] ∧ H4 c = some (.lst cvs) ∧ DpAll K H4 cvs (cl.map nsD) ∧ Bw g cl ∧ (ch = false → Fx g cl) ∧ Same H H4 ∧ m = 2 * (16 * g.blocks.length - size cl) + ch.toNat,
    ⟨_, List.replicate g.blocks.length [], _, true, _, _, rfl, ec, by rw [List.map_replicate]; exact dpAll_rep d3 _, bw_nil g, fun z => (by cases z), s3, rfl⟩, ?_⟩
  rintro m σ H4 ⟨cl, cvs, ch, x4, x5, rfl, hc4, hd4, B4, F4, s4, rfl⟩
  refine ⟨_, rfl, ch, rfl, ?_⟩
  cases ch with
  | false =>
    refine iteF ⟨_, rfl, q c H4 cl hcH s4 ⟨⟨cvs, .inl (.inl hc4), hd4⟩, bw_len B4⟩ (F4 rfl) B4⟩
  | true =>
    refine iteT ⟨fun σ' H' => ∃ m', m' < 2 * (16 * g.blocks.length - size cl) + true.toNat ∧ ∃ cl cvs ch x4 x5, σ' = [some v, some vb, some (.ref c), some (.bl ch), x4, x5] ∧ H' c = some (.lst cvs) ∧ DpAll K H' cvs (cl.map nsD) ∧ Bw g cl ∧ (ch = false → Fx g cl) ∧ Same H H' ∧ m' = 2 * (16 * g.blocks.length - size cl) + ch.toNat, fun _ _ h => h, ?_⟩
    have hvb4 := dp_mono s4 _ _ hvb
    have hlv4 : LenV K vb H4 g.blocks.length := by
      cases hvb4 with
      | @tup a2 xs2 _ sq2 ha2 => exact .inr ⟨xs2, sq2, by rw [dpAll_len ha2, List.length_map]⟩
    refine ⟨_, rfl, vb, _, rfl, hlv4, (g.blocks.length : Int), rfl, by omega, by omega, by omega, by omega, ?_⟩
    refine for_it walk_rangeC (fun i σ H5 => ∃ cl' cvs' ch' x4 x5, σ = [some v, some vb, some (.ref c), some (.bl ch'), x4, x5] ∧ H5 c = some (.lst cvs') ∧ DpAll K H5 cvs' (cl'.map nsD) ∧ Bw g cl' ∧ Le cl cl' ∧ (ch' = true → size cl < size cl') ∧ (ch' = false → cl' = cl ∧ ∀ j b, g.blocks.length ≤ j + i → g.blocks[j]? = some b → at_ cl j = begU b cl) ∧ Same H H5)
      ⟨cl, cvs, false, _, _, rfl, hc4, hd4, B4, le_refl cl, fun z => (by cases z), fun _ => ⟨rfl, fun j b h1 h2 => absurd (List.getElem?_eq_some_iff.mp h2).1 (by omega)⟩, s4⟩ (fun _ _ _ _ _ => trivial) ?_ ?_
    · rintro i x σ H5 H5' hi ⟨cl', cvs', ch', x4, x5, rfl, hc5, hd5, B5, L5, T5, F5, s5⟩ ⟨rfl, rfl⟩
      have hiB : i < g.blocks.length := by
        have e : ((g.blocks.length : Int) - 0).toNat = g.blocks.length := by omega
        rw [e] at hi
        exact hi
      obtain ⟨k, ek⟩ : ∃ k : Nat, k = g.blocks.length - 1 - i := ⟨_, rfl⟩
      have hk : k < g.blocks.length := by omega
      have eV : (0 : Int) + ((((g.blocks.length : Int) - 0).toNat : Nat) : Int) - 1 + (i : Int) * (-1) = (k : Int) := by omega
      have hb : g.blocks[k]? = some g.blocks[k] := List.getElem?_eq_getElem hk
      have hbm := List.getElem_mem hk
      generalize g.blocks[k] = b at hb hbm
      have ok := hg.blk b hbm
      show gName 4 (V.int ((0 : Int) + ((((g.blocks.length : Int) - 0).toNat : Nat) : Int) - 1 + (i : Int) * (-1))) _ _ _
      rw [eV]
      have hvb5 := dp_mono s5 _ _ hvb
      have hbD : (g.blocks.map Blk.D)[k]? = some b.D := by rw [List.getElem?_map, hb]; rfl
      refine ⟨vb, rfl, _, rfl, _, k, _, hvb5, rfl, hbD, fun zb hzb => ⟨.ref c, rfl, zb, c, N, _, b, cl', rfl, hzb, ⟨⟨cvs', .inl (.inl hc5), hd5⟩, bw_len B5⟩, ok, hg.small, B5.len.symm, fun p6 H6 hp6 s6 h6 => ⟨p6, _, rfl, .inl ⟨.inl (.inl h6), fun p7 hp7 => ?_⟩⟩⟩⟩
      have s7 := s6.trans (same_new (o := .tup ((begU b cl').map nV)) hp7)
      have d7 : Dp K (upd H6 p7 (.tup ((begU b cl').map nV))) (.ref p7) (nsD (begU b cl')) := nsD_new _ hp7
      show tSeq _ _ _ _ (upd H6 p7 (.tup ((begU b cl').map nV)))
      generalize upd H6 p7 (.tup ((begU b cl').map nV)) = H7 at s7 d7 ⊢
      have hc7 := s7 _ _ hc5
      have hd7 := dpAll_mono s7 _ _ hd5
      have s07 := s5.trans s7
      have hkl : k < cl'.length := by rw [B5.len]; exact hk
      have hcn : (cl'.map nsD)[k]? = some (nsD (at_ cl' k)) := by
        rw [List.getElem?_map, List.getElem?_eq_getElem hkl]
        show some (nsD cl'[k]) = some (nsD (cl'.getD k []))
        rw [List.getD_eq_getElem?_getD, List.getElem?_eq_getElem hkl]
        rfl
      obtain ⟨cv, hcv, hcd⟩ := dpAll_getD hd7 hcn
      refine ⟨_, rfl, .ref c, rfl, _, rfl, c, cvs', (k : Int), cv, rfl, rfl, .inl (.inl hc7), atI_nat hcv, _, _, d7, hcd, shaped_nats _, shaped_nats _, _, rfl, ?_⟩
      rw [eqv_nats]
      by_cases he : begU b cl' = at_ cl' k
      · rw [decide_eq_true he]
        refine iteF ⟨cl', cvs', ch', _, _, rfl, hc7, hd7, B5, L5, T5, fun z => ⟨(F5 z).1, fun j b' h1 h2 => ?_⟩, s07⟩
        by_cases hj : j = k
        · subst hj
          rw [hb] at h2
          cases h2
          have := (F5 z).1
          subst this
          exact he.symm
        · exact (F5 z).2 j b' (by omega) h2
      · rw [decide_eq_false he]
        have hB := bw_set (hg.sm) B5 hb
        have hne : cl' ≠ cl'.set k (begU b cl') := fun e => he (by
          have e2 : at_ (cl'.set k (begU b cl')) k = begU b cl' := by rw [at_set hkl, if_pos rfl]
          rw [← e2, ← e])
        have hlt := size_lt B5 hB.1 hB.2 hne
        have hle : size cl ≤ size cl' := (size_sub (by rw [B4.len, B5.len]) B4.pw B5.pw L5).1
        refine iteT ⟨_, rfl, .ref c, rfl, _, rfl, c, cvs', (k : Int), k, rfl, rfl, hc7, ?_, ?_⟩
        · have : cvs'.length = cl'.length := by rw [dpAll_len hd7, List.length_map]
          exact Evl.ixN_nat (by omega)
        refine ⟨cl'.set k (begU b cl'), _, true, _, _, rfl, upd_same, ?_, hB.1, le_trans L5 hB.2, fun _ => by omega, (fun z => by cases z), fun b' o' e' => ?_⟩
        · rw [List.map_set]
          exact dpAll_kt (KT.lst hc7) _ _ (by rw [← List.map_set]; exact nlCl _) (dpAll_set k hd7 d7)
        · rw [upd_ne (ne_of_none e' hcH)]
          exact s07 _ _ e'
    · rintro σ H5 ⟨cl', cvs', ch', x4, x5, rfl, hc5, hd5, B5, L5, T5, F5, s5⟩
      have e : ((g.blocks.length : Int) - 0).toNat = g.blocks.length := by omega
      rw [e] at F5
      have hm := size_max B5
      refine ⟨2 * (16 * g.blocks.length - size cl') + ch'.toNat, ?_, cl', cvs', ch', _, _, rfl, hc5, hd5, B5, fun z => ?_, s5, rfl⟩
      · cases ch' with
        | true =>
          have := T5 rfl
          show 2 * (16 * g.blocks.length - size cl') + 1 < 2 * (16 * g.blocks.length - size cl) + 1
          omega
        | false =>
          rw [(F5 rfl).1]
          exact Nat.lt_succ_self _
      · obtain ⟨e1, e2⟩ := F5 z
        subst e1
        exact ⟨B5.len, B5.lo, fun i b hb => e2 i b (by omega) hb⟩
end
end K51

set_option maxHeartbeats 4000000
namespace K51
open PySem PySem.Spec PyProof.Rows L2 HG P52 P51
theorem ops_fm : ∀ l : List Opd, (opsVars l).length ≤ l.length
  | [] => Nat.le_refl _
  | a :: l => by
    have h2 := ops_fm l
    have h1 : a.vars.length ≤ 1 := by cases a <;> exact Nat.le_of_ble_eq_true rfl
    unfold opsVars at *
    rw [List.flatMap_cons, List.length_append, List.length_cons]
    omega
theorem set_len (R : Rw) : R.set.toList.length ≤ 1 := by cases R.set <;> exact Nat.le_of_ble_eq_true rfl
theorem stp_len (E : Stp) : E.ops.length ≤ 1 := by
  cases E with
  | rt a => cases a <;> exact Nat.le_of_ble_eq_true rfl
  | jp n => exact Nat.le_of_ble_eq_true rfl
  | br a n m => exact Nat.le_of_ble_eq_true rfl
  | ht i => exact Nat.le_of_ble_eq_true rfl
theorem set_row (R : Rw) : ∃ d r, R.L = .str R.word :: d :: r ∧ setsOf R.word d = ovD R.set := by
  cases R <;> exact ⟨_, _, rfl, by dsimp only [Rw.word]; first | exact if_pos (by decide +kernel) | exact if_neg (by decide +kernel)⟩
def spOccur (K : PySem.W.Frag) : Sp := fun vs H Q _ => ∃ (v : V) (N : Nat) (g : Gr), vs = [v] ∧ Dp K H v g.D ∧ GrB N g ∧
  ∀ (a : Addr) (H' : Hp), H a = none → Same H H' → H' a = some (.lst ((occ g).map nV)) → Q (.ref a) H'
theorem pre_len (g : Gr) (i : Nat) : ((g.blocks.take i).flatMap Blk.vars).length ≤ g.vars.length := by
  have e : g.vars = (g.blocks.take i).flatMap Blk.vars ++ (g.blocks.drop i).flatMap Blk.vars := by
    rw [← List.flatMap_append, List.take_append_drop]
    rfl
  rw [e, List.length_append]
  omega
theorem pre_lenR {N : Nat} {b : Blk} (h : ∀ R ∈ b.rows, RwOk N R) (hl : b.rows.length ≤ 140) (j : Nat) : ((b.rows.take j).flatMap Rw.vars).length ≤ 560 := by
  have := vars_len_rows (l := b.rows.take j) fun R hR => h R (List.mem_of_mem_take hR)
  rw [List.length_take] at this
  omega
section
variable {P : Program} {w : World} {K : PySem.W.Frag} {mg : Str → Option Value} {base : Heap}
set_option pp.maxSteps 600 in
theorem c_occur (T : Txt w K mg) : Cal P w K mg base "_law_occur" 3 ["_law_shape"] (spOccur K) := by
  obtain ⟨fd, F⟩ := T.d__law_occur
  have C__law_variables := c_vars (P := P) (base := base) T
  have C__law_sets := c_sets (P := P) (base := base) T
  refine ⟨⟨fd, F.ok sc__law_occur (fun vs H Q E h => ?_) (fun cdv A outer s H vs Q E hr h => ?_), F.bindsN fun _ _ _ _ _ _ us hl => match us, hl with | [_], _ => rfl⟩, T.g _ (by decide), F.kp⟩
  · obtain ⟨v, N, g, rfl, _⟩ := h
    rfl
  obtain ⟨v, N, g, rfl, hv, hg, q⟩ := h
  refine ⟨_, PSs.nox (pss_cons (ps_set (i := 1) sc__law_occur.nd rfl (.inl rfl) (pe_lst pa_nil))
      (pss_cons (ps_for PassesOwn.never rfl (pi_tup (pe_ix (ix_P (K := K) rfl) (pv 0) pe_int (fun _ _ => rfl))) (pg_tupK (K := K) (n := 2) rfl rfl (pgs_cons (pg_name (i := 2) sc__law_occur.nd rfl (.inl rfl)) (pgs_cons (pg_name (i := 3) sc__law_occur.nd rfl (.inl rfl)) pgs_nil))) (pss_cons (ps_set (i := 1) sc__law_occur.nd rfl (.inl rfl) (pe_op op_cat (pv 1) (pe_cal C__law_variables (hr.mono (by omega)) (by rfl) (pa_cons (pv 3) pa_nil))))
      (pss_one (ps_for PassesOwn.never rfl (pi_tup (pv 2)) (pg_name (i := 4) sc__law_occur.nd rfl (.inl rfl)) (pss_one (ps_set (i := 1) sc__law_occur.nd rfl (.inl rfl) (pe_op op_cat (pe_op op_cat (pv 1) (pe_cal C__law_variables (hr.mono (by omega)) (by rfl) (pa_cons (pv 4) pa_nil))) (pe_lc (own := [("_law_v", 5)]) (by rfl) sc__law_occur.nd (pi_list (pe_lst (pa_cons (pe_cal C__law_sets (hr.mono (by omega)) (by rfl) (pa_cons (pv 4) pa_nil)) pa_nil))) (blkOk_by (own := [("_law_v", 5)]) (N := N__law_occur) (sc := defScope s__law_occur) (by decide +kernel)) (fun _ _ _ _ _ => (pg_name (i := 5) sc__law_occur.nd rfl (.inl rfl))) (fun _ _ _ _ _ => pts_one (pt_cmpR op_notN (pv 5) pe_non (nomark _))) (fun _ _ _ _ _ => (pv 5))))))))))
      (pss_one (ps_ret (pe_callB (cr_sortedSet rfl) (by rfl) T.n_sorted (by decide +kernel) (pa_cons (pe_callTy (cr_setLI rfl) (by rfl) T.n_set (by decide +kernel) (pa_cons (pv 1) pa_nil)) pa_nil)))))), ?_⟩
  refine ⟨Nat.zero_le _, fun a0 ha0 => ?_⟩
  have s0 := same_new (o := .lst []) ha0
  have e0 : (upd H a0 (.lst [])) a0 = some (.lst []) := upd_same
  generalize upd H a0 (.lst []) = H0 at s0 e0 ⊢
  refine ⟨v, rfl, _, 1, _, dp_mono s0 _ _ hv, rfl, rfl, fun zb hzb => ?_⟩
  cases hzb with
  | @tup ab xb _ sqb hab =>
    have hlb := dpAll_len hab
    rw [List.length_map] at hlb
    refine ⟨ab, rfl, ⟨_, sqb⟩, ?_⟩
    refine for_tup (xs := xb) (fun i σ H3 => ∃ a x2 x3 x4 x5, σ = [some v, some (.ref a), x2, x3, x4, x5] ∧ H3 a = some (.lst ((((g.blocks.take i).flatMap Blk.vars)).map nV)) ∧ Same H0 H3) ⟨a0, _, _, _, _, rfl, e0, Same.refl _⟩ ?_ ?_ ?_
    · rintro i σ H3 _ ⟨a, x2, x3, x4, x5, rfl, _, s3⟩
      exact sqT_kt (KT.of s3) sqb
    · rintro i x σ H3 hi ⟨a, x2, x3, x4, x5, rfl, e3, s3⟩
      obtain ⟨bk, hbk, hx⟩ := dpAll_map_get hab hi
      have hx := dp_mono s3 _ _ hx
      have okb := hg.blk bk (List.mem_of_getElem? hbk)
      have et : (g.blocks.take (i + 1)).flatMap Blk.vars = (g.blocks.take i).flatMap Blk.vars ++ bk.vars := by
        rw [List.take_add_one, hbk, List.flatMap_append]
        show _ ++ (bk.vars ++ []) = _
        rw [List.append_nil]
      have hl3 := Nat.le_trans (pre_len g i) hg.vlen
      have hrows := Nat.le_trans (rowsN_mem (List.mem_of_getElem? hbk)) hg.few
      generalize (g.blocks.take i).flatMap Blk.vars = F0 at e3 hl3 et
      cases hx with
      | @tup ax xx _ sqx hax =>
        cases hax with
        | @cons x1 d1 xs1 ds1 h1 hax =>
          cases hax with
          | @cons x2' d2 xs2 ds2 h2 hax =>
            cases hax
            refine ⟨ax, _, rfl, sqx, rfl, _, _, rfl, _, _, rfl, rfl, ?_⟩
            have hE := stp_len bk.stop
            have hE2 := ops_fm bk.stop.ops
            refine ⟨.ref a, rfl, x2', rfl, x2', .e bk.stop, rfl, h2, ?_, fun a4 H4 ha4 s4 e4 => ?_⟩
            · have : (Ln.e bk.stop).los.length ≤ 1 := by
                cases bk.stop <;> exact Nat.le_of_ble_eq_true rfl
              omega
            refine ⟨a, a4, _, _, rfl, rfl, s4 _ _ e3, e4, ?_, fun a5 ha5 => ?_⟩
            · rw [List.length_map, List.length_map, sizeLine_eq]
              show F0.length + (opsVars bk.stop.ops).length ≤ 16777216
              omega
            generalize eH5 : upd H4 a5 _ = H5
            have s5 : Same H3 H5 := eH5 ▸ s4.trans (same_new ha5)
            have e5 : H5 a5 = some (.lst ((F0 ++ opsVars bk.stop.ops).map nV)) := by
              rw [← eH5, upd_same, List.map_append]
              rfl
            have h15 := dp_mono s5 _ _ h1
            have s05 := s3.trans s5
            cases h15 with
            | @tup ar xr _ sqr har =>
              have hlr := dpAll_len har
              rw [List.length_map] at hlr
              refine ⟨.ref ar, rfl, ar, rfl, ⟨_, sqr⟩, ?_⟩
              refine for_tup (xs := xr) (fun j σ H6 => ∃ a x4 x5, σ = [some v, some (.ref a), some (.ref ar), some x2', x4, x5] ∧ H6 a = some (.lst ((F0 ++ opsVars bk.stop.ops ++ (bk.rows.take j).flatMap Rw.vars).map nV)) ∧ Same H5 H6) ⟨a5, _, _, rfl, ?_, Same.refl _⟩ ?_ ?_ ?_
              · show H5 a5 = some (.lst ((F0 ++ opsVars bk.stop.ops ++ []).map nV))
                rw [List.append_nil]
                exact e5
              · rintro j σ H6 _ ⟨a, x4, x5, rfl, _, s6⟩
                exact sqT_kt (KT.of s6) sqr
              · rintro j x σ H6 hj ⟨a, x4, x5, rfl, e6, s6⟩
                obtain ⟨R, hR, hxr⟩ := dpAll_map_get har hj
                have hxr := dp_mono s6 _ _ hxr
                have okr := okb.rows R (List.mem_of_getElem? hR)
                have hjB : j < bk.rows.length := (List.getElem?_eq_some_iff.mp hR).1
                have et2 : (bk.rows.take (j + 1)).flatMap Rw.vars = (bk.rows.take j).flatMap Rw.vars ++ R.vars := by
                  rw [List.take_add_one, hR, List.flatMap_append]
                  show _ ++ (R.vars ++ []) = _
                  rw [List.append_nil]
                have hl6 := pre_lenR okb.rows hrows j
                generalize (bk.rows.take j).flatMap Rw.vars = F2 at e6 hl6 et2
                have hrl3 := okr.len
                have hrf := ops_fm R.ops
                have hsl := set_len R
                obtain ⟨dR, rR, eR, eS⟩ := set_row R
                refine ⟨.ref a, rfl, x, rfl, x, .r R, rfl, hxr, ?_, fun a7 H7 ha7 s7 e7 => ?_⟩
                · show (R.ops.map some).length ≤ 1000
                  rw [List.length_map]
                  omega
                refine ⟨a, a7, _, _, rfl, rfl, s7 _ _ e6, e7, ?_, fun a8 ha8 => ?_⟩
                · simp only [List.length_map, List.length_append, sizeLine_eq]
                  show F0.length + (opsVars bk.stop.ops).length + F2.length + (opsVars R.ops).length ≤ 16777216
                  omega
                generalize eH8 : upd H7 a8 _ = H8
                have s8 : Same H6 H8 := eH8 ▸ s7.trans (same_new ha8)
                have e8 : H8 a8 = some (.lst ((F0 ++ opsVars bk.stop.ops ++ F2 ++ opsVars R.ops).map nV)) := by
                  rw [← eH8, upd_same, List.map_append (l₂ := opsVars R.ops)]
                  rfl
                have hx8 := dp_mono s8 _ _ hxr
                rw [Rw.D, eR] at hx8
                refine ⟨x, rfl, x, R.word, dR, rR, rfl, hx8, fun z9 H9 s9 h9 => ⟨(by show 1 ≤ sizeLine; decide), fun a10 ha10 => ?_⟩⟩
                rw [eS] at h9
                have s10 := s9.trans (same_new (o := .lst [z9]) ha10)
                have e10 : (upd H9 a10 (.lst [z9])) a10 = some (.lst [z9]) := upd_same
                have h10 := dp_mono (same_new (o := .lst [z9]) ha10) _ _ h9
                generalize upd H9 a10 (.lst [z9]) = H10 at s10 e10 h10 ⊢
                refine ⟨a10, rfl, ⟨_, .inl (.inl e10)⟩, fun D hD => ?_⟩
                refine lc_list (xs := [z9]) (fun i H11 => H11 D = some (.lst (match i with | 0 => [] | _ + 1 => R.set.toList.map nV)) ∧ Same H10 H11) ⟨upd_same, same_new hD⟩ ?_ ?_ ?_
                · rintro i H11 _ ⟨_, s11⟩
                  exact .inl (.inl (s11 _ _ e10))
                · rintro i y H11 hi ⟨h11, s11⟩
                  have hi0 : i = 0 := by
                    have := (List.getElem?_eq_some_iff.mp hi).1
                    rw [List.length_singleton] at this
                    omega
                  subst hi0
                  have ey : z9 = y := by simpa using hi
                  subst ey
                  refine ⟨rfl, z9, rfl, rfl, _, rfl, ?_⟩
                  cases hset : R.set with
                  | none =>
                    rw [hset] at h10
                    cases h10
                    exact iteF ⟨h11, s11⟩
                  | some n =>
                    rw [hset] at h10
                    cases h10
                    refine iteT ⟨_, rfl, _, h11, (by show 0 < sizeLine; decide), upd_same, ?_⟩
                    intro b' o' e'
                    rw [upd_ne (ne_of_none e' hD)]
                    exact s11 _ _ e'
                · rintro H11 ⟨h11, s11⟩
                  have h11 : H11 D = some (.lst (R.set.toList.map nV)) := h11
                  have s811 := s10.trans s11
                  refine ⟨a8, D, _, _, rfl, rfl, s811 _ _ e8, h11, ?_, fun a12 ha12 => ?_⟩
                  · simp only [List.length_map, List.length_append, sizeLine_eq]
                    omega
                  refine ⟨a12, _, _, rfl, ?_, (s6.trans (s8.trans s811)).trans (same_new ha12)⟩
                  · rw [upd_same, et2, ← List.map_append]
                    congr 2
                    simp only [Rw.vars, List.append_assoc]
              · rintro σ H6 ⟨a, x4, x5, rfl, e6, s6⟩
                rw [hlr, List.take_length] at e6
                refine ⟨a, _, _, _, _, rfl, ?_, s05.trans s6⟩
                · rw [et]
                  rw [e6]
                  simp only [Blk.vars, List.append_assoc]
    · rintro σ H3 ⟨a, x2, x3, x4, x5, rfl, e3, s3⟩
      rw [hlb, List.take_length] at e3
      have hvl := hg.vlen
      have e3 : H3 a = some (.lst ((g.vars.map iN).map V.int)) := by
        rw [e3, ints_nats]
        rfl
      refine ⟨.ref a, rfl, a, _, rfl, .inl (.inl e3), ?_, fun p ks hp hnd hks => ?_⟩
      · rw [List.length_map]
        unfold scanBound
        omega
      have sp := same_new (o := SetO w p (fun j => decide (j ∈ g.vars.map iN)) ks.length) hp
      have hlo : Lo g.vars := fun n hn => by
        have := hg.lt n hn
        have := hg.small
        omega
      refine ⟨p, _, _, rfl, upd_same, lo_len hlo hnd hks, fun ns p2 hpw hmem hlen hp2 => ?_⟩
      have s03 := s0.trans (s3.trans sp)
      have e : ns = (occ g).map iN := srt_of hlo hpw fun k => (hmem k).trans (by rw [decide_eq_true_eq])
      rw [e, ints_nats]
      exact q p2 _ (none_same s03 hp2) (s03.trans (same_new hp2)) upd_same
end
end K51

set_option maxHeartbeats 4000000
/-! HKn: not in, by the written part K; in among numbers. -/
namespace HG
open PySem PySem.Spec PyProof.Rows L2
theorem op_notIn_seqK {X : Cx} {K : PySem.W.Frag} (h : X.K = K) : OpR X (compareOp .NotIn) (rIn K true) := h ▸ op_notIn_seq
theorem in_nats (m : Nat) : ∀ l : List Nat, inV (.int (m : Int)) (l.map fun n : Nat => V.int (n : Int)) = decide (m ∈ l)
  | [] => by simp [inV]
  | n :: l => by
    have ih := in_nats m l
    have e : (inV (.int (m : Int)) ((n :: l).map fun n : Nat => V.int (n : Int))) = (eqV (.int (n : Int)) (.int (m : Int)) || inV (.int (m : Int)) (l.map fun n : Nat => V.int (n : Int))) := rfl
    rw [e, ih]
    have e2 : eqV (.int (n : Int)) (.int (m : Int)) = decide (m = n) := by
      by_cases h : m = n
      · subst h
        simp [eqV]
      · have h2 : ¬ ((n : Int) = (m : Int)) := by omega
        simp [eqV, h, h2]
    rw [e2]
    by_cases h : m = n
    · simp [h]
    · simp [h]
theorem flat_nats (l : List Nat) : (l.map fun n : Nat => V.int (n : Int)).all flatV = true := by
  rw [List.all_eq_true]
  intro x hx
  obtain ⟨k, _, rfl⟩ := List.mem_map.mp hx
  rfl
end HG

set_option maxHeartbeats 4000000
namespace K51
open PySem PySem.Spec PyProof.Rows L2 HG P52 P51
/-! ### apart_by -/
def nfr (R : Rw) (n : Nat) (w : Nat) : Bool := !decide (w ∈ frees R n)
def spApartBy (K : PySem.W.Frag) : Sp := fun vs H Q _ => ∃ (v : V) (a : Addr) (R : Rw) (u : List Nat) (n : Nat), vs = [v, .ref a] ∧ Dp K H v R.D ∧ SqL K H a (u.map nV) ∧ u.length ≤ 1000 ∧ R.set = some n ∧
  ∀ p H', H p = none → Same H H' → H' p = some (.lst ((u.filter (nfr R n)).map nV)) → Q (.ref p) H'
theorem frees_no {R : Rw} (h : eqw R.word "copy" = false) (n : Nat) : frees R n = [n] := by cases R <;> first | rfl | (dsimp only [Rw.word] at h; exact absurd h (by decide +kernel))
theorem filter_snoc {α : Type} {l : List α} {i : Nat} {m : α} (h : l[i]? = some m) (f : α → Bool) : (l.take (i + 1)).filter f = (l.take i).filter f ++ (if f m = true then [m] else []) := by
  rw [List.take_add_one, h, List.filter_append]
  congr 1
  show List.filter _ [m] = _
  rw [List.filter_cons]
  cases f m <;> rfl
section
variable {P : Program} {w : World} {K : PySem.W.Frag} {mg : Str → Option Value} {base : Heap}
set_option pp.maxSteps 600 in
theorem c_apart_by (T : Txt w K mg) : Cal P w K mg base "apart_by" 2 ["instruction", "used"] (spApartBy K) := by
  obtain ⟨fd, F⟩ := T.d_apart_by
  have C_set_by := c_set_by (P := P) (w := w) (base := base) T
  refine ⟨⟨fd, F.ok sc_apart_by (fun vs H Q E h => by repeat (first | (obtain ⟨e, _⟩ := h; subst e; rfl) | (obtain ⟨_, h⟩ := h))) (fun cdv A outer s H vs Q E hr h => ?_), F.bindsN fun _ _ _ _ _ _ us hl => match us, hl with | [_, _], _ => rfl⟩, T.g _ (by decide), F.kp⟩
  obtain ⟨v, a, R, u, n, rfl, hv, hu, hul, hset, q⟩ := h
  refine ⟨_, PSs.nox (pss_cons (ps_set (i := 2) sc_apart_by.nd rfl (.inr rfl) (pe_lst (pa_cons (pe_cal C_set_by (hr.mono (by omega)) (by rfl) (pa_cons (pv 0) pa_nil)) pa_nil)))
      (pss_cons (ps_if (pt_cmpR op_eq (pe_ix (ix_P (K := K) rfl) (pv 0) pe_int (fun _ _ => rfl)) pe_str (nomark _)) (pss_one (ps_expr (pe_bm PySem.F.plainAttrs_list PySem.F.slot_list_append PySem.F.type_list_append mt_append (pv 2) (pa_cons (pe_ix (ix_P (K := K) rfl) (pv 0) pe_int (fun _ _ => rfl)) pa_nil)))) pss_nil)
      (pss_one (ps_ret (pe_lc (own := [("v", 3)]) (by rfl) sc_apart_by.nd (pi_list (pv 1)) (blkOk_by (own := [("v", 3)]) (N := N_apart_by) (sc := defScope s_apart_by) (by decide +kernel)) (fun _ _ _ _ _ => (pg_name (i := 3) sc_apart_by.nd rfl (.inl rfl))) (fun _ _ _ _ _ => pts_one (pt_cmpR (op_notIn_seqK (K := K) rfl) (pv 3) (pv 2) (by rfl))) (fun _ _ _ _ _ => (pv 3))))))), ?_⟩
  refine ⟨v, rfl, v, R, rfl, hv, (by show 1 ≤ sizeLine; decide), fun l2 hl2 => ?_⟩
  rw [hset]
  show tSeq _ _ _ _ (upd H l2 (.lst [nV n]))
  have s2 := same_new (o := .lst [nV n]) hl2
  have e2 : (upd H l2 (.lst [nV n])) l2 = some (.lst [nV n]) := upd_same
  generalize upd H l2 (.lst [nV n]) = H2 at s2 e2 ⊢
  have hv2 := dp_mono s2 _ _ hv
  have fin : ∀ (H3 : Hp) (fr : List Nat), fr = frees R n → H3 l2 = some (.lst (fr.map nV)) → Same H H3 → tLc (iList K (tVar 1)) (gName 3) (tTest (tOp (rIn K true) (tVar 3) (tVar 2))) (tVar 3) [3] [some v, some (.ref a), some (.ref l2), none] H3 fun x H4 => Q x H4 := by
    intro H3 fr hfr e3 s3
    subst hfr
    refine ⟨.ref a, rfl, a, rfl, ⟨_, Same.seq s3 hu⟩, fun D hD => ?_⟩
    refine lc_list (xs := u.map nV) (fun i H4 => H4 D = some (.lst (((u.take i).filter (nfr R n)).map nV)) ∧ Same H3 H4) ⟨upd_same, same_new hD⟩ ?_ ?_ ?_
    · rintro i H4 _ ⟨_, s4⟩
      exact Same.seq (s3.trans s4) hu
    · rintro i x H4 hi ⟨h4, s4⟩
      rw [List.getElem?_map] at hi
      obtain ⟨m, hm, rfl⟩ := Option.map_eq_some_iff.mp hi
      refine ⟨rfl, _, rfl, _, rfl, l2, _, rfl, .inl (.inl (.inl (s4 _ _ e3))), rfl, flat_nats _, _, rfl, ?_⟩
      show if (!inV (nV m) ((frees R n).map nV)) = true then _ else _
      rw [in_nats, filter_snoc hm]
      show if nfr R n m = true then _ else _
      cases nfr R n m with
      | false =>
        refine iteF ⟨?_, s4⟩
        rw [if_neg Bool.false_ne_true, List.append_nil]
        exact h4
      | true =>
        refine iteT ⟨_, rfl, _, h4, ?_, ?_, fun b' o' e' => ?_⟩
        · rw [List.length_map]
          have := List.length_filter_le (nfr R n) (u.take i)
          rw [List.length_take] at this
          exact small_line (by omega)
        · rw [upd_same, if_pos rfl, List.map_append]
          rfl
        · rw [upd_ne (ne_of_none e' hD)]
          exact s4 _ _ e'
    rintro H4 ⟨h4, s4⟩
    rw [List.length_map, List.take_length] at h4
    exact q D H4 (none_same s3 hD) (s3.trans s4) h4
  refine ⟨v, rfl, _, 0, _, hv2, rfl, rfl, fun z hz => ?_⟩
  cases hz
  refine ⟨rfl, _, rfl, ?_⟩
  show if eqw R.word "copy" = true then _ else _
  cases h1 : eqw R.word "copy" with
  | true =>
    obtain ⟨x, y, rfl⟩ := ops2 h1
    have ex : x = n := Option.some.inj hset
    subst ex
    refine iteT ⟨.ref l2, rfl, .inl ⟨rfl, _, .inl (.inl e2)⟩, v, rfl, _, 2, _, hv2, rfl, rfl, fun z hz => ?_⟩
    cases hz
    refine ⟨l2, _, _, rfl, rfl, e2, (by show 1 < sizeLine; decide), fin _ [x, y] rfl upd_same fun b o e => ?_⟩
    rw [upd_ne (ne_of_none e hl2)]
    exact s2 _ _ e
  | false => exact iteF (fin _ [n] (frees_no h1 n).symm e2 s2)
/-! ### apart -/
abbrev pD (p : Nat × Nat) : PyData := .tuple [nD p.1, nD p.2]
theorem nlP (l : List (Nat × Nat)) : noLAll (l.map pD) = true := noLAll_map fun _ _ => rfl
def spApart (K : PySem.W.Frag) : Sp := fun vs H Q _ => ∃ (v : V) (N : Nat) (g : Gr), vs = [v] ∧ Dp K H v g.D ∧ GrB N g ∧
  ∀ p H' cl xs, H p = none → Same H H' → Fx g cl → Bw g cl → H' p = some (.lst xs) → DpAll K H' xs ((apartG g cl).map pD) → Q (.ref p) H'
theorem prs_len (R : Rw) (u : List Nat) (hu : u.length ≤ 16) : (prs R u).length ≤ 16 := by
  unfold prs
  cases R.set with
  | none => exact Nat.zero_le _
  | some v =>
    rw [List.length_map]
    exact Nat.le_trans (List.length_filter_le _ _) hu
theorem prsB_app : ∀ (l : List Rw) (R : Rw) (u : List Nat), prsB (l ++ [R]) u = prsB l u ++ prs R (rowsU l u)
  | [], R, u => by simp [prsB, rowsU]
  | S :: l, R, u => by
    show prs S u ++ prsB (l ++ [R]) (bef S u) = (prs S u ++ prsB l (bef S u)) ++ prs R (rowsU l (bef S u))
    rw [prsB_app l R (bef S u), List.append_assoc]
theorem prsB_len : ∀ (l : List Rw) (u : List Nat), u.length ≤ 16 → (prsB l u).length ≤ 16 * l.length
  | [], _, _ => Nat.zero_le _
  | R :: l, u, h => by
    have h1 := prs_len R u h
    have h2 := prsB_len l (bef R u) (bef_len R u)
    show (prs R u ++ prsB l (bef R u)).length ≤ _
    rw [List.length_append, List.length_cons]
    omega
theorem apart_len (cl : List (List Nat)) : ∀ l : List Blk, (l.flatMap fun b => prsB b.rows.reverse (endU b.stop cl)).length ≤ 16 * rowsN l
  | [] => Nat.zero_le _
  | b :: l => by
    have h1 := prsB_len b.rows.reverse (endU b.stop cl) (srt_len _)
    have h2 := apart_len cl l
    rw [List.length_reverse] at h1
    unfold rowsN at *
    rw [List.flatMap_cons, List.length_append, List.map_cons, List.sum_cons]
    omega
set_option pp.maxSteps 600 in
theorem c_apart (T : Txt w K mg) : Cal P w K mg base "apart" 6 ["graph"] (spApart K) := by
  obtain ⟨fd, F⟩ := T.d_apart
  have C_later_uses := c_later_uses (P := P) (w := w) (base := base) T
  have C_used_at_end := c_used_at_end (P := P) (w := w) (base := base) T
  have C_set_by := c_set_by (P := P) (w := w) (base := base) T
  have C_used_before := c_used_before (P := P) (w := w) (base := base) T
  have C_apart_by := c_apart_by (P := P) (w := w) (base := base) T
  refine ⟨⟨fd, F.ok sc_apart (fun vs H Q E h => by repeat (first | (obtain ⟨e, _⟩ := h; subst e; rfl) | (obtain ⟨_, h⟩ := h))) (fun cdv A outer s H vs Q E hr h => ?_), F.bindsN fun _ _ _ _ _ _ us hl => match us, hl with | [_], _ => rfl⟩, T.g _ (by decide), F.kp⟩
  obtain ⟨v, N, g, rfl, hv, hg, q⟩ := h
  refine ⟨_, PSs.nox (pss_cons (ps_set (i := 1) sc_apart.nd rfl (.inl rfl) (pe_cal C_later_uses (hr.mono (by omega)) (by rfl) (pa_cons (pv 0) pa_nil)))
      (pss_cons (ps_set (i := 2) sc_apart.nd rfl (.inl rfl) (pe_lst pa_nil))
      (pss_cons (ps_for PassesOwn.never rfl (pi_tup (pe_ix (ix_P (K := K) rfl) (pv 0) pe_int (fun _ _ => rfl))) (pg_name (i := 3) sc_apart.nd rfl (.inl rfl)) (pss_cons (ps_set (i := 4) sc_apart.nd rfl (.inl rfl) (pe_cal C_used_at_end (hr.mono (by omega)) (by rfl) (pa_cons (pv 3) (pa_cons (pv 1) pa_nil))))
      (pss_one (ps_for PassesOwn.never rfl (pi_tup (pe_revP (pe_ix (ix_P (K := K) rfl) (pv 3) pe_int (fun _ _ => rfl)))) (pg_name (i := 5) sc_apart.nd rfl (.inl rfl)) (pss_cons (ps_set (i := 6) sc_apart.nd rfl (.inr rfl) (pe_cal C_set_by (hr.mono (by omega)) (by rfl) (pa_cons (pv 5) pa_nil)))
      (pss_cons (ps_if (pt_cmpR op_notN (pv 6) pe_non (nomark _)) (pss_one (ps_expr (pe_bm PySem.F.plainAttrs_list PySem.F.slot_list_extend PySem.F.type_list_extend mt_extend (pv 2) (pa_cons (pe_lc (own := [("w", 7)]) (by rfl) sc_apart.nd (pi_list (pe_cal C_apart_by (hr.mono (by omega)) (by rfl) (pa_cons (pv 5) (pa_cons (pv 4) pa_nil)))) (blkOk_by (own := [("w", 7)]) (N := N_apart) (sc := defScope s_apart) (by decide +kernel)) (fun _ _ _ _ _ => (pg_name (i := 7) sc_apart.nd rfl (.inl rfl))) (fun _ _ _ _ _ => pts_nil) (fun _ _ _ _ _ => (pe_tup (pa_cons (pv 6) (pa_cons (pv 7) pa_nil))))) pa_nil)))) pss_nil)
      (pss_one (ps_set (i := 4) sc_apart.nd rfl (.inl rfl) (pe_cal C_used_before (hr.mono (by omega)) (by rfl) (pa_cons (pv 5) (pa_cons (pv 4) pa_nil)))))))))))
      (pss_one (ps_ret (pv 2)))))), ?_⟩
  refine ⟨v, rfl, v, N, g, rfl, hv, hg, fun c H1 cl hc s1 hcl hfx hbw => ⟨Nat.zero_le _, fun p2 hp2 => ?_⟩⟩
  have hpH := none_same s1 hp2
  generalize eH2 : upd H1 p2 _ = H2
  have s2 : Same H H2 := eH2 ▸ s1.trans (same_new hp2)
  have e2 : H2 p2 = some (.lst []) := by rw [← eH2, upd_same]
  have c2 : Cl K H2 c cl := hcl.same (eH2 ▸ same_new hp2)
  refine ⟨v, rfl, _, 1, _, dp_mono s2 _ _ hv, rfl, rfl, fun zb hzb => ?_⟩
  cases hzb with
  | @tup ab xb _ sqb hab =>
    have hlb := dpAll_len hab
    rw [List.length_map] at hlb
    refine ⟨ab, rfl, ⟨_, sqb⟩, ?_⟩
    refine for_tup (xs := xb) (fun i σ H3 => ∃ x3 x4 x5 x6 x7 xs, σ = [some v, some (.ref c), some (.ref p2), x3, x4, x5, x6, x7] ∧ H3 p2 = some (.lst xs) ∧ DpAll K H3 xs (((g.blocks.take i).flatMap fun b => prsB b.rows.reverse (endU b.stop cl)).map pD) ∧ Same H1 H3 ∧ KT H2 H3)
      ⟨_, _, _, _, _, [], rfl, e2, .nil, (fun b o e => by rw [← eH2, upd_ne (ne_of_none e hp2)]; exact e), KT.refl _⟩ ?_ ?_ ?_
    · rintro i σ H3 _ ⟨x3, x4, x5, x6, x7, xs, rfl, _, _, _, k3⟩
      exact sqT_kt k3 sqb
    · rintro i x σ H3 hi ⟨x3, x4, x5, x6, x7, xs, rfl, e3, hd3, s3, k3⟩
      obtain ⟨b, hb, hx⟩ := dpAll_map_get hab hi
      have hx := dp_kt k3 _ _ (nlB b) hx
      have hbm := List.mem_of_getElem? hb
      have ok := hg.blk b hbm
      have hN := hg.small
      have et : (g.blocks.take (i + 1)).flatMap (fun b => prsB b.rows.reverse (endU b.stop cl)) = (g.blocks.take i).flatMap (fun b => prsB b.rows.reverse (endU b.stop cl)) ++ prsB b.rows.reverse (endU b.stop cl) := by
        rw [List.take_add_one, hb, List.flatMap_append]
        show _ ++ (prsB b.rows.reverse (endU b.stop cl) ++ []) = _
        rw [List.append_nil]
      have hlen0 : ((g.blocks.take i).flatMap (fun b => prsB b.rows.reverse (endU b.stop cl))).length ≤ 16 * 140 := by
        have h1 := apart_len cl (g.blocks.take i)
        have h2 : rowsN (g.blocks.take i) ≤ rowsN g.blocks := by
          have e := rowsN_app (g.blocks.take i) (g.blocks.drop i)
          rw [List.take_append_drop] at e
          omega
        have h3 := hg.few
        omega
      generalize (g.blocks.take i).flatMap (fun b => prsB b.rows.reverse (endU b.stop cl)) = F0 at hd3 et hlen0
      have hto : ∀ n ∈ b.stop.to, n < cl.length := fun n hn => by
        rw [hfx.len]
        exact StpOk.to ok.stop n hn
      refine ⟨_, rfl, .ref c, rfl, x, c, b, cl, rfl, hx, hcl.same s3, lo_stop ok.stop hN, hto, fun pu H4 hpu s4 h4 => ?_⟩
      refine ⟨_, rfl, _, 0, _, dp_mono s4 _ _ hx, rfl, rfl, fun zr hzr => ⟨_, hzr, fun z5 H5 s5 h5 => ?_⟩⟩
      rw [← List.map_reverse] at h5
      have nup : pu ≠ p2 := fun z => by rw [z, e3] at hpu; cases hpu
      have e5 := s5 _ _ (s4 _ _ e3)
      have hd5 := dpAll_mono (s4.trans s5) _ _ hd3
      have hu5 := s5 _ _ h4
      have s15 := s3.trans (s4.trans s5)
      have k25 := k3.trans (KT.of (s4.trans s5))
      have hu0 : Lo (endU b.stop cl) := lo_srt _
      have hul0 : (endU b.stop cl).length ≤ 16 := srt_len _
      generalize endU b.stop cl = u0 at hu5 et hu0 hul0
      have hlr : b.rows.reverse.length ≤ 140 := by
        rw [List.length_reverse]
        exact Nat.le_trans (rowsN_mem hbm) hg.few
      cases h5 with
      | @tup a5 x5' _ sq5 ha5 =>
        have hxl := dpAll_len ha5
        rw [List.length_map] at hxl
        refine ⟨a5, rfl, ⟨_, sq5⟩, ?_⟩
        refine for_tup (xs := x5') (fun j σ H6 => ∃ pu x5 x6 x7 xs, σ = [some v, some (.ref c), some (.ref p2), some x, some (.ref pu), x5, x6, x7] ∧ H6 p2 = some (.lst xs) ∧ DpAll K H6 xs ((F0 ++ prsB (b.rows.reverse.take j) u0).map pD) ∧ H6 pu = some (.lst ((rowsU (b.rows.reverse.take j) u0).map nV)) ∧ pu ≠ p2 ∧ Same H1 H6 ∧ KT H5 H6)
          ⟨pu, _, _, _, xs, rfl, e5, by show DpAll K H5 xs ((F0 ++ []).map pD); rw [List.append_nil]; exact hd5, hu5, nup, s15, KT.refl _⟩ ?_ ?_ ?_
        · rintro j σ H6 _ ⟨pu, x5, x6, x7, xs, rfl, _, _, _, _, _, k6⟩
          exact sqT_kt k6 sq5
        · rintro j xr σ H6 hj ⟨pu, x5, x6, x7, xs, rfl, e6, hd6, hu6, nup, s6, k6⟩
          obtain ⟨R, hR, hxR⟩ := dpAll_map_get ha5 hj
          have hxR := dp_kt k6 _ _ (nlR R) hxR
          have hjl : j < b.rows.reverse.length := (List.getElem?_eq_some_iff.mp hR).1
          have okR := ok.rows R (List.mem_reverse.mp (List.mem_of_getElem? hR))
          have eR : b.rows.reverse.take (j + 1) = b.rows.reverse.take j ++ [R] := by rw [List.take_add_one, hR]; rfl
          have hpl := prsB_len (b.rows.reverse.take j) u0 hul0
          rw [List.length_take] at hpl
          have hpl : (prsB (b.rows.reverse.take j) u0).length ≤ 16 * 140 := by omega
          have hu : Lo (rowsU (b.rows.reverse.take j) u0) := lo_rowsU _ hu0
          have hul := rowsU_len (b.rows.reverse.take j) hul0
          rw [eR, prsB_app, rowsU_app]
          generalize rowsU (b.rows.reverse.take j) u0 = u at hu6 hu hul
          generalize prsB (b.rows.reverse.take j) u0 = G0 at hd6 hpl
          have hrl := RwOk.len okR
          have hdl := dpAll_len hd6
          rw [List.length_map, List.length_append] at hdl
          refine ⟨xr, rfl, xr, R, rfl, hxR, _, rfl, rfl, _, rfl, ?_⟩
          cases hset : R.set with
          | none =>
            refine iteF ⟨xr, rfl, .ref pu, rfl, xr, pu, R, u, rfl, hxR, .inl (.inl hu6), by omega, lo_ops okR hN, hu, by omega, fun p9 H9 hp9 s9 h9 => ⟨p9, _, _, _, xs, rfl, s9 _ _ e6, ?_, h9, (fun z => by rw [z, e6] at hp9; cases hp9), s6.trans s9, k6.trans (KT.of s9)⟩⟩
            have ep : prs R u = [] := by unfold prs; rw [hset]
            rw [ep, List.append_nil]
            exact dpAll_mono s9 _ _ hd6
          | some n =>
            have ep : prs R u = (u.filter (nfr R n)).map fun w => (n, w) := by unfold prs; rw [hset]; rfl
            have hfl := List.length_filter_le (nfr R n) u
            refine iteT ⟨.ref p2, rfl, .inl ⟨rfl, _, .inl (.inl e6)⟩, xr, rfl, .ref pu, rfl, xr, pu, R, u, n, rfl, hxR, .inl (.inl hu6), by omega, hset, fun p7 H7 hp7 s7 h7 => ⟨p7, rfl, ⟨_, .inl (.inl h7)⟩, fun D hD => ?_⟩⟩
            refine lc_mkL (K := K) (g0 := nD) (f := fun w => pD (n, w)) (as := u.filter (nfr R n)) (xs := (u.filter (nfr R n)).map nV) (.inl (.inl h7)) (dpAll_map _ fun _ _ => .int _) (by omega) hD (fun _ _ => rfl) (fun y e H8 QQ RR he hy s8 hq => ?_) (fun H8 ys hD8 hY s8 => ?_)
            · exact ⟨rfl, tyes ⟨_, rfl, _, rfl, (by show 2 ≤ sizeLine; decide), fun p hp => hq _ _ (dp_tupN hp (.cons (.int _) (.cons (dp_mono s8 _ _ hy) .nil))) (same_new hp)⟩⟩
            have e8 := s8 _ _ (s7 _ _ e6)
            have hyl := dpAll_len hY
            rw [List.length_map] at hyl
            refine ⟨p2, D, xs, ys, rfl, rfl, e8, hD8, by rw [sizeLine_eq]; omega, ?_⟩
            have s67 := s7.trans s8
            have nD2 : D ≠ p2 := fun z => by
              have := s7 _ _ e6
              rw [← z, hD] at this
              cases this
            have kk := KT.lst (o := .lst (xs ++ ys)) e8
            have k69 := (KT.of s67).trans kk
            have hp21 : ∀ b', H1 b' ≠ none → b' ≠ p2 := fun b' h z => h (z ▸ hp2)
            refine ⟨xr, rfl, .ref pu, rfl, xr, pu, R, u, rfl, dp_kt k69 _ _ (nlR R) hxR, .inl (.inl (by rw [upd_ne nup]; exact s67 _ _ hu6)), by omega, lo_ops okR hN, hu, by omega, fun p9 H9 hp9 s9 h9 => ⟨p9, _, _, _, xs ++ ys, rfl, s9 _ _ upd_same, ?_, h9, (fun z => by rw [z, upd_same] at hp9; cases hp9), fun b' o' e' => s9 _ _ ?_, (k6.trans k69).trans (KT.of s9)⟩⟩
            · rw [ep, ← List.append_assoc, List.map_append, List.map_map]
              refine dpAll_mono s9 _ _ (dpAll_app (dpAll_kt k69 _ _ (nlP _) hd6) (dpAll_kt kk _ _ ?_ hY))
              exact noLAll_map fun _ _ => rfl
            · rw [upd_ne (hp21 b' (fun z => by rw [z] at e'; cases e'))]
              exact s67 _ _ (s6 _ _ e')
        · rintro σ H6 ⟨pu, x5, x6, x7, xs, rfl, e6, hd6, hu6, nup, s6, k6⟩
          rw [hxl, List.take_length] at hd6
          exact ⟨_, _, _, _, _, xs, rfl, e6, by rw [et]; exact hd6, s6, k25.trans k6⟩
    · rintro σ H3 ⟨x3, x4, x5, x6, x7, xs, rfl, e3, hd3, s3, k3⟩
      rw [hlb, List.take_length] at hd3
      exact ⟨_, rfl, q p2 H3 cl xs hpH (s1.trans s3) hfx hbw e3 hd3⟩
end
end K51

set_option maxHeartbeats 4000000
namespace K51
open PySem PySem.Spec PyProof.Rows L2 HG P52 P51
/-! ### _law_ways -/
def spWays (K : PySem.W.Frag) : Sp := fun vs H Q _ => ∃ (v : V) (E : Stp), vs = [v] ∧ Dp K H v E.D ∧ ∀ (a : Addr) (H' : Hp), H a = none → Same H H' → H' a = some (.lst (E.to.map nV)) → Q (.ref a) H'
theorem merge2 {k1 k2 : Key} (h : k2 ≠ k1) (v1 v2 : V) : mergeK [] [(k1, v1), (k2, v2)] = [(k1, v1), (k2, v2)] := by
  have h2 : ¬ k1 = k2 := fun e => h e.symm
  simp [mergeK, putK, h2]
abbrev wayKV (l1 l2 : Addr) : List (Key × V) := [(Sum.inr "jump", .ref l1), (Sum.inr "branch", .ref l2)]
theorem k_jb : ¬ ((Sum.inr "jump" : Key) = (Sum.inr "branch" : Key)) := by decide +kernel
theorem k_jr : ¬ ((Sum.inr "jump" : Key) = (Sum.inr "return" : Key)) := by decide +kernel
theorem k_br : ¬ ((Sum.inr "branch" : Key) = (Sum.inr "return" : Key)) := by decide +kernel
theorem k_jh : ¬ ((Sum.inr "jump" : Key) = (Sum.inr "halt" : Key)) := by decide +kernel
theorem k_bh : ¬ ((Sum.inr "branch" : Key) = (Sum.inr "halt" : Key)) := by decide +kernel
theorem way_of (E : Stp) (l1 l2 l3 : Addr) : ((valV (wayKV l1 l2) (Sum.inr E.word)).getD (.ref l3)) = .ref (match E with | .jp _ => l1 | .br _ _ _ => l2 | _ => l3) := by
  cases E with
  | jp n =>
    show ((valV (wayKV l1 l2) (Sum.inr "jump")).getD (.ref l3)) = .ref l1
    rw [valV_pos rfl]
    rfl
  | br a n m =>
    show ((valV (wayKV l1 l2) (Sum.inr "branch")).getD (.ref l3)) = .ref l2
    rw [valV_neg k_jb, valV_pos rfl]
    rfl
  | rt a =>
    show ((valV (wayKV l1 l2) (Sum.inr "return")).getD (.ref l3)) = .ref l3
    rw [valV_neg k_jr, valV_neg k_br]
    rfl
  | ht i =>
    show ((valV (wayKV l1 l2) (Sum.inr "halt")).getD (.ref l3)) = .ref l3
    rw [valV_neg k_jh, valV_neg k_bh]
    rfl
/-- claims as the law has them: a list of lists -/
structure ClL (K : PySem.W.Frag) (H : Hp) (a : Addr) (cl : List (List Nat)) : Prop where
  ex : ∃ cvs : List V, SqL K H a cvs ∧ ∀ n (h : n < cl.length), ∃ b, cvs[n]? = some (.ref b) ∧ H b = some (.lst (cl[n].map nV))
  ok : ∀ l ∈ cl, Lo l ∧ l.length ≤ 16
theorem ClL.same {K : PySem.W.Frag} {H H' : Hp} {a : Addr} {cl : List (List Nat)} (h : ClL K H a cl) (s : Same H H') : ClL K H' a cl := by
  obtain ⟨cvs, h1, h2⟩ := h.ex
  refine ⟨⟨cvs, Same.seq s h1, fun n hn => ?_⟩, h.ok⟩
  obtain ⟨b, h3, h4⟩ := h2 n hn
  exact ⟨b, h3, s _ _ h4⟩
theorem dp_seq {K : PySem.W.Frag} {H : Hp} {z : V} {ds : List PyData} (h : Dp K H z (.tuple ds)) : ∃ a xs, z = .ref a ∧ SqT K H a xs ∧ DpAll K H xs ds := by
  cases h with
  | tup s a => exact ⟨_, _, rfl, s, a⟩
section
variable {P : Program} {w : World} {K : PySem.W.Frag} {mg : Str → Option Value} {base : Heap}
set_option pp.maxSteps 600 in
theorem c_ways (T : Txt w K mg) : Cal P w K mg base "_law_ways" 1 ["_law_end_here"] (spWays K) := by
  obtain ⟨fd, F⟩ := T.d__law_ways
  refine ⟨⟨fd, F.ok sc__law_ways (fun vs H Q E h => by repeat (first | (obtain ⟨e, _⟩ := h; subst e; rfl) | (obtain ⟨_, h⟩ := h))) (fun cdv A outer s H vs Q E hr h => ?_), F.bindsN fun _ _ _ _ _ _ us hl => match us, hl with | [_], _ => rfl⟩, T.g _ (by decide), F.kp⟩
  obtain ⟨v, E1, rfl, hv, q⟩ := h
  have hu := hu_of hr
  refine ⟨_, PSs.nox (pss_one (ps_ret (pe_dget2 hu (pe_disp (pps_cons pe_str (pe_callTy call_list_of (by rfl) T.n_list (by decide +kernel) (pa_cons (pe_slice (sl_P (K := K) rfl) (pv 0) (po_some pe_int) po_none) pa_nil)) (pps_cons pe_str (pe_callTy call_list_of (by rfl) T.n_list (by decide +kernel) (pa_cons (pe_slice (sl_P (K := K) rfl) (pv 0) (po_some pe_int) po_none) pa_nil)) pps_nil)) (by rfl) (by rfl) (fun z => by cases z) (by decide)) (pe_ix (ix_P (K := K) rfl) (pv 0) pe_int (fun _ _ => rfl)) (pe_lst pa_nil) ⟨rfl, rfl, rfl, rfl⟩))), ?_⟩
  intro dd hdd
  have s1 := same_new (o := .dK []) hdd
  have e1 : (upd H dd (.dK [])) dd = some (.dK []) := upd_same
  generalize upd H dd (.dK []) = H1 at s1 e1 ⊢
  refine ⟨v, rfl, 1, rfl, _, dp_mono s1 _ _ hv, fun z2 H2 s2 h2 => ?_⟩
  rw [show (some (1 : Int)) = some ((1 : Nat) : Int) from rfl, cutP_from] at h2
  obtain ⟨a2, x2, rfl, sq2, ha2⟩ := dp_seq h2
  refine ⟨a2, x2, rfl, .inr sq2, fun l3 hl3 => ?_⟩
  have s3 := same_new (o := .lst x2) hl3
  have e3 : (upd H2 l3 (.lst x2)) l3 = some (.lst x2) := upd_same
  have d3 := dpAll_mono s3 _ _ ha2
  generalize upd H2 l3 (.lst x2) = H3 at s3 e3 d3 ⊢
  have s13 := s2.trans s3
  refine ⟨v, rfl, 2, rfl, _, dp_mono (s1.trans s13) _ _ hv, fun z4 H4 s4 h4 => ?_⟩
  rw [show (some (2 : Int)) = some ((2 : Nat) : Int) from rfl, cutP_from] at h4
  obtain ⟨a4, x4, rfl, sq4, ha4⟩ := dp_seq h4
  refine ⟨a4, x4, rfl, .inr sq4, fun l5 hl5 => ?_⟩
  have s5 := same_new (o := .lst x4) hl5
  have e5 : (upd H4 l5 (.lst x4)) l5 = some (.lst x4) := upd_same
  have d5 := dpAll_mono s5 _ _ ha4
  generalize upd H4 l5 (.lst x4) = H5 at s5 e5 d5 ⊢
  have s35 := s4.trans s5
  have s15 := s13.trans s35
  have e35 := s35 _ _ e3
  have d35 := dpAll_mono s35 _ _ d3
  refine ⟨s15 _ _ e1, wayKV l3 l5, rfl, (by show 2 ≤ 15; decide), ?_⟩
  rw [merge2 (by decide +kernel)]
  have s6 : Same H (upd H5 dd (.dK (wayKV l3 l5))) := fun b o e => by
    rw [upd_ne (ne_of_none e hdd)]
    exact s15 _ _ (s1 _ _ e)
  have e6 : (upd H5 dd (.dK (wayKV l3 l5))) dd = some (.dK (wayKV l3 l5)) := upd_same
  have n3 : l3 ≠ dd := fun z => by
    have := (s2 _ _ e1)
    rw [← z, hl3] at this
    cases this
  have n5 : l5 ≠ dd := fun z => by
    have := (s13.trans s4) _ _ e1
    rw [← z, hl5] at this
    cases this
  have e36 : (upd H5 dd (.dK (wayKV l3 l5))) l3 = some (.lst x2) := by rw [upd_ne n3]; exact e35
  have e56 : (upd H5 dd (.dK (wayKV l3 l5))) l5 = some (.lst x4) := by rw [upd_ne n5]; exact e5
  have hl3H := none_same (s1.trans s2) hl3
  have hl5H := none_same (s1.trans (s13.trans s4)) hl5
  generalize upd H5 dd (.dK (wayKV l3 l5)) = H6 at s6 e6 e36 e56 ⊢
  refine ⟨dd, rfl, .inl ⟨_, .inl e6⟩, v, rfl, _, 0, _, dp_mono s6 _ _ hv, rfl, rfl, fun z hz => ?_⟩
  cases hz
  refine ⟨Nat.zero_le _, fun l7 hl7 => ⟨_, DGet.k (k := Sum.inr E1.word) (upd_get hl7 e6), ?_⟩⟩
  rw [way_of]
  have s7 := s6.trans (same_new (o := .lst []) hl7)
  cases E1 with
  | jp n =>
    refine q l3 _ hl3H s7 (upd_get hl7 ?_)
    have : x2 = [nV n] := dpAll_nV (ks := [n]) d35
    rw [e36, this]
    rfl
  | br a n m =>
    refine q l5 _ hl5H s7 (upd_get hl7 ?_)
    have : x4 = [nV n, nV m] := dpAll_nV (ks := [n, m]) d5
    rw [e56, this]
    rfl
  | rt a => exact q l7 _ (none_same s6 hl7) s7 upd_same
  | ht i => exact q l7 _ (none_same s6 hl7) s7 upd_same
/-! ### _law_used_behind -/
def spBehind (K : PySem.W.Frag) : Sp := fun vs H Q _ => ∃ (v : V) (a : Addr) (E : Stp) (cl : List (List Nat)), vs = [v, .ref a] ∧ Dp K H v E.D ∧ ClL K H a cl ∧ Lo (opsVars E.ops) ∧ (∀ n ∈ E.to, n < cl.length) ∧
  ∀ p H', H p = none → Same H H' → H' p = some (.lst ((endU E cl).map nV)) → Q (.ref p) H'
set_option pp.maxSteps 600 in
theorem c_used_behind (T : Txt w K mg) : Cal P w K mg base "_law_used_behind" 3 ["_law_end_here", "_law_starts"] (spBehind K) := by
  obtain ⟨fd, F⟩ := T.d__law_used_behind
  have C__law_variables := c_vars (P := P) (w := w) (base := base) T
  have C__law_ways := c_ways (P := P) (w := w) (base := base) T
  refine ⟨⟨fd, F.ok sc__law_used_behind (fun vs H Q E h => by repeat (first | (obtain ⟨e, _⟩ := h; subst e; rfl) | (obtain ⟨_, h⟩ := h))) (fun cdv A outer s H vs Q E hr h => ?_), F.bindsN fun _ _ _ _ _ _ us hl => match us, hl with | [_, _], _ => rfl⟩, T.g _ (by decide), F.kp⟩
  obtain ⟨v, a, E1, cl, rfl, hv, hc, hoo, hto, q⟩ := h
  refine ⟨_, PSs.nox (pss_cons (ps_set (i := 2) sc__law_used_behind.nd rfl (.inl rfl) (pe_cal C__law_variables (hr.mono (by omega)) (by rfl) (pa_cons (pv 0) pa_nil)))
      (pss_cons (ps_for PassesOwn.never rfl (pi_list (pe_cal C__law_ways (hr.mono (by omega)) (by rfl) (pa_cons (pv 0) pa_nil))) (pg_name (i := 3) sc__law_used_behind.nd rfl (.inl rfl)) (pss_one (ps_set (i := 2) sc__law_used_behind.nd rfl (.inl rfl) (pe_op op_cat (pv 2) (pe_ix (ix_listK (K := K) rfl) (pv 1) (pv 3) (fun _ _ => rfl))))))
      (pss_one (ps_ret (pe_callB (cr_sortedSet rfl) (by rfl) T.n_sorted (by decide +kernel) (pa_cons (pe_callTy (cr_setLI rfl) (by rfl) T.n_set (by decide +kernel) (pa_cons (pv 2) pa_nil)) pa_nil)))))), ?_⟩
  have hlos : (Ln.e E1).los.length ≤ 1 := by cases E1 <;> exact Nat.le_of_ble_eq_true rfl
  refine ⟨v, rfl, v, .e E1, rfl, hv, by omega, fun p1 H1 hp1 s1 e1 => ?_⟩
  refine ⟨v, rfl, v, E1, rfl, dp_mono s1 _ _ hv, fun p2 H2 hp2 s2 e2 => ⟨p2, rfl, ⟨_, .inl (.inl e2)⟩, ?_⟩⟩
  have hol := ends_len E1
  have htl : E1.to.length ≤ 2 := by cases E1 <;> exact Nat.le_of_ble_eq_true rfl
  refine for_list (xs := E1.to.map nV) (fun i σ H3 => ∃ p x3, σ = [some v, some (.ref a), some (.ref p), x3] ∧ H3 p = some (.lst ((opsVars E1.ops ++ (E1.to.take i).flatMap (at_ cl)).map nV)) ∧ ((E1.to.take i).flatMap (at_ cl)).length ≤ 16 * i ∧ Same H2 H3) ⟨p1, _, rfl, ?_, Nat.zero_le _, Same.refl _⟩ ?_ ?_ ?_
  · show H2 p1 = some (.lst ((opsVars E1.ops ++ []).map nV))
    rw [List.append_nil]
    exact s2 _ _ e1
  · rintro i σ H3 _ ⟨p, x3, rfl, _, _, s3⟩
    exact .inl (.inl (s3 _ _ e2))
  · rintro i x σ H3 hi ⟨p, x3, rfl, e3, hl3, s3⟩
    rw [List.getElem?_map] at hi
    obtain ⟨n, hn, rfl⟩ := Option.map_eq_some_iff.mp hi
    have hi2 : i < E1.to.length := (List.getElem?_eq_some_iff.mp hn).1
    have s03 := s1.trans (s2.trans s3)
    obtain ⟨cvs, hs, hd⟩ := (hc.same s03).ex
    have hnl := hto n (List.mem_of_getElem? hn)
    obtain ⟨cv, hcv, hcd⟩ := hd n hnl
    have eat : at_ cl n = cl[n] := by
      show cl.getD n [] = _
      rw [List.getD_eq_getElem?_getD, List.getElem?_eq_getElem hnl]
      rfl
    have hcl16 := (hc.ok _ (List.getElem_mem hnl)).2
    have et : (E1.to.take (i + 1)).flatMap (at_ cl) = (E1.to.take i).flatMap (at_ cl) ++ cl[n] := by
      rw [List.take_add_one, hn, List.flatMap_append]
      show _ ++ (at_ cl n ++ []) = _
      rw [List.append_nil, eat]
    rw [et]
    refine ⟨_, rfl, _, rfl, _, rfl, a, _, n, _, rfl, rfl, hs, atI_nat hcv, p, cv, _, _, rfl, rfl, e3, hcd, ?_, fun p5 hp5 => ⟨p5, _, rfl, ?_, ?_, s3.trans (same_new hp5)⟩⟩
    · rw [List.length_map, List.length_map, List.length_append, sizeLine_eq]
      omega
    · rw [upd_same, ← List.map_append, List.append_assoc]
    · rw [List.length_append]
      omega
  · rintro σ H3 ⟨p, x3, rfl, e3, hl3, s3⟩
    rw [List.length_map, List.take_length] at e3 hl3
    have s03 := s1.trans (s2.trans s3)
    have hlo2 : Lo (opsVars E1.ops ++ E1.to.flatMap (at_ cl)) := hoo.app (lo_tos (fun l hl => (hc.ok l hl).1) _)
    refine ⟨_, rfl, p, (opsVars E1.ops ++ E1.to.flatMap (at_ cl)).map iN, rfl, .inl (.inl ?_), ?_, fun p4 ks hp4 hnd hks => ?_⟩
    · rw [ints_nats]
      exact e3
    · rw [List.length_map, List.length_append]
      unfold scanBound
      omega
    refine ⟨p4, _, _, rfl, upd_same, srt_fin hlo2 hnd hks, fun ns p2 hpw hmem hlen hp2 => ?_⟩
    have s02 := s03.trans (same_new (o := SetO w p4 (fun j => decide (j ∈ (opsVars E1.ops ++ E1.to.flatMap (at_ cl)).map iN)) ks.length) hp4)
    have e : ns = (endU E1 cl).map iN := srt_of hlo2 hpw fun k => (hmem k).trans (by rw [decide_eq_true_eq])
    rw [e, ints_nats]
    exact q _ _ (none_same s02 hp2) (s02.trans (same_new hp2)) upd_same
/-! ### _law_used_before -/
set_option pp.maxSteps 600 in
theorem c_law_used_before (T : Txt w K mg) : Cal P w K mg base "_law_used_before" 3 ["_law_row_here", "_law_used"] (spUsedBef K) := by
  obtain ⟨fd, F⟩ := T.d__law_used_before
  have C__law_variables := c_vars (P := P) (w := w) (base := base) T
  have C__law_sets := c_sets (P := P) (w := w) (base := base) T
  refine ⟨⟨fd, F.ok sc__law_used_before (fun vs H Q E h => by repeat (first | (obtain ⟨e, _⟩ := h; subst e; rfl) | (obtain ⟨_, h⟩ := h))) (fun cdv A outer s H vs Q E hr h => ?_), F.bindsN fun _ _ _ _ _ _ us hl => match us, hl with | [_, _], _ => rfl⟩, T.g _ (by decide), F.kp⟩
  obtain ⟨v, a, R, u, rfl, hv, hu, hol, hoo, hlo, hul, q⟩ := h
  refine ⟨_, PSs.nox (pss_one (ps_ret (pe_callB (cr_sortedSet rfl) (by rfl) T.n_sorted (by decide +kernel) (pa_cons (pe_callTy (cr_setLI rfl) (by rfl) T.n_set (by decide +kernel) (pa_cons (pe_op op_cat (pe_lc (own := [("_law_v", 2)]) (by rfl) sc__law_used_before.nd (pi_list (pv 1)) (blkOk_by (own := [("_law_v", 2)]) (N := N__law_used_before) (sc := defScope s__law_used_before) (by decide +kernel)) (fun _ _ _ _ _ => (pg_name (i := 2) sc__law_used_before.nd rfl (.inl rfl))) (fun _ _ _ _ _ => pts_one (pt_cmpR op_ne (pv 2) (pe_cal C__law_sets (hr.mono (by omega)) (by rfl) (pa_cons (pv 0) pa_nil)) (nomark _))) (fun _ _ _ _ _ => (pv 2))) (pe_cal C__law_variables (hr.mono (by omega)) (by rfl) (pa_cons (pv 0) pa_nil))) pa_nil)) pa_nil)))), ?_⟩
  obtain ⟨dR, rR, eR, eS⟩ := set_row R
  refine ⟨.ref a, rfl, a, rfl, ⟨_, hu⟩, fun D hD => ?_⟩
  refine lc_list (xs := u.map nV) (fun i H2 => H2 D = some (.lst (((u.take i).filter (ne1 R)).map nV)) ∧ Same H H2) ⟨upd_same, same_new hD⟩ ?_ ?_ ?_
  · rintro i H2 _ ⟨_, s2⟩
    exact Same.seq s2 hu
  · rintro i x H2 hi ⟨h2, s2⟩
    rw [List.getElem?_map] at hi
    obtain ⟨m, hm, rfl⟩ := Option.map_eq_some_iff.mp hi
    have hv2 := dp_mono s2 _ _ hv
    rw [Rw.D, eR] at hv2
    refine ⟨rfl, _, rfl, v, rfl, v, R.word, dR, rR, rfl, hv2, fun z3 H3 s3 h3 => ?_⟩
    rw [eS] at h3
    have e3 := dp_ov h3
    subst e3
    refine ⟨(by cases R.set <;> rfl), _, rfl, ?_⟩
    rw [ne_set, filter_snoc hm]
    have h23 := s3 _ _ h2
    have s23 := s2.trans s3
    cases ne1 R m with
    | false =>
      refine iteF ⟨?_, s23⟩
      rw [if_neg Bool.false_ne_true, List.append_nil]
      exact h23
    | true =>
      refine iteT ⟨_, rfl, _, h23, ?_, ?_, fun b' o' e' => ?_⟩
      · rw [List.length_map]
        have := List.length_filter_le (ne1 R) (u.take i)
        rw [List.length_take] at this
        exact small_line (by omega)
      · rw [upd_same, if_pos rfl, List.map_append]
        rfl
      · rw [upd_ne (ne_of_none e' hD)]
        exact s23 _ _ e'
  rintro H2 ⟨h2, s2⟩
  rw [List.length_map, List.take_length] at h2
  have hfl := List.length_filter_le (ne1 R) u
  have hlf := lo_filter hlo (ne1 R)
  have hof := ops_fm R.ops
  refine ⟨v, rfl, v, .r R, rfl, dp_mono s2 _ _ hv, (by show (R.ops.map some).length ≤ 1000; rw [List.length_map]; omega), fun l3 H3 hl3 s3 h3 => ?_⟩
  have h3 : H3 l3 = some (.lst ((opsVars R.ops).map nV)) := h3
  refine ⟨D, l3, _, _, rfl, rfl, s3 _ _ h2, h3, ?_, fun p6 hp6 => ?_⟩
  · rw [List.length_map, List.length_map, sizeLine_eq]
    omega
  have s6 := same_new (o := .lst (((u.filter (ne1 R)).map nV) ++ ((opsVars R.ops).map nV))) hp6
  have hlo2 : Lo (u.filter (ne1 R) ++ opsVars R.ops) := hlf.app hoo
  refine ⟨p6, (u.filter (ne1 R) ++ opsVars R.ops).map iN, rfl, .inl (.inl ?_), ?_, fun p ks hp hnd hks => ?_⟩
  · rw [upd_same, ints_nats, List.map_append]
  · rw [List.length_map, List.length_append]
    unfold scanBound
    omega
  refine ⟨p, _, _, rfl, upd_same, srt_fin hlo2 hnd hks, fun ns p2 hpw hmem hlen hp2 => ?_⟩
  have s02 := s2.trans (s3.trans (s6.trans (same_new (o := SetO w p (fun j => decide (j ∈ (u.filter (ne1 R) ++ opsVars R.ops).map iN)) ks.length) hp)))
  have e : ns = (bef R u).map iN := srt_of hlo2 hpw fun k => (hmem k).trans (by rw [decide_eq_true_eq])
  rw [e, ints_nats]
  exact q _ _ (none_same s02 hp2) (s02.trans (same_new hp2)) upd_same
end
end K51

set_option maxHeartbeats 4000000
/-! HZip: zip of a tuple and a list: what an iterator gives is told by Src; one proof for any two of them. -/
namespace HZ2
open PySem PySem.Spec PyProof.Rows L2
/-- an iterator at j over the items us that stand at m -/
structure Src (j m : Addr) (us : Array Value) (I : Nat → Heap → Prop) (M : Heap → Prop) : Prop where
  ki : ∀ {n : Nat} {f g : Heap}, I n f → (∀ ob, f.get? j = some ob → g.get? j = some ob) → I n g
  km : ∀ {f g : Heap}, M f → (∀ ob, f.get? m = some ob → g.get? m = some ob) → M g
  th : ∀ {n : Nat} {f : Heap}, I n f → ∃ ob, f.get? j = some ob ∧ ∀ v, ob.data ≠ .seq v 0
  step : ∀ {p : Program} {w : World} {A : Around} {E : Value → Shared → Prop} {t : Shared} {n : Nat} {u : Value} {Q : Value → Shared → Prop}, I n t.heap → M t.heap → us[n]? = some u →
    (∀ g, I (n + 1) g → Heap.SameBut j t.heap g → Q u { t with heap := g }) → wpAny (model p w) A (Builtin.SmallTypes.nextOf (.ref j)) Q E t
  halt : ∀ {p : Program} {w : World} {A : Around} {E : Value → Shared → Prop} {t : Shared} {n : Nat} {Q : Value → Shared → Prop}, A.handled = none → I n t.heap → M t.heap → us[n]? = none →
    (∀ g e, Heap.ExtBut j t.heap g → (∃ ob, g.get? e = some ob ∧ ob.cls = .type "StopIteration") → E (.ref e) { t with heap := g }) → wpAny (model p w) A (Builtin.SmallTypes.nextOf (.ref j)) Q E t
theorem src_tup (j m : Addr) (us : Array Value) : Src j m us (fun n f => f.IsTupleIter j m n) (fun f => f.IsTuple m us) where
  ki := fun a b => a.at b
  km := fun ⟨ob, e, r⟩ b => ⟨ob, b _ e, r⟩
  th := fun ⟨ob, e, _, d⟩ => ⟨ob, e, fun v z => by rw [d] at z; cases z⟩
  step := fun a b c d => RZ.nextOf_tuple_item a b c d
  halt := fun a b c d e => RZ.nextOf_tuple_end a b c d e
theorem src_lst (j m : Addr) (us : Array Value) : Src j m us (fun n f => f.IsListIter j m n) (fun f => f.IsList m us) where
  ki := fun a b => a.at b
  km := fun ⟨ob, e, r⟩ b => ⟨ob, b _ e, r⟩
  th := fun ⟨ob, e, _, d⟩ => ⟨ob, e, fun v z => by rw [d] at z; cases z⟩
  step := fun a b c d => wpAny_nextOf_list_item a b c d
  halt := fun a b c d e => wpAny_nextOf_list_end a b c d e
section
variable {p : Program} {w : World} {A : Around} {E : Value → Shared → Prop} {t : Shared} {z q1 q2 j1 j2 m1 m2 : Addr} {us vs : Array Value} {I1 I2 : Nat → Heap → Prop} {M1 M2 : Heap → Prop} {n1 n2 : Nat} {c0 c1 : Value}
/-- what stands where while it runs -/
structure Zs (z q1 q2 j1 j2 : Addr) (I1 I2 : Nat → Heap → Prop) (M1 M2 : Heap → Prop) (n1 n2 : Nat) (c0 c1 fz : Value) (h : Heap) : Prop where
  z : IsZip h z q1 q2 fz
  a : IsPair h q1 (.ref j1) (.ref j2)
  b : IsPair h q2 c0 c1
  i1 : I1 n1 h
  i2 : I2 n2 h
  m1 : M1 h
  m2 : M2 h
theorem into (S1 : Src j1 m1 us I1 M1) (S2 : Src j2 m2 vs I2 M2) (D : ZipApart z q1 q2 j1 j2 m1 m2) {Q : Fin → Shared → Prop} (B : Zs z q1 q2 j1 j2 I1 I2 M1 M2 n1 n2 c0 c1 .none t.heap)
    (full : ∀ u v, us[n1]? = some u → vs[n2]? = some v → ∀ g, IsZip g z q1 q2 (rawInt t.heap.objs.size) → IsPair g q2 u v → I1 (n1 + 1) g → I2 (n2 + 1) g → IsPair g t.heap.objs.size u v → g.objs.size = t.heap.objs.size + 1 →
      (∀ b ob, b ≠ z → b ≠ q2 → b ≠ j1 → b ≠ j2 → t.heap.get? b = some ob → g.get? b = some ob) → Q (.done (.ret (.ref t.heap.objs.size))) { t with heap := g })
    (hh : us[n1]? = none ∨ vs[n2]? = none → A.handled = none)
    (out : us[n1]? = none ∨ vs[n2]? = none → ∀ g e, (∀ b ob, b ≠ z → b ≠ q2 → b ≠ j1 → b ≠ j2 → t.heap.get? b = some ob → g.get? b = some ob) → (∃ ob, g.get? e = some ob ∧ ob.cls = .type "StopIteration") → E (.ref e) { t with heap := g }) :
    wpAny (model p w) A (Builtin.«zip.__next__» ⟨[.ref z], []⟩) Q E t := by
  obtain ⟨B1, B2, B3, B4, B5, B6, B7⟩ := B
  show wpAny _ _ (field (Value.ref z) 2 >>= _) _ _ t
  refine wpAny_bind (wpAny_field B1 rfl (x := Value.bool false) rfl ?_)
  show wpAny _ _ (field (Value.ref z) 3 >>= _) _ _ t
  refine wpAny_bind (wpAny_field B1 rfl (x := Value.ref q1) rfl (wpAny_bind (wpAny_seqItems B2 rfl ?_)))
  show wpAny _ _ (Builtin.SmallTypes.ownedTupleIsFree (Value.ref z) >>= _) _ _ t
  refine wpAny_bind ?_
  unfold Builtin.SmallTypes.ownedTupleIsFree
  refine wpAny_bind (wpAny_field B1 rfl (x := Value.none) rfl (wpAny_pure ?_))
  simp only [if_true]
  refine wpAny_bind (wpAny_rule (wpAny_bind (wpAny_field B1 rfl (x := Value.ref q2) rfl (wpAny_bind (wpAny_setField_rec B1 (by simp) fun ga Z1 S => ?_)))))
  replace Z1 : IsZip ga z q1 q2 .ellipsis := Z1
  have X1 := S.extBut
  refine wpAny_bind ?_
  simp only [List.zipIdx_cons, List.zipIdx_nil, List.forIn_cons, List.forIn_nil]
  refine wpAny_bind (wpAny_bind (wpAny_onRaise ?_))
  show wpAny _ _ (Builtin.SmallTypes.nextOf (Value.ref j1) >>= _) _ _ _
  have C4 : I1 n1 ga := S1.ki B4 fun ob e => X1 _ _ D.i1z e
  have C6 : M1 ga := S1.km B6 fun ob e => X1 _ _ D.l1z e
  cases hu : us[n1]? with
  | none =>
    refine wpAny_bind (S1.halt (t := { t with heap := ga }) (hh (.inl hu)) C4 C6 hu fun gb e X2 ⟨ob, he, hc⟩ => ?_)
    have Z2 : IsZip gb z q1 q2 .ellipsis := X2 _ _ D.i1z.symm Z1
    have nez : e ≠ z := fun y => by
      subst y
      rw [Z2] at he
      cases he
      simp at hc
    exact wpAny_setField_rec Z2 (by simp) fun gc _ S3 => out (.inl hu) gc e (fun b ob b1 _ b3 _ y => S3.extBut _ _ b1 (X2 _ _ b3 (X1 _ _ b1 y))) ⟨ob, S3.extBut _ _ nez he, hc⟩
  | some u =>
    refine wpAny_bind (S1.step (t := { t with heap := ga }) C4 C6 hu fun gb C41 SB2 => wpAny_pure ?_)
    have X2 := SB2.extBut
    have T2 : IsPair gb q2 c0 c1 := X2 _ _ D.TOi1 (X1 _ _ D.TOz B3)
    refine wpAny_bind (wpAny_seqItems T2 rfl (wpAny_bind (wpAny_updateSeq_pair T2 fun gc T3 SB3 => ?_)))
    replace T3 : IsPair gc q2 u c1 := T3
    have X3 := SB3.extBut
    refine wpAny_bind (wpAny_letGo (wpAny_pure (wpAny_bind (wpAny_bind (wpAny_onRaise ?_)))))
    show wpAny _ _ (Builtin.SmallTypes.nextOf (Value.ref j2) >>= _) _ _ _
    have C5 : I2 n2 gc := S2.ki B5 fun ob e => X3 _ _ D.TOi2.symm (X2 _ _ D.i12.symm (X1 _ _ D.i2z e))
    have C7 : M2 gc := S2.km B7 fun ob e => X3 _ _ D.l2TO (X2 _ _ D.l2i1 (X1 _ _ D.l2z e))
    cases hv : vs[n2]? with
    | none =>
      refine wpAny_bind (S2.halt (t := { t with heap := gc }) (hh (.inr hv)) C5 C7 hv fun gd e X4 ⟨ob, he, hc⟩ => ?_)
      have Z4 : IsZip gd z q1 q2 .ellipsis := X4 _ _ D.i2z.symm (X3 _ _ D.TOz.symm (X2 _ _ D.i1z.symm Z1))
      have nez : e ≠ z := fun y => by
        subst y
        rw [Z4] at he
        cases he
        simp at hc
      exact wpAny_setField_rec Z4 (by simp) fun gf _ S5 => out (.inr hv) gf e (fun b ob b1 b2 b3 b4 y => S5.extBut _ _ b1 (X4 _ _ b4 (X3 _ _ b2 (X2 _ _ b3 (X1 _ _ b1 y))))) ⟨ob, S5.extBut _ _ nez he, hc⟩
    | some v =>
      refine wpAny_bind (S2.step (t := { t with heap := gc }) C5 C7 hv fun gd C51 SB4 => wpAny_pure ?_)
      have X4 := SB4.extBut
      have T4 : IsPair gd q2 u c1 := X4 _ _ D.TOi2 T3
      refine wpAny_bind (wpAny_seqItems T4 rfl (wpAny_bind (wpAny_updateSeq_pair T4 fun gf T5 SB5 => ?_)))
      replace T5 : IsPair gf q2 u v := T5
      have X5 := SB5.extBut
      refine wpAny_bind (wpAny_letGo (wpAny_pure (wpAny_pure ?_)))
      refine wpAny_bind (wpAny_seqItems T5 rfl (wpAny_bind (wpAny_newTuple ?_)))
      have sz : gf.objs.size = t.heap.objs.size := by rw [SB5.1, SB4.1, SB3.1, SB2.1, S.1]
      have Z5 : IsZip gf z q1 q2 .ellipsis := X5 _ _ D.TOz.symm (X4 _ _ D.i2z.symm (X3 _ _ D.TOz.symm (X2 _ _ D.i1z.symm Z1)))
      have all5 : ∀ b ob, b ≠ z → b ≠ q2 → b ≠ j1 → b ≠ j2 → t.heap.get? b = some ob → gf.get? b = some ob := fun b ob b1 b2 b3 b4 y =>
        X5 _ _ b2 (X4 _ _ b4 (X3 _ _ b2 (X2 _ _ b3 (X1 _ _ b1 y))))
      have D4 : I1 (n1 + 1) gf := S1.ki C41 fun ob e => X5 _ _ D.TOi1.symm (X4 _ _ D.i12 (X3 _ _ D.TOi1.symm e))
      have D5 : I2 (n2 + 1) gf := S2.ki C51 fun ob e => X5 _ _ D.TOi2.symm e
      have zl : z < gf.objs.size := Heap.lt_size Z5
      show wpAny _ _ (Builtin.SmallTypes.ownedTupleHandOut (Value.ref z) (Value.ref gf.objs.size) >>= _) _ _ _
      refine wpAny_bind ?_
      unfold Builtin.SmallTypes.ownedTupleHandOut
      have Z6 : IsZip (gf.push { cls := .type "tuple", data := .seq #[u, v] }) z q1 q2 .ellipsis := Heap.get?_push_of_some _ Z5
      refine wpAny_bind (wpAny_setField_rec Z6 (by simp) fun gg Z7 SB7 => ?_)
      replace Z7 : IsZip gg z q1 q2 (rawInt gf.objs.size) := Z7
      refine wpAny_setField_rec Z7 (by simp) fun gk Z8 SB8 => ?_
      replace Z8 : IsZip gk z q1 q2 (rawInt gf.objs.size) := Z8
      have up : ∀ b ob, b ≠ z → gf.get? b = some ob → gk.get? b = some ob := fun b ob b1 y => SB8.extBut _ _ b1 (SB7.extBut _ _ b1 (Heap.get?_push_of_some _ y))
      have T8 : IsPair gk gf.objs.size u v := SB8.extBut _ _ (Nat.ne_of_gt zl) (SB7.extBut _ _ (Nat.ne_of_gt zl) (Heap.get?_push_size _ rfl))
      have sz8 : gk.objs.size = gf.objs.size + 1 := by rw [SB8.1, SB7.1, Heap.size_push]
      rw [sz] at Z8 T8 sz8
      refine wpAny_pure ?_
      show Q (.done (.ret (.ref gf.objs.size))) _
      rw [sz]
      exact full u v hu hv gk Z8 (up _ _ D.TOz T5) (S1.ki D4 fun ob e => up _ _ D.i1z e) (S2.ki D5 fun ob e => up _ _ D.i2z e) T8 sz8 fun b ob b1 b2 b3 b4 y => up b ob b1 (all5 b ob b1 b2 b3 b4 y)
end
/-! ### tuple and list -/
def ItzM (K : PySem.W.Frag) (a b : Addr) : It :=
  ⟨fun i H => ∃ (xs ys : List V) (x y : V), SqT K H a xs ∧ SqL K H b ys ∧ xs[i]? = some x ∧ ys[i]? = some y,
    fun i H v H' => ∃ T x y, v = .ref T ∧ H T = none ∧ H' = upd H T (.tup [x, y]) ∧ (∀ xs, SqT K H a xs → xs[i]? = some x) ∧ ∀ ys, SqL K H b ys → ys[i]? = some y,
    fun i H => ∃ xs ys : List V, SqT K H a xs ∧ SqL K H b ys ∧ (xs.length ≤ i ∨ ys.length ≤ i)⟩
theorem five {c z q1 q2 j1 j2 : Addr} {Pr : Addr → Prop} (h : c ∈ [z, q1, q2, j1, j2]) (p1 : Pr z) (p2 : Pr q1) (p3 : Pr q2) (p4 : Pr j1) (p5 : Pr j2) : Pr c := by
  simp only [List.mem_cons, List.not_mem_nil, or_false] at h
  rcases h with rfl | rfl | rfl | rfl | rfl <;> assumption
theorem turnM {P : Program} {w : World} {K : PySem.W.Frag} {elts : List Expr} {kk : Nat} {tpos : Pos} {a b z q1 q2 j1 j2 : Addr} (D : ZipApart z q1 q2 j1 j2 a b) :
    Turn P w K (.Tuple elts kk tpos) (ItzM K a b) [z, q1, q2, j1, j2] z (fun n h => IsZip h z q1 q2 .none ∧ IsPair h q1 (.ref j1) (.ref j2) ∧ (∃ x y, IsPair h q2 x y) ∧ h.IsTupleIter j1 a n ∧ h.IsListIter j2 b n) where
  mem := List.mem_cons_self
  obj := fun n h ⟨e1, e2, ⟨x, y, e3⟩, ⟨o4, e4, _, d4⟩, ⟨o5, e5, _, d5⟩⟩ c hc => five (Pr := fun c => ∃ o, h.get? c = some o ∧ ∀ v, o.data ≠ .cell v) hc ⟨_, e1, fun v q => nomatch q⟩ ⟨_, e2, fun v q => nomatch q⟩ ⟨_, e3, fun v q => nomatch q⟩ ⟨o4, e4, fun v q => by rw [d4] at q; cases q⟩ ⟨o5, e5, fun v q => by rw [d5] at q; cases q⟩
  keep := fun n h h' ⟨e1, e2, ⟨x, y, e3⟩, e4, e5⟩ k => ⟨k z (by simp) _ e1, k q1 (by simp) _ e2, ⟨x, y, k q2 (by simp) _ e3⟩, e4.at fun o q => k j1 (by simp) o q, e5.at fun o q => k j2 (by simp) o q⟩
  item := by
    intro X eP ew eK hcalm n pins s σ H E I ff ⟨e1, e2, ⟨x0, y0, e3⟩, e4, e5⟩ ⟨xs, ys, x, y, sx, sy, hx, hy⟩
    subst eP ew eK
    obtain ⟨us, rus, pt, _⟩ := I.tuple sx
    obtain ⟨vs, rvs, pl, _⟩ := I.list sy
    obtain ⟨u, hu, ru⟩ := rus.get hx
    obtain ⟨v, hv, rv⟩ := rvs.get hy
    have hu : us.toArray[n]? = some u := by simpa using hu
    have hv : vs.toArray[n]? = some v := by simpa using hv
    have zl : z < s.heap.objs.size := Heap.lt_size e1
    have hT : s.TypeIs (.ref z) "zip" := ⟨_, e1, rfl⟩
    unfold pyNext
    refine wpAny_bind (wpAny_attempt (wpAny_callSpecial?_slot (name := Str.ofString "__next__") hT F.slot_zip_next (wpAny_call_entry F.slot_zip_next hT F.entry_zip_next ?_ (F.args_zip_next_1 _))))
    refine into (src_tup j1 a us.toArray) (src_lst j2 b vs.toArray) D ⟨e1, e2, e3, e4, e5, pt, pl.isList⟩ (fun u' v' hu' hv' g Z T' P1 P2 T sz k => ?_) (fun h => ?_) (fun h => ?_)
    · have : u' = u := Option.some.inj (hu'.symm.trans hu)
      subst this
      have : v' = v := Option.some.inj (hv'.symm.trans hv)
      subst this
      refine ⟨_, rfl, wpAny_pure ⟨_, rfl, wpAny_letOwnedTupleGo_zip (s := { s with heap := g }) Z fun g2 Z2 S => ?_⟩⟩
      have T2 : g2.get? s.heap.objs.size = some { cls := .type "tuple", data := .seq #[u', v'] } := (S.2 _ (Nat.ne_of_gt zl)).trans T
      have new : ObjOk X.prog X.w (upd H s.heap.objs.size (.tup [x, y])) g2 s.heap.objs.size (.tup [x, y]) :=
        ⟨by show 2 ≤ sizeLine; decide, [u', v'], .cons ru (.cons rv .nil), ⟨_, T2, rfl, _, rfl⟩⟩
      have In : Inv X pins σ (upd H s.heap.objs.size (.tup [x, y])) { s with heap := g2 } :=
        I.turnedNew (t' := s.toks) (ch := [z, q1, q2, j1, j2]) (fun c o nb q => (S.2 c (fun e => nb (by rw [e]; exact List.mem_cons_self))).trans
          (k c o (fun e => nb (by simp [e])) (fun e => nb (by simp [e])) (fun e => nb (by simp [e])) (fun e => nb (by simp [e])) q)) ff (Nat.le_refl _) new
      refine ⟨.ref s.heap.objs.size, _, In, rfl, ⟨_, x, y, rfl, I.hok.fresh (Nat.le_refl _), rfl, fun l hl => by rw [I.tuple_inj hl sx]; exact hx, fun l hl => by rw [I.list_inj hl sy]; exact hy⟩, ⟨Z2, (S.2 _ D.TIz).trans (k _ _ D.TIz D.TITO D.TIi1 D.TIi2 e2), ⟨u', v', (S.2 _ D.TOz).trans T'⟩, P1.at fun o q => (S.2 _ D.i1z).trans q, P2.at fun o q => (S.2 _ D.i2z).trans q⟩, fun c hc => ?_⟩
      have cl : c < s.heap.objs.size := by
        obtain ⟨_, g4, _⟩ := e4
        obtain ⟨_, g5, _⟩ := e5
        exact five (Pr := fun c => c < s.heap.objs.size) hc zl (Heap.lt_size e2) (Heap.lt_size e3) (Heap.lt_size g4) (Heap.lt_size g5)
      rw [upd_ne (Nat.ne_of_lt cl)]
      exact (ff c hc).1
    · rw [hu, hv] at h
      rcases h with h | h <;> cases h
    · rw [hu, hv] at h
      rcases h with h | h <;> cases h
  done := by
    intro X eP ew eK hcalm n pins s σ H E I ff ⟨e1, e2, ⟨x0, y0, e3⟩, e4, e5⟩ ⟨xs, ys, sx, sy, he⟩
    subst eP ew eK
    obtain ⟨us, rus, pt, _⟩ := I.tuple sx
    obtain ⟨vs, rvs, pl, _⟩ := I.list sy
    have l1 := rus.length
    have l2 := rvs.length
    have no : us.toArray[n]? = none ∨ vs.toArray[n]? = none := he.elim (fun q => .inl (by simp; omega)) fun q => .inr (by simp; omega)
    have hT : s.TypeIs (.ref z) "zip" := ⟨_, e1, rfl⟩
    unfold pyNext
    refine wpAny_bind (wpAny_attempt (wpAny_callSpecial?_slot (name := Str.ofString "__next__") hT F.slot_zip_next (wpAny_call_entry F.slot_zip_next hT F.entry_zip_next ?_ (F.args_zip_next_1 _))))
    refine into (src_tup j1 a us.toArray) (src_lst j2 b vs.toArray) D ⟨e1, e2, e3, e4, e5, pt, pl.isList⟩ (fun u' v' hu' hv' => ?_) (fun _ => I.ok.hd hcalm) (fun _ g e k ⟨o, ho, ho2⟩ => ?_)
    · rw [hu', hv'] at no
      rcases no with q | q <;> cases q
    · refine wpAny_bind (wpAny_isInstance (T := "StopIteration") (b := true) ⟨o, ho, ho2⟩ isSubtype_stop (wpAny_pure ⟨rfl, ?_⟩))
      exact I.turnedL (t' := s.toks) (ch := [z, q1, q2, j1, j2]) (fun c o nb q => k c o (fun e => nb (by simp [e])) (fun e => nb (by simp [e])) (fun e => nb (by simp [e])) (fun e => nb (by simp [e])) q) ff
  self := fun A i s Q E st h => wpAny_pyIter_zip st.1 h
abbrev zm1 (h : Heap) (a : Addr) : Heap := h.push { cls := .type "tuple_iterator", data := .fields #[.ref a, .int 0 0] }
abbrev zm2 (h : Heap) (a b : Addr) : Heap := (zm1 h a).push { cls := .type "list_iterator", data := .fields #[.ref b, .int 0 0] }
abbrev zm3 (h : Heap) (a b : Addr) : Heap := (zm2 h a b).push { cls := .type "tuple", data := .seq #[.ref h.objs.size, .ref (zm1 h a).objs.size] }
abbrev zm4 (h : Heap) (a b : Addr) : Heap := (zm3 h a b).push { cls := .type "tuple", data := .seq #[.none, .none] }
abbrev zm5 (h : Heap) (a b : Addr) : Heap := (zm4 h a b).push { cls := .type "zip", data := .fields #[.none, .bool false, .bool false, .ref (zm2 h a b).objs.size, .ref (zm3 h a b).objs.size] }
theorem newM (a b : Addr) (us vs : Array Value) : Meets (Builtin.«zip.__new__» ⟨[.type "zip", .ref a, .ref b], []⟩) (fun _ R s => s.heap.IsTuple a us ∧ s.heap.IsList b vs ∧ R (.ok (.ret (.ref (zm4 s.heap a b).objs.size))) { s with heap := zm5 s.heap a b }) :=
  .of_wp fun prog w A R s h => by
    obtain ⟨hp, gs, d, tk, os⟩ := s
    obtain ⟨ha, hb, q⟩ := h
    have sz := sub_zip
    have ia : Heap.IsTuple (Shared.heap ⟨hp, gs, d, tk, os⟩) a us := ha
    have ib : Heap.IsList (Shared.heap ⟨hp.push { cls := .type "tuple_iterator", data := .fields #[.ref a, .int 0 0] }, gs, d, tk, os⟩) b vs := Heap.IsList.push hb _
    wp_walk using wpAny_pyIter_tuple ia, wpAny_pyIter_list ib
    exact ⟨_, rfl, q⟩
def iZipM (K : PySem.W.Frag) (ta : TA) : TI := fun σ H R => ta σ H fun vs H1 => ∃ a b xs ys, vs = [.ref a, .ref b] ∧ SqT K H1 a xs ∧ SqL K H1 b ys ∧ R (ItzM K a b) H1
theorem pi_zipM {X : Cx} {e e2 : Expr} {ta : TA} {p pos tpos : Pos} {elts : List Expr} {kk : Nat} (hg : Gl X "zip") (hm : X.mg "zip" = none) (ha : PA X [e, e2] ta)
    (h1 : starEach [e, e2] X.env = (false, eval e X.env) :: starEach [e2] X.env := by rfl) (h2 : (backTo pos (starEach [e2] X.env)).any (·.1) = false := by rfl) :
    PI X (.Tuple elts kk tpos) (.Call (.Name "zip" p) [e, e2] [] pos) (iZipM X.K ta) := by
  refine ⟨fun pins s σ H R I h => Call_ (ld_blt I hg hm PyProof.Rows.boot_zip (PyProof.Rows.callWith_type1 (thn (ha.run pos pins s σ H _ I h) fun args t ⟨vs, H1, J, r, a, b, xs, ys, ex, sx, sy, q⟩ => ?_) h1 h2))⟩
  subst ex
  cases r with
  | cons ra r =>
    cases r with
    | cons rb r =>
      cases r
      cases ra
      cases rb
      obtain ⟨us, rus, pt, _⟩ := J.tuple sx
      obtain ⟨vs, rvs, pl, _⟩ := J.list sy
      obtain ⟨o1, ho1, _⟩ := id pt
      have low : ∀ c, c ∈ [t.heap.objs.size + 4, t.heap.objs.size + 2, t.heap.objs.size + 3, t.heap.objs.size, t.heap.objs.size + 1] → FpOk X pins H1 c := fun c hc => by
        have hle : t.heap.objs.size ≤ c := five (Pr := fun c => t.heap.objs.size ≤ c) hc (by omega) (by omega) (by omega) (by omega) (by omega)
        exact J.fpOk hle (J.hok.fresh hle)
      refine callType_new F.called_zip (by decide) (F.typeCall_zip_2 _ _) (F.newCall_zip_2 _ _) (fun ob => F.args_object_init_3 ob _ _) F.entry_zip_new (newM a b us.toArray vs.toArray) ⟨pt, pl.isList, ?_⟩
      have y1 : (zm1 t.heap a).objs.size = t.heap.objs.size + 1 := Heap.size_push ..
      have y2 : (zm2 t.heap a b).objs.size = t.heap.objs.size + 2 := by rw [Heap.size_push, y1]
      have y3 : (zm3 t.heap a b).objs.size = t.heap.objs.size + 3 := by rw [Heap.size_push, y2]
      have y4 : (zm4 t.heap a b).objs.size = t.heap.objs.size + 4 := by rw [Heap.size_push, y3]
      have k5 : (zm5 t.heap a b).get? (zm4 t.heap a b).objs.size = some _ := Heap.get?_push_size _ rfl
      have k4 : (zm5 t.heap a b).get? (zm3 t.heap a b).objs.size = some _ := Heap.get?_push_of_some _ (Heap.get?_push_size _ rfl)
      have k3 : (zm5 t.heap a b).get? (zm2 t.heap a b).objs.size = some _ := Heap.get?_push_of_some _ (Heap.get?_push_of_some _ (Heap.get?_push_size _ rfl))
      have k2 : (zm5 t.heap a b).get? (zm1 t.heap a).objs.size = some _ := Heap.get?_push_of_some _ (Heap.get?_push_of_some _ (Heap.get?_push_of_some _ (Heap.get?_push_size _ rfl)))
      have k1 : (zm5 t.heap a b).get? t.heap.objs.size = some _ := Heap.get?_push_of_some _ (Heap.get?_push_of_some _ (Heap.get?_push_of_some _ (Heap.get?_push_of_some _ (Heap.get?_push_size _ rfl))))
      show _ ∧ _
      rw [y2, y3, y4] at k5
      rw [y1, y2] at k3
      rw [y3] at k4
      rw [y1] at k2
      rw [y4]
      refine ⟨⟨_, k5, rfl⟩, wpAny_pyIter_zip k5 ?_⟩
      have J2 : Inv X pins σ H1 { t with heap := zm5 t.heap a b } := J.kept (t' := t.toks) fun c o x =>
        Heap.get?_push_of_some _ (Heap.get?_push_of_some _ (Heap.get?_push_of_some _ (Heap.get?_push_of_some _ (Heap.get?_push_of_some _ x))))
      exact ⟨t.heap.objs.size + 4, [t.heap.objs.size + 4, t.heap.objs.size + 2, t.heap.objs.size + 3, t.heap.objs.size, t.heap.objs.size + 1], _, _, H1, rfl, J2, turnM (PySem.W.ktu_apart t.heap.objs.size a b (Heap.lt_size ho1) pl.lt), ⟨k5, k3, ⟨_, _, k4⟩, ⟨_, k1, rfl, rfl⟩, ⟨_, k2, rfl, rfl⟩⟩, low, q⟩
theorem walk_zipM {K : PySem.W.Frag} {a b : Addr} {xs ys : List V} {n : Nat} (hn : n = min xs.length ys.length) : Walk (ItzM K a b) n (fun H => SqT K H a xs ∧ SqL K H b ys) (YPair (fun i => xs[i]?) (fun i => ys[i]?)) := by
  subst hn
  refine ⟨fun i H hi q => ?_, fun H q => ⟨xs, ys, q.1, q.2, by omega⟩, fun i H v H' hi q y => ?_⟩
  · obtain ⟨h1, h2⟩ : i < xs.length ∧ i < ys.length := by omega
    exact ⟨xs, ys, xs[i], ys[i], q.1, q.2, List.getElem?_eq_getElem h1, List.getElem?_eq_getElem h2⟩
  · obtain ⟨T, x, y', e1, e2, e3, e4, e5⟩ := y
    exact ⟨T, x, y', e1, e2, e3, e4 xs q.1, e5 ys q.2⟩
end HZ2

set_option maxHeartbeats 4000000
/-! HL: ints and bools alike: x + i, x - i, int(x), str(x). -/
namespace HG
open PySem PySem.Spec PyProof.Rows L2
def b2I (b : Bool) : Int := if b = true then 1 else 0
section
variable {X : Cx}
def rB (g : Int → Int → V) : R2 := fun x y H Q => ∃ b j, x = .bl b ∧ y = .int j ∧ Q (g (b2I b) j) H
theorem op_addBI : OpR X (binaryOp .Add) (rB fun i j => .int (i + j)) := by
  intro pins s σ H x y v u Q I rx ry h
  obtain ⟨b, j, rfl, rfl, q⟩ := h
  obtain rfl : v = .bool b := rx
  obtain ⟨t, rfl⟩ := ry
  exact PySem.IntBool.add_bool_int ⟨.int _, H, I.tok _, ⟨_, rfl⟩, q⟩
theorem op_subBI : OpR X (binaryOp .Sub) (rB fun i j => .int (i - j)) := by
  intro pins s σ H x y v u Q I rx ry h
  obtain ⟨b, j, rfl, rfl, q⟩ := h
  obtain rfl : v = .bool b := rx
  obtain ⟨t, rfl⟩ := ry
  exact PySem.IntBool.sub_bool_int ⟨.int _, H, I.tok _, ⟨_, rfl⟩, q⟩
theorem op_addIB : OpR X (binaryOp .Add) (fun x y H Q => (rI0 fun i j => .int (i + j)) x y H Q ∨ (rB fun i j => .int (i + j)) x y H Q) := op_add.or op_addBI
theorem op_subIB : OpR X (binaryOp .Sub) (fun x y H Q => (rI0 fun i j => .int (i - j)) x y H Q ∨ (rB fun i j => .int (i - j)) x y H Q) := op_sub.or op_subBI
def rIntIB : List V → Hp → VK → Prop := fun xs H Q => (∃ i, xs = [.int i] ∧ Q (.int i) H) ∨ ∃ b, xs = [.bl b] ∧ Q (.int (b2I b)) H
theorem call_intIB : CallR X (.type "int") rIntIB := by
  intro pins s σ H xs us Q I r h
  rcases h with ⟨i, rfl, q⟩ | ⟨b, rfl, q⟩
  · obtain ⟨u, rfl, t, rfl⟩ := vals1 r
    exact PySem.call_int_int ⟨.int _, H, I, ⟨_, rfl⟩, q⟩
  · obtain ⟨u, rfl, r1⟩ := vals1 r
    obtain rfl : u = .bool b := r1
    exact PySem.call_int_bool ⟨.int _, H, I.tok _, ⟨_, rfl⟩, q⟩
def bText (b : Bool) : Str := if b then "True" else "False"
def rStrIB : List V → Hp → VK → Prop := fun xs H Q => (∃ i, xs = [.int i] ∧ i.natAbs.log2 < 1920 ∧ Q (.str (toString i)) H) ∨ ∃ b, xs = [.bl b] ∧ Q (.str (bText b)) H
theorem call_strIB : CallR X (.type "str") rStrIB := by
  intro pins s σ H xs us Q I r h
  rcases h with h | ⟨b, rfl, q⟩
  · exact call_str_int pins s σ H xs us Q I r h
  · obtain ⟨u, rfl, r1⟩ := vals1 r
    obtain rfl : u = .bool b := r1
    exact PySem.P.str_of_bool ⟨.str _, H, I.tok _, ⟨_, rfl⟩, q⟩
end
end HG

set_option maxHeartbeats 4000000
namespace K51
open PySem PySem.Spec PyProof.Rows L2 HG P52 P51
/-! ### lists of lists, told apart from the list s -/
def LL (H : Hp) (s : Addr) (ys : List V) (cl : List (List Nat)) : Prop := ys.length = cl.length ∧ ∀ n (h : n < cl.length), ∃ b, ys[n]? = some (.ref b) ∧ b ≠ s ∧ H b = some (.lst (cl[n].map nV))
theorem LL.nil (H : Hp) (s : Addr) : LL H s [] [] := ⟨rfl, fun n h => absurd h (Nat.not_lt_zero _)⟩
theorem LL.same {H H' : Hp} {s : Addr} {ys : List V} {cl : List (List Nat)} (h : LL H s ys cl) (e : Same H H') : LL H' s ys cl := ⟨h.1, fun n hn => by
  obtain ⟨b, h1, h2, h3⟩ := h.2 n hn
  exact ⟨b, h1, h2, e _ _ h3⟩⟩
theorem LL.put {H : Hp} {s : Addr} {ys : List V} {cl : List (List Nat)} {o : HO} (h : LL H s ys cl) : LL (upd H s o) s ys cl := ⟨h.1, fun n hn => by
  obtain ⟨b, h1, h2, h3⟩ := h.2 n hn
  exact ⟨b, h1, h2, by rw [upd_ne h2]; exact h3⟩⟩
theorem LL.snoc {H : Hp} {s b : Addr} {ys : List V} {cl : List (List Nat)} {l : List Nat} (h : LL H s ys cl) (hb : b ≠ s) (e : H b = some (.lst (l.map nV))) : LL H s (ys ++ [.ref b]) (cl ++ [l]) := by
  refine ⟨by rw [List.length_append, List.length_append, h.1]; rfl, fun n hn => ?_⟩
  by_cases hl : n < cl.length
  · obtain ⟨c, h1, h2, h3⟩ := h.2 n hl
    exact ⟨c, by rw [List.getElem?_append_left (by rw [h.1]; exact hl)]; exact h1, h2, by rw [List.getElem_append_left hl]; exact h3⟩
  · have hn2 : n = cl.length := by
      rw [List.length_append, List.length_singleton] at hn
      omega
    subst hn2
    refine ⟨b, ?_, hb, ?_⟩
    · rw [← h.1, List.getElem?_append_right (Nat.le_refl _), Nat.sub_self]
      rfl
    · rw [List.getElem_append_right (Nat.le_refl _)]
      simp only [Nat.sub_self, List.getElem_cons_zero]
      exact e
abbrev lsD (l : List Nat) : PyData := .list (l.map nD)
theorem LL.dp {K : PySem.W.Frag} {H : Hp} {s : Addr} : ∀ {ys : List V} {cl : List (List Nat)}, LL H s ys cl → DpAll K H ys (cl.map lsD)
  | [], [], _ => .nil
  | [], _ :: _, h => by cases h.1
  | _ :: _, [], h => by cases h.1
  | y :: ys, l :: cl, h => by
    obtain ⟨b, h1, h2, h3⟩ := h.2 0 (Nat.zero_lt_succ _)
    have ey : y = .ref b := Option.some.inj h1
    subst ey
    refine .cons (.lst (.inl (.inl h3)) (dpAll_map _ fun _ _ => .int _)) (LL.dp (s := s) (cl := cl) ⟨Nat.succ.inj h.1, fun n hn => ?_⟩)
    obtain ⟨c, g1, g2, g3⟩ := h.2 (n + 1) (Nat.succ_lt_succ hn)
    exact ⟨c, g1, g2, g3⟩
theorem LL.cl {K : PySem.W.Frag} {H : Hp} {s : Addr} {ys : List V} {cl : List (List Nat)} (h : LL H s ys cl) (hs : H s = some (.lst ys)) (ok : ∀ l ∈ cl, Lo l ∧ l.length ≤ 16) : ClL K H s cl :=
  ⟨⟨ys, .inl (.inl hs), fun n hn => by
    obtain ⟨b, h1, _, h3⟩ := h.2 n hn
    exact ⟨b, h1, h3⟩⟩, ok⟩
theorem eqvAll_lls : ∀ a b : List (List Nat), PyData.eqvAll (a.map lsD) (b.map lsD) = decide (a = b)
  | [], [] => by simp [PyData.eqvAll]
  | [], _ :: _ => by simp [PyData.eqvAll]
  | _ :: _, [] => by simp [PyData.eqvAll]
  | x :: a, y :: b => by
    have ih := eqvAll_lls a b
    have e1 := eqvAll_nats x y
    rw [List.map_cons, List.map_cons]
    simp only [PyData.eqvAll, ih, PyData.eqv, e1]
    by_cases h : x = y
    · subst h
      simp
    · simp [h]
theorem eqv_lls (a b : List (List Nat)) : PyData.eqv (.list (a.map lsD)) (.list (b.map lsD)) = decide (a = b) := by
  have := eqvAll_lls a b
  simp only [PyData.eqv]
  exact this
theorem lls_lay (cl : List (List Nat)) : PyData.canLayAll0 (cl.map lsD) = true ∧ PyData.depthAll (cl.map lsD) ≤ 2 := by
  induction cl with
  | nil => exact ⟨by simp only [List.map_nil, PyData.canLayAll0], by simp only [List.map_nil, PyData.depthAll]; omega⟩
  | cons l cl ih =>
    have e : l.map nD = (l.map iN).map PyData.int := by rw [List.map_map]; rfl
    have h1 := canLay_ints (l.map iN)
    have h2 := depth_ints (l.map iN)
    rw [← e] at h1 h2
    refine ⟨?_, ?_⟩
    · simp only [List.map_cons, PyData.canLayAll0, PyData.canLay0, h1, ih.1, Bool.and_self]
    · have := ih.2
      simp only [List.map_cons, PyData.depthAll, PyData.depth]
      omega
theorem shaped_lls (cl : List (List Nat)) : SeqAt.shaped (.list (cl.map lsD)) = true := by
  obtain ⟨h1, h2⟩ := lls_lay cl
  have h3 : (PyData.list (cl.map lsD)).depth ≤ 64 := by
    simp only [PyData.depth]
    omega
  unfold SeqAt.shaped
  simp only [PyData.canLay0, h1, Bool.true_and]
  exact decide_eq_true h3
def Wst (g : Gr) (H : Hp) (v : V) (m : Nat) (σ : L2.St) (H4 : Hp) : Prop := ∃ (s : Addr) (cl : List (List Nat)) (ys : List V) (bf : V) (x3 x4 x5 x6 : Option V), σ = [some v, some (.ref s), some bf, x3, x4, x5, x6, none] ∧ H s = none ∧ H4 s = some (.lst ys) ∧ LL H4 s ys cl ∧ Bw g cl ∧ Same H H4 ∧
  ((bf = .non ∧ m = 16 * g.blocks.length + 2) ∨ ∃ b bcl bys, bf = .ref b ∧ H4 b = some (.lst bys) ∧ LL H4 b bys bcl ∧ Bw g bcl ∧ cl = g.blocks.map (begU · bcl) ∧ m = 16 * g.blocks.length + 1 - size bcl)
def spEnds (K : PySem.W.Frag) : Sp := fun vs H Q _ => ∃ (v : V) (N : Nat) (g : Gr), vs = [v] ∧ Dp K H v g.D ∧ GrB N g ∧
  ∀ p H' cl ys, H p = none → Same H H' → Fx g cl → Bw g cl → H' p = some (.lst ys) → LL H' p ys (g.blocks.map fun b => endU b.stop cl) → Q (.ref p) H'
theorem map_take_snoc {α β : Type} (f : α → β) {l : List α} {i : Nat} {x : α} (h : l[i]? = some x) : (l.take (i + 1)).map f = (l.take i).map f ++ [f x] := by
  rw [List.take_add_one, h, List.map_append]
  rfl
section
variable {P : Program} {w : World} {K : PySem.W.Frag} {mg : Str → Option Value} {base : Heap}
set_option pp.maxSteps 600 in
theorem c_used_at_ends (T : Txt w K mg) : Cal P w K mg base "_law_used_at_ends" 5 ["_law_shape"] (spEnds K) := by
  obtain ⟨fd, F⟩ := T.d__law_used_at_ends
  have C__law_used_behind := c_used_behind (P := P) (w := w) (base := base) T
  have C__law_used_before := c_law_used_before (P := P) (w := w) (base := base) T
  refine ⟨⟨fd, F.ok sc__law_used_at_ends (fun vs H Q E h => by repeat (first | (obtain ⟨e, _⟩ := h; subst e; rfl) | (obtain ⟨_, h⟩ := h))) (fun cdv A outer s H vs Q E hr h => ?_), F.bindsN fun _ _ _ _ _ _ us hl => match us, hl with | [_], _ => rfl⟩, T.g _ (by decide), F.kp⟩
  obtain ⟨v, N, g, rfl, hv, hg, q⟩ := h
  have hN := hg.small
  have hmany := hg.many
  refine ⟨_, PSs.nox (pss_cons (ps_set (i := 1) sc__law_used_at_ends.nd rfl (.inr rfl) (pe_lc (own := [("_law_block", 7)]) (by rfl) sc__law_used_at_ends.nd (pi_tup (pe_ix (ix_P (K := K) rfl) (pv 0) pe_int (fun _ _ => rfl))) (blkOk_by (own := [("_law_block", 7)]) (N := N__law_used_at_ends) (sc := defScope s__law_used_at_ends) (by decide +kernel)) (fun _ _ _ _ _ => (pg_name (i := 7) sc__law_used_at_ends.nd rfl (.inl rfl))) (fun _ _ _ _ _ => pts_nil) (fun _ _ _ _ _ => (pe_lst pa_nil))))
      (pss_cons (ps_set (i := 2) sc__law_used_at_ends.nd rfl (.inl rfl) pe_non)
      (pss_cons (ps_while PassesOwn.never (pt_cmpR (op_neDK (K := K) rfl hr.units) (pv 1) (pv 2) (nomark _)) (pss_cons (ps_asg (pe_tup (pa_cons (pv 1) (pa_cons (pe_lst pa_nil) pa_nil))) (pg_tupK (K := K) (n := 2) rfl rfl (pgs_cons (pg_name (i := 2) sc__law_used_at_ends.nd rfl (.inl rfl)) (pgs_cons (pg_name (i := 1) sc__law_used_at_ends.nd rfl (.inr rfl)) pgs_nil))))
      (pss_one (ps_for PassesOwn.never rfl (pi_tup (pe_ix (ix_P (K := K) rfl) (pv 0) pe_int (fun _ _ => rfl))) (pg_tupK (K := K) (n := 2) rfl rfl (pgs_cons (pg_name (i := 3) sc__law_used_at_ends.nd rfl (.inl rfl)) (pgs_cons (pg_name (i := 4) sc__law_used_at_ends.nd rfl (.inl rfl)) pgs_nil))) (pss_cons (ps_set (i := 5) sc__law_used_at_ends.nd rfl (.inl rfl) (pe_cal C__law_used_behind (hr.mono (by omega)) (by rfl) (pa_cons (pv 4) (pa_cons (pv 2) pa_nil))))
      (pss_cons (ps_for PassesOwn.never rfl (pi_tup (pe_revP (pv 3))) (pg_name (i := 6) sc__law_used_at_ends.nd rfl (.inl rfl)) (pss_one (ps_set (i := 5) sc__law_used_at_ends.nd rfl (.inl rfl) (pe_cal C__law_used_before (hr.mono (by omega)) (by rfl) (pa_cons (pv 6) (pa_cons (pv 5) pa_nil))))))
      (pss_one (ps_expr (pe_bm PySem.F.plainAttrs_list PySem.F.slot_list_append PySem.F.type_list_append mt_append (pv 1) (pa_cons (pv 5) pa_nil))))))))))
      (pss_one (ps_ret (pe_lc (own := [("_law_rows", 3), ("_law_end_here", 4)]) (by rfl) sc__law_used_at_ends.nd (pi_tup (pe_ix (ix_P (K := K) rfl) (pv 0) pe_int (fun _ _ => rfl))) (blkOk_by (own := [("_law_rows", 3), ("_law_end_here", 4)]) (N := N__law_used_at_ends) (sc := defScope s__law_used_at_ends) (by decide +kernel)) (fun _ _ _ _ _ => (pg_tupK (K := K) (n := 2) rfl rfl (pgs_cons (pg_name (i := 3) sc__law_used_at_ends.nd rfl (.inl rfl)) (pgs_cons (pg_name (i := 4) sc__law_used_at_ends.nd rfl (.inl rfl)) pgs_nil)))) (fun _ _ _ _ _ => pts_nil) (fun _ _ _ _ _ => (pe_cal C__law_used_behind (hr.mono (by omega)) (by rfl) (pa_cons (pv 4) (pa_cons (pv 1) pa_nil)))))))))), ?_⟩
  refine ⟨v, rfl, _, 1, _, hv, rfl, rfl, fun zb hzb => ?_⟩
  obtain ⟨ab, xb, rfl, sqb, hab⟩ := dp_seq hzb
  have hlb := dpAll_len hab
  rw [List.length_map] at hlb
  refine ⟨ab, rfl, ⟨_, sqb⟩, fun D0 hD0 => ?_⟩
  refine lc_tup (xs := xb) (fun i H1 => ∃ ys, H1 D0 = some (.lst ys) ∧ LL H1 D0 ys (List.replicate i []) ∧ Same H H1) ⟨[], upd_same, LL.nil _ _, same_new hD0⟩ ?_ ?_ ?_
  · rintro i H1 _ ⟨_, _, _, s1⟩
    exact sqT_same s1 sqb
  · rintro i x H1 hi ⟨ys, h1, hl1, s1⟩
    have hil : i < xb.length := (List.getElem?_eq_some_iff.mp hi).1
    refine ⟨rfl, tyes ⟨Nat.zero_le _, fun l hl => ⟨_, upd_get hl h1, ?_, _, upd_same, ?_, fun b' o' e' => ?_⟩⟩⟩
    · rw [hl1.1, List.length_replicate]
      exact small_line (by omega)
    · rw [List.replicate_succ']
      have nl : l ≠ D0 := fun z => by rw [z, h1] at hl; cases hl
      exact ((hl1.same (same_new hl)).put).snoc nl (by rw [upd_ne nl, upd_same]; rfl)
    · rw [upd_ne (ne_of_none e' hD0)]
      exact upd_get hl (s1 _ _ e')
  rintro H1 ⟨ys0, h1, hl1, s1⟩
  rw [hlb] at hl1
  -- while
  refine ⟨Wst g H v, ⟨_, D0, _, ys0, .non, _, _, _, _, rfl, hD0, h1, hl1, bw_nil g, s1, .inl ⟨rfl, rfl⟩⟩, ?_⟩
  rintro m σ H4 ⟨s0, cl, ys, bf, x3, x4, x5, x6, rfl, hs0, hs4, hl4, B4, s4, hbf⟩
  -- the test
  have test : ∀ (QQ : Prop) (RR : Prop), ((∃ m', m' < m ∧ m' = 16 * g.blocks.length + 1 - size cl) → QQ) → (Fx g cl → RR) → tTest (tOp (rNeD K) (tVar 1) (tVar 2)) [some v, some (.ref s0), some bf, x3, x4, x5, x6, none] H4 fun b H5 => H5 = H4 ∧ if b = true then QQ else RR := by
    intro QQ RR hq hr'
    rcases hbf with ⟨rfl, rfl⟩ | ⟨b, bcl, bys, rfl, hb4, hbl, Bb, ecl, rfl⟩
    · refine ⟨_, rfl, _, rfl, _, _, .lst (.inl (.inl hs4)) hl4.dp, .non, shaped_lls _, (by decide), _, rfl, rfl, ?_⟩
      have e : PyData.eqv (.list (cl.map lsD)) .none = false := by simp [PyData.eqv]
      rw [e]
      exact iteT (hq ⟨_, by omega, rfl⟩)
    · refine ⟨_, rfl, _, rfl, _, _, .lst (.inl (.inl hs4)) hl4.dp, .lst (.inl (.inl hb4)) hbl.dp, shaped_lls _, shaped_lls _, _, rfl, rfl, ?_⟩
      rw [eqv_lls]
      by_cases e : cl = bcl
      · rw [decide_eq_true e]
        subst e
        refine iteF (hr' ⟨B4.len, B4.lo, fun i b hb => ?_⟩)
        have := at_map (cl := cl) hb
        rw [← ecl] at this
        exact this
      · rw [decide_eq_false e]
        have hle : Le bcl cl := by rw [ecl]; exact (bw_all hg.sm Bb).2
        have hlt := size_lt Bb B4 hle fun z => e z.symm
        have hm := size_max B4
        exact iteT (hq ⟨_, by omega, rfl⟩)
  have mono : ∀ (A B : Bool → Hp → Prop), (∀ b H5, A b H5 → B b H5) → tTest (tOp (rNeD K) (tVar 1) (tVar 2)) [some v, some (.ref s0), some bf, x3, x4, x5, x6, none] H4 A → tTest (tOp (rNeD K) (tVar 1) (tVar 2)) [some v, some (.ref s0), some bf, x3, x4, x5, x6, none] H4 B := by
    rintro A B hAB ⟨x, ex, y, ey, d, e, d1, d2, d3, d4, k, ek, hA⟩
    exact ⟨x, ex, y, ey, d, e, d1, d2, d3, d4, k, ek, hAB _ _ hA⟩
  refine mono _ _ ?_ (test _ _ id id)
  rintro b H5 ⟨rfl, hb⟩
  cases b with
  | false =>
    have hfx : Fx g cl := hb
    refine iteF ⟨v, rfl, _, 1, _, dp_mono s4 _ _ hv, rfl, rfl, fun zb hzb => ?_⟩
    obtain ⟨ab, xb, rfl, sqb, hab⟩ := dp_seq hzb
    have hlb := dpAll_len hab
    rw [List.length_map] at hlb
    refine ⟨ab, rfl, ⟨_, sqb⟩, fun D hD => ?_⟩
    refine lc_tup (xs := xb) (fun i H6 => ∃ ys, H6 D = some (.lst ys) ∧ LL H6 D ys ((g.blocks.take i).map fun b => endU b.stop cl) ∧ Same H5 H6) ⟨[], upd_same, LL.nil _ _, same_new hD⟩ ?_ ?_ ?_
    · rintro i H6 _ ⟨_, _, _, s6⟩
      exact sqT_same s6 sqb
    · rintro i x H6 hi ⟨ys6, h6, hl6, s6⟩
      obtain ⟨b, hb2, hx⟩ := dpAll_map_get hab hi
      have hx := dp_mono s6 _ _ hx
      have ok := hg.blk b (List.mem_of_getElem? hb2)
      have hib : i < g.blocks.length := (List.getElem?_eq_some_iff.mp hb2).1
      obtain ⟨ax, xx, rfl, sqx, hax⟩ := dp_seq hx
      cases hax with
      | @cons y1 d1 ys1 ds1 g1 hax =>
        cases hax with
        | @cons y2 d2 ys2 ds2 g2 hax =>
          cases hax
          refine ⟨ax, _, rfl, sqx, rfl, _, _, rfl, _, _, rfl, rfl, rfl, tyes ⟨_, rfl, _, rfl, y2, s0, b.stop, cl, rfl, g2, ((hl4.same s6).cl (s6 _ _ hs4) (bw_len B4)), lo_stop ok.stop hN, (fun n hn => by rw [B4.len]; exact StpOk.to ok.stop n hn), fun p7 H7 hp7 s7 h7 => ⟨_, s7 _ _ h6, ?_, _, upd_same, ?_, fun b' o' e' => ?_⟩⟩⟩
          · rw [hl6.1, List.length_map, List.length_take]
            exact small_line (by omega)
          · rw [map_take_snoc _ hb2]
            have np : p7 ≠ D := fun z => by rw [z, h6] at hp7; cases hp7
            exact ((hl6.same s7).put).snoc np (by rw [upd_ne np]; exact h7)
          · rw [upd_ne (ne_of_none e' hD)]
            exact s7 _ _ (s6 _ _ e')
    rintro H6 ⟨ys6, h6, hl6, s6⟩
    rw [hlb, List.take_length] at hl6
    exact q D H6 cl ys6 (none_same s4 hD) (s4.trans s6) hfx B4 h6 hl6
  | true =>
    obtain ⟨m', hm', em'⟩ : ∃ m', m' < m ∧ m' = 16 * g.blocks.length + 1 - size cl := hb
    refine iteT ⟨_, fun σ' H' h => ⟨m', hm', h⟩, ?_⟩
    refine ⟨_, rfl, Nat.zero_le _, fun l hl => ⟨(by show 2 ≤ sizeLine; decide), fun p6 hp6 => ⟨p6, _, rfl, .inl (.inl upd_same), rfl, _, _, rfl, _, _, rfl, rfl, ?_⟩⟩⟩
    have s6 := same_new (o := .lst []) hl
    have e6 : (upd H5 l (.lst [])) l = some (.lst []) := upd_same
    generalize upd H5 l (.lst []) = H6 at s6 e6 hp6 ⊢
    have s7 := s6.trans (same_new (o := .tup [.ref s0, .ref l]) hp6)
    have e7 : (upd H6 p6 (.tup [.ref s0, .ref l])) l = some (.lst []) := upd_get hp6 e6
    generalize upd H6 p6 (.tup [.ref s0, .ref l]) = H7 at s7 e7 ⊢
    have hlH := none_same s4 hl
    refine ⟨v, rfl, _, 1, _, dp_mono (s4.trans s7) _ _ hv, rfl, rfl, fun zb hzb => ?_⟩
    obtain ⟨ab, xb, rfl, sqb, hab⟩ := dp_seq hzb
    have hlb := dpAll_len hab
    rw [List.length_map] at hlb
    refine ⟨ab, rfl, ⟨_, sqb⟩, ?_⟩
    refine for_tup (xs := xb) (fun i σ H8 => ∃ ys x3 x4 x5 x6, σ = [some v, some (.ref l), some (.ref s0), x3, x4, x5, x6, none] ∧ H8 l = some (.lst ys) ∧ LL H8 l ys ((g.blocks.take i).map (begU · cl)) ∧ Same H5 H8 ∧ KT H7 H8) ⟨[], _, _, _, _, rfl, e7, LL.nil _ _, s7, KT.refl _⟩ ?_ ?_ ?_
    · rintro i σ H8 _ ⟨_, _, _, _, _, rfl, _, _, _, k8⟩
      exact sqT_kt k8 sqb
    · rintro i x σ H8 hi ⟨ys8, x3, x4, x5, x6, rfl, e8, hl8, s8, k8⟩
      obtain ⟨b, hb2, hx⟩ := dpAll_map_get hab hi
      have hx := dp_kt k8 _ _ (nlB b) hx
      have ok := hg.blk b (List.mem_of_getElem? hb2)
      have hib : i < g.blocks.length := (List.getElem?_eq_some_iff.mp hb2).1
      obtain ⟨ax, xx, rfl, sqx, hax⟩ := dp_seq hx
      cases hax with
      | @cons y1 d1 ys1 ds1 g1 hax =>
        cases hax with
        | @cons y2 d2 ys2 ds2 g2 hax =>
          cases hax
          refine ⟨ax, _, rfl, sqx, rfl, _, _, rfl, _, _, rfl, rfl, _, rfl, _, rfl, y2, s0, b.stop, cl, rfl, g2, ((hl4.same s8).cl (s8 _ _ hs4) (bw_len B4)), lo_stop ok.stop hN, (fun n hn => by rw [B4.len]; exact StpOk.to ok.stop n hn), fun p9 H9 hp9 s9 h9 => ?_⟩
          refine ⟨_, rfl, _, dp_mono s9 _ _ g1, fun z10 H10 s10 h10 => ?_⟩
          rw [← List.map_reverse] at h10
          obtain ⟨a10, xr, rfl, sqr, har⟩ := dp_seq h10
          have hxl := dpAll_len har
          rw [List.length_map] at hxl
          have n9 : p9 ≠ l := fun z => by rw [z, e8] at hp9; cases hp9
          refine ⟨a10, rfl, ⟨_, sqr⟩, ?_⟩
          refine for_tup (xs := xr) (fun j σ H11 => ∃ pu x6, σ = [some v, some (.ref l), some (.ref s0), some y1, some y2, some (.ref pu), x6, none] ∧ H11 pu = some (.lst ((rowsU (b.rows.reverse.take j) (endU b.stop cl)).map nV)) ∧ pu ≠ l ∧ Same H10 H11) ⟨p9, _, rfl, s10 _ _ h9, n9, Same.refl _⟩ ?_ ?_ ?_
          · rintro j σ H11 _ ⟨_, _, rfl, _, _, s11⟩
            exact sqT_same s11 sqr
          · rintro j x σ H11 hj ⟨pu, x6, rfl, h11, nu, s11⟩
            obtain ⟨R, hR, hxR⟩ := dpAll_map_get har hj
            have okR := ok.rows R (List.mem_reverse.mp (List.mem_of_getElem? hR))
            have hu : Lo (rowsU (b.rows.reverse.take j) (endU b.stop cl)) := lo_rowsU _ (lo_srt _)
            have hul := rowsU_len (b.rows.reverse.take j) (u := endU b.stop cl) (srt_len _)
            have e11 := s11 _ _ (s10 _ _ (s9 _ _ e8))
            refine ⟨_, rfl, _, rfl, x, pu, R, _, rfl, dp_mono s11 _ _ hxR, .inl (.inl h11), by have := RwOk.len okR; omega, lo_ops okR hN, hu, by omega, fun p12 H12 hp12 s12 h12 => ⟨p12, _, rfl, ?_, (fun z => by rw [z, e11] at hp12; cases hp12), s11.trans s12⟩⟩
            rw [List.take_add_one, hR]
            show H12 p12 = some (.lst ((rowsU (_ ++ [R]) _).map nV))
            rw [rowsU_app]
            exact h12
          · rintro σ H11 ⟨pu, x6, rfl, h11, nu, s11⟩
            rw [hxl, List.take_length] at h11
            have s811 := s9.trans (s10.trans s11)
            have e11 := s811 _ _ e8
            refine ⟨_, rfl, .inl ⟨rfl, _, .inl (.inl e11)⟩, _, rfl, l, _, _, rfl, rfl, e11, ?_, _, _, _, _, _, rfl, upd_same, ?_, fun b' o' e' => ?_, (k8.trans (KT.of s811)).trans (KT.lst e11)⟩
            · rw [hl8.1, List.length_map, List.length_take]
              exact small_line (by omega)
            · rw [map_take_snoc _ hb2]
              exact ((hl8.same s811).put).snoc nu (by rw [upd_ne nu]; exact h11)
            · rw [upd_ne (ne_of_none e' hl)]
              exact s811 _ _ (s8 _ _ e')
    · rintro σ H8 ⟨ys8, x3, x4, x5, x6, rfl, e8, hl8, s8, k8⟩
      rw [hlb, List.take_length] at hl8
      exact ⟨l, _, ys8, .ref s0, _, _, _, _, rfl, hlH, e8, hl8, (bw_all hg.sm B4).1, s4.trans s8, .inr ⟨s0, cl, ys, rfl, s8 _ _ hs4, hl4.same s8, B4, rfl, em'⟩⟩
/-! ### _law_pairs -/
set_option pp.maxSteps 600 in
theorem c_pairs (T : Txt w K mg) : Cal P w K mg base "_law_pairs" 6 ["_law_shape"] (spApart K) := by
  obtain ⟨fd, F⟩ := T.d__law_pairs
  have C__law_used_at_ends := c_used_at_ends (P := P) (w := w) (base := base) T
  have C__law_sets := c_sets (P := P) (w := w) (base := base) T
  have C__law_used_before := c_law_used_before (P := P) (w := w) (base := base) T
  refine ⟨⟨fd, F.ok sc__law_pairs (fun vs H Q E h => by repeat (first | (obtain ⟨e, _⟩ := h; subst e; rfl) | (obtain ⟨_, h⟩ := h))) (fun cdv A outer s H vs Q E hr h => ?_), F.bindsN fun _ _ _ _ _ _ us hl => match us, hl with | [_], _ => rfl⟩, T.g _ (by decide), F.kp⟩
  obtain ⟨v, N, g, rfl, hv, hg, q⟩ := h
  have hN := hg.small
  refine ⟨_, PSs.nox (pss_cons (ps_set (i := 1) sc__law_pairs.nd rfl (.inl rfl) (pe_lst pa_nil))
      (pss_cons (ps_for PassesOwn.never rfl (HZ2.pi_zipM (by rfl) T.n_zip (pa_cons (pe_ix (ix_P (K := K) rfl) (pv 0) pe_int (fun _ _ => rfl)) (pa_cons (pe_cal C__law_used_at_ends (hr.mono (by omega)) (by rfl) (pa_cons (pv 0) pa_nil)) pa_nil))) (pg_tupK (K := K) (n := 2) rfl rfl (pgs_cons (pg_name (i := 2) sc__law_pairs.nd rfl (.inl rfl)) (pgs_cons (pg_name (i := 3) sc__law_pairs.nd rfl (.inl rfl)) pgs_nil))) (pss_one (ps_for PassesOwn.never rfl (pi_tup (pe_revP (pe_ix (ix_P (K := K) rfl) (pv 2) pe_int (fun _ _ => rfl)))) (pg_name (i := 4) sc__law_pairs.nd rfl (.inl rfl)) (pss_cons (ps_set (i := 5) sc__law_pairs.nd rfl (.inr rfl) (pe_cal C__law_sets (hr.mono (by omega)) (by rfl) (pa_cons (pv 4) pa_nil)))
      (pss_cons (ps_set (i := 6) sc__law_pairs.nd rfl (.inr rfl) (pe_op op_cat (pe_lst (pa_cons (pv 5) pa_nil)) (pe_op op_rep (pe_callTy call_list_of (by rfl) T.n_list (by decide +kernel) (pa_cons (pe_slice (sl_P (K := K) rfl) (pv 4) (po_some pe_int) (po_some pe_int)) pa_nil)) (pe_callTy call_intIB (by rfl) T.n_int (by decide +kernel) (pa_cons (pe_cmpR op_eq (pe_ix (ix_P (K := K) rfl) (pv 4) pe_int (fun _ _ => rfl)) pe_str (nomark _)) pa_nil)))))
      (pss_cons (ps_if (pt_cmpR op_notN (pv 5) pe_non (nomark _)) (pss_one (ps_set (i := 1) sc__law_pairs.nd rfl (.inl rfl) (pe_op op_cat (pv 1) (pe_lc (own := [("_law_w", 7)]) (by rfl) sc__law_pairs.nd (pi_list (pv 3)) (blkOk_by (own := [("_law_w", 7)]) (N := N__law_pairs) (sc := defScope s__law_pairs) (by decide +kernel)) (fun _ _ _ _ _ => (pg_name (i := 7) sc__law_pairs.nd rfl (.inl rfl))) (fun _ _ _ _ _ => pts_one (pt_cmpR (op_notIn_seqK (K := K) rfl) (pv 7) (pv 6) (by rfl))) (fun _ _ _ _ _ => (pe_tup (pa_cons (pv 5) (pa_cons (pv 7) pa_nil)))))))) pss_nil)
      (pss_one (ps_set (i := 3) sc__law_pairs.nd rfl (.inl rfl) (pe_cal C__law_used_before (hr.mono (by omega)) (by rfl) (pa_cons (pv 4) (pa_cons (pv 3) pa_nil)))))))))))
      (pss_one (ps_ret (pv 1))))), ?_⟩
  refine ⟨Nat.zero_le _, fun l0 hl0 => ?_⟩
  have s0 := same_new (o := .lst []) hl0
  have e0 : (upd H l0 (.lst [])) l0 = some (.lst []) := upd_same
  generalize upd H l0 (.lst []) = H0 at s0 e0 ⊢
  refine ⟨v, rfl, _, 1, _, dp_mono s0 _ _ hv, rfl, rfl, fun zb hzb => ⟨v, rfl, v, N, g, rfl, dp_mono s0 _ _ hv, hg, fun pe H1 cl ys hpe s1 hfx hbw e1 hl1 => ?_⟩⟩
  obtain ⟨ab, xb, rfl, sqb, hab⟩ := dp_seq hzb
  have hlb := dpAll_len hab
  rw [List.length_map] at hlb
  have s01 := s0.trans s1
  have hab1 := dpAll_mono s1 _ _ hab
  have hyl := hl1.1
  rw [List.length_map] at hyl
  refine ⟨ab, pe, xb, ys, rfl, sqT_same s1 sqb, .inl (.inl e1), ?_⟩
  refine for_it (HZ2.walk_zipM (xs := xb) (ys := ys) (n := xb.length) (by omega)) (fun i σ H2 => ∃ p xs x2 x3 x4 x5 x6, σ = [some v, some (.ref p), x2, x3, x4, x5, x6, none] ∧ H2 p = some (.lst xs) ∧ DpAll K H2 xs (((g.blocks.take i).flatMap fun b => prsB b.rows.reverse (endU b.stop cl)).map pD) ∧ H p = none ∧ Same H1 H2) ⟨l0, [], _, _, _, _, _, rfl, s1 _ _ e0, .nil, hl0, Same.refl _⟩ ?_ ?_ ?_
  · rintro i σ H2 _ ⟨_, _, _, _, _, _, _, rfl, _, _, _, s2⟩
    exact ⟨sqT_same (s1.trans s2) sqb, .inl (.inl (s2 _ _ e1))⟩
  · rintro i x σ H2 H3 hi ⟨p, xs, x2, x3, x4, x5, x6, rfl, h2, hd2, hpH, s2⟩ ⟨T1, y1, y2, rfl, hT1, rfl, g1, g2⟩
    obtain ⟨b, hb, hx⟩ := dpAll_map_get hab1 g1
    have hbm := List.mem_of_getElem? hb
    have ok := hg.blk b hbm
    have hib : i < g.blocks.length := (List.getElem?_eq_some_iff.mp hb).1
    obtain ⟨pu, hu1, nu1, hu2⟩ := hl1.2 i (by rw [List.length_map]; exact hib)
    have g2 : ys[i]? = some y2 := g2
    rw [g2] at hu1
    cases hu1
    have egb : (g.blocks.map fun b => endU b.stop cl)[i]'(by rw [List.length_map]; exact hib) = endU b.stop cl := by
      rw [List.getElem_map]
      have := (List.getElem?_eq_some_iff.mp hb).2
      rw [this]
    rw [egb] at hu2
    have sT := same_new (o := .tup [y1, .ref pu]) hT1
    have hx := dp_mono (s2.trans sT) _ _ hx
    have hu3 := (s2.trans sT) _ _ hu2
    have h3 := sT _ _ h2
    have hd3 := dpAll_mono sT _ _ hd2
    have s13 := s2.trans sT
    refine ⟨T1, _, rfl, .inl (.inl upd_same), rfl, _, _, rfl, _, _, rfl, rfl, ?_⟩
    generalize upd H2 T1 (.tup [y1, .ref pu]) = H3 at sT hx hu3 h3 hd3 s13 ⊢
    have et : (g.blocks.take (i + 1)).flatMap (fun b => prsB b.rows.reverse (endU b.stop cl)) = (g.blocks.take i).flatMap (fun b => prsB b.rows.reverse (endU b.stop cl)) ++ prsB b.rows.reverse (endU b.stop cl) := by
      rw [List.take_add_one, hb, List.flatMap_append]
      show _ ++ (prsB b.rows.reverse (endU b.stop cl) ++ []) = _
      rw [List.append_nil]
    have hlen0 : ((g.blocks.take i).flatMap (fun b => prsB b.rows.reverse (endU b.stop cl))).length ≤ 16 * 140 := by
      have h1 := apart_len cl (g.blocks.take i)
      have h2 : rowsN (g.blocks.take i) ≤ rowsN g.blocks := by
        have e := rowsN_app (g.blocks.take i) (g.blocks.drop i)
        rw [List.take_append_drop] at e
        omega
      have h3 := hg.few
      omega
    rw [et]
    generalize (g.blocks.take i).flatMap (fun b => prsB b.rows.reverse (endU b.stop cl)) = F0 at hd3 hlen0
    have hu0 : Lo (endU b.stop cl) := lo_srt _
    have hul0 : (endU b.stop cl).length ≤ 16 := srt_len _
    generalize endU b.stop cl = u0 at hu3 hu0 hul0
    have hlr : b.rows.reverse.length ≤ 140 := by
      rw [List.length_reverse]
      exact Nat.le_trans (rowsN_mem hbm) hg.few
    refine ⟨_, rfl, _, 0, _, hx, rfl, rfl, fun zr hzr => ⟨_, hzr, fun z5 H5 s5 h5 => ?_⟩⟩
    rw [← List.map_reverse] at h5
    obtain ⟨a5, xr, rfl, sqr, har⟩ := dp_seq h5
    have hxl := dpAll_len har
    rw [List.length_map] at hxl
    refine ⟨a5, rfl, ⟨_, sqr⟩, ?_⟩
    refine for_tup (xs := xr) (fun j σ H6 => ∃ p xs pu x4 x5 x6, σ = [some v, some (.ref p), some y1, some (.ref pu), x4, x5, x6, none] ∧ H6 p = some (.lst xs) ∧ DpAll K H6 xs ((F0 ++ prsB (b.rows.reverse.take j) u0).map pD) ∧ H p = none ∧ H6 pu = some (.lst ((rowsU (b.rows.reverse.take j) u0).map nV)) ∧ Same H5 H6)
      ⟨p, xs, pu, _, _, _, rfl, s5 _ _ h3, by show DpAll K H5 xs ((F0 ++ []).map pD); rw [List.append_nil]; exact dpAll_mono s5 _ _ hd3, hpH, s5 _ _ hu3, Same.refl _⟩ ?_ ?_ ?_
    · rintro j σ H6 _ ⟨_, _, _, _, _, _, rfl, _, _, _, _, s6⟩
      exact sqT_same s6 sqr
    · rintro j xR σ H6 hj ⟨p, xs, pu, x4, x5, x6, rfl, h6, hd6, hpH, hu6, s6⟩
      obtain ⟨R, hR, hxR⟩ := dpAll_map_get har hj
      have hxR := dp_mono s6 _ _ hxR
      have hjl : j < b.rows.reverse.length := (List.getElem?_eq_some_iff.mp hR).1
      have okR := ok.rows R (List.mem_reverse.mp (List.mem_of_getElem? hR))
      have eR : b.rows.reverse.take (j + 1) = b.rows.reverse.take j ++ [R] := by rw [List.take_add_one, hR]; rfl
      have hpl := prsB_len (b.rows.reverse.take j) u0 hul0
      rw [List.length_take] at hpl
      have hpl : (prsB (b.rows.reverse.take j) u0).length ≤ 16 * 140 := by omega
      have hu : Lo (rowsU (b.rows.reverse.take j) u0) := lo_rowsU _ hu0
      have hul := rowsU_len (b.rows.reverse.take j) hul0
      rw [eR, prsB_app, rowsU_app]
      generalize rowsU (b.rows.reverse.take j) u0 = u at hu6 hu hul
      generalize prsB (b.rows.reverse.take j) u0 = G0 at hd6 hpl
      have hrl := RwOk.len okR
      have hdl := dpAll_len hd6
      rw [List.length_map, List.length_append] at hdl
      obtain ⟨dR, rR, eRL, eS⟩ := set_row R
      have hxR2 := hxR
      rw [Rw.D, eRL] at hxR2
      refine ⟨xR, rfl, xR, R.word, dR, rR, rfl, hxR2, fun z7 H7 s7 h7 => ?_⟩
      rw [eS] at h7
      have e7 := dp_ov h7
      subst e7
      have hL5 : R.L.length ≤ 5 := by cases R <;> exact Nat.le_of_ble_eq_true rfl
      refine ⟨_, rfl, (by show 1 ≤ sizeLine; decide), fun l8 hl8 => ?_⟩
      have s8 := s7.trans (same_new (o := .lst [ovV R.set]) hl8)
      have e8 : (upd H7 l8 (.lst [ovV R.set])) l8 = some (.lst [ovV R.set]) := upd_same
      generalize upd H7 l8 (.lst [ovV R.set]) = H8 at s8 e8 ⊢
      refine ⟨_, rfl, 2, rfl, 3, rfl, _, dp_mono s8 _ _ hxR, fun z9 H9 s9 h9 => ?_⟩
      obtain ⟨a9, x9, rfl, sq9, ha9⟩ := dp_seq h9
      refine ⟨a9, x9, rfl, .inr sq9, fun l10 hl10 => ?_⟩
      have s10 := s9.trans (same_new (o := .lst x9) hl10)
      have e10 : (upd H9 l10 (.lst x9)) l10 = some (.lst x9) := upd_same
      generalize upd H9 l10 (.lst x9) = H10 at s10 e10 ⊢
      refine ⟨_, rfl, _, 0, _, dp_mono (s8.trans s10) _ _ hxR, rfl, rfl, fun z11 hz11 => ?_⟩
      cases hz11
      have hx9 := dpAll_len ha9
      have hx95 : x9.length ≤ 5 := by
        rw [hx9]
        unfold cutP
        rw [List.length_take, List.length_drop]
        omega
      have hfr : ∀ n, R.set = some n → ovV R.set :: (List.replicate (b2I (eqw R.word "copy")).toNat x9).flatten = (frees R n).map nV := fun n hn => by
        cases hq : eqw R.word "copy" with
        | true =>
          obtain ⟨x, y, rfl⟩ := ops2 hq
          have ex : x = n := Option.some.inj hn
          subst ex
          have e9 : x9 = [nV y] := dpAll_nV (ks := [y]) ha9
          rw [e9]
          rfl
        | false =>
          rw [frees_no hq, hn]
          rfl
      refine ⟨rfl, .inr ⟨_, rfl, l10, _, x9, rfl, rfl, e10, ?_, ?_, ?_, fun p12 hp12 => ?_⟩⟩
      · show -(2 ^ 63) ≤ b2I (eqw R.word "copy")
        cases eqw R.word "copy" <;> decide
      · show b2I (eqw R.word "copy") < 2 ^ 63
        cases eqw R.word "copy" <;> decide
      · show x9.length * (b2I (eqw R.word "copy")).toNat ≤ sizeLine
        rw [sizeLine_eq]
        cases eqw R.word "copy"
        · exact Nat.le_trans (Nat.le_of_eq (Nat.mul_zero _)) (Nat.zero_le _)
        · show x9.length * 1 ≤ _
          omega
      have hfl : ((List.replicate (b2I (eqw R.word "copy")).toNat x9).flatten).length ≤ 5 := by
        cases eqw R.word "copy"
        · exact Nat.zero_le _
        · show ([x9].flatten).length ≤ 5
          rw [List.flatten_singleton]
          exact hx95
      show rCat _ _ (upd H10 p12 (.lst (List.replicate (b2I (eqw R.word "copy")).toNat x9).flatten)) _
      generalize (List.replicate (b2I (eqw R.word "copy")).toNat x9).flatten = fr at hfr hfl
      have s12 := s10.trans (same_new (o := .lst fr) hp12)
      have e12 : (upd H10 p12 (.lst fr)) p12 = some (.lst fr) := upd_same
      generalize upd H10 p12 (.lst fr) = H12 at s12 e12 ⊢
      refine ⟨l8, p12, _, _, rfl, rfl, s12 _ _ e8, e12, by rw [sizeLine_eq]; show 1 + fr.length ≤ _; omega, fun p13 hp13 => ?_⟩
      have s13' := s8.trans (s12.trans (same_new (o := .lst (ovV R.set :: fr)) hp13))
      have e13 : (upd H12 p13 (.lst (ovV R.set :: fr))) p13 = some (.lst (ovV R.set :: fr)) := upd_same
      show tSeq _ _ _ _ (upd H12 p13 (.lst (ovV R.set :: fr)))
      generalize upd H12 p13 (.lst (ovV R.set :: fr)) = H13 at s13' e13 ⊢
      have h63 := s13' _ _ h6
      have hd63 := dpAll_mono s13' _ _ hd6
      have hu63 := s13' _ _ hu6
      have hxR3 := dp_mono s13' _ _ hxR
      have s63 := s6.trans s13'
      refine ⟨_, rfl, rfl, _, rfl, ?_⟩
      have sHH : Same H H13 := s01.trans (s13.trans (s5.trans s63))
      cases hset : R.set with
      | none =>
        have ep : prs R u = [] := by unfold prs; rw [hset]
        rw [ep, List.append_nil]
        refine iteF ⟨_, rfl, _, rfl, xR, pu, R, u, rfl, hxR3, .inl (.inl hu63), by omega, lo_ops okR hN, hu, by omega, fun p14 H14 hp14 s14 h14 => ⟨p, xs, p14, _, _, _, rfl, s14 _ _ h63, dpAll_mono s14 _ _ hd63, hpH, h14, s63.trans s14⟩⟩
      | some n =>
        have ep : prs R u = (u.filter (nfr R n)).map fun w => (n, w) := by unfold prs; rw [hset]; rfl
        have hfr2 : ovV R.set :: fr = (frees R n).map nV := hfr n hset
        rw [hfr2] at e13
        refine iteT ⟨_, rfl, _, rfl, pu, rfl, ⟨_, .inl (.inl hu63)⟩, fun D hD => ?_⟩
        refine lc_list (xs := u.map nV) (fun i H14 => ∃ ys, H14 D = some (.lst ys) ∧ DpAll K H14 ys ((((u.take i).filter (nfr R n)).map fun w => (n, w)).map pD) ∧ Same H13 H14) ⟨[], upd_same, .nil, same_new hD⟩ ?_ ?_ ?_
        · rintro i H14 _ ⟨_, _, _, s14⟩
          exact .inl (.inl (s14 _ _ hu63))
        · rintro i x H14 hi ⟨ys, h14, hd14, s14⟩
          rw [List.getElem?_map] at hi
          obtain ⟨m, hm, rfl⟩ := Option.map_eq_some_iff.mp hi
          refine ⟨rfl, _, rfl, _, rfl, p13, _, rfl, .inl (.inl (.inl (s14 _ _ e13))), rfl, flat_nats _, _, rfl, ?_⟩
          show if (!inV (nV m) ((frees R n).map nV)) = true then _ else _
          rw [in_nats, filter_snoc hm]
          show if nfr R n m = true then _ else _
          have hyl := dpAll_len hd14
          rw [List.length_map, List.length_map] at hyl
          have hfl2 := List.length_filter_le (nfr R n) (u.take i)
          rw [List.length_take] at hfl2
          cases nfr R n m with
          | false =>
            refine iteF ⟨ys, h14, ?_, s14⟩
            rw [if_neg Bool.false_ne_true, List.append_nil]
            exact hd14
          | true =>
            refine iteT ⟨_, rfl, _, rfl, (by show 2 ≤ sizeLine; decide), fun p15 hp15 => ?_⟩
            have nl : noLAll ((((u.take i).filter (nfr R n)).map fun w => (n, w)).map pD) = true := nlP _
            obtain ⟨m1, m2, m3⟩ := mk_step (d := pD (n, m)) hD h14 hd14 nl s14 (same_new hp15) (dp_tupN hp15 (.cons (.int _) (.cons (.int _) .nil))) rfl
            refine ⟨ys, m1, small_line (by omega), _, upd_same, ?_, m3⟩
            rw [if_pos rfl, List.map_append, List.map_append]
            exact m2
        rintro H14 ⟨ys, h14, hd14, s14⟩
        rw [List.length_map, List.take_length] at hd14
        have hyl := dpAll_len hd14
        rw [List.length_map, List.length_map] at hyl
        have hfl2 := List.length_filter_le (nfr R n) u
        refine ⟨p, D, xs, ys, rfl, rfl, s14 _ _ h63, h14, by rw [sizeLine_eq]; omega, fun p15 hp15 => ?_⟩
        have s15 := same_new (o := .lst (xs ++ ys)) hp15
        have s1315 := s14.trans s15
        refine ⟨_, rfl, _, rfl, xR, pu, R, u, rfl, dp_mono s1315 _ _ hxR3, .inl (.inl (s1315 _ _ hu63)), by omega, lo_ops okR hN, hu, by omega, fun p16 H16 hp16 s16 h16 => ⟨p15, xs ++ ys, p16, _, _, _, rfl, s16 _ _ upd_same, ?_, none_same (sHH.trans s14) hp15, h16, s63.trans (s1315.trans s16)⟩⟩
        rw [ep, ← List.append_assoc, List.map_append]
        exact dpAll_app (dpAll_mono (s1315.trans s16) _ _ hd63) (dpAll_mono (s15.trans s16) _ _ hd14)
    · rintro σ H6 ⟨p, xs, pu, x4, x5, x6, rfl, h6, hd6, hpH, hu6, s6⟩
      rw [hxl, List.take_length] at hd6
      exact ⟨p, xs, _, _, _, _, _, rfl, h6, hd6, hpH, s13.trans (s5.trans s6)⟩
  · rintro σ H2 ⟨p, xs, x2, x3, x4, x5, x6, rfl, h2, hd2, hpH, s2⟩
    rw [hlb, List.take_length] at hd2
    exact ⟨_, rfl, q p H2 cl xs hpH (s01.trans s2) hfx hbw h2 hd2⟩
end
end K51

set_option maxHeartbeats 4000000
namespace K51
open PySem PySem.Spec PyProof.Rows L2 HG P52 P51
/-! ### dicts of numbers -/
structure KeyOk (kvs : List (Key × V)) (F : List Nat) : Prop where
  ex : ∃ ks : List Int, kvs.map (·.1) = ks.map Sum.inl ∧ ks.Nodup ∧ ∀ k, k ∈ ks ↔ k ∈ F.map iN
theorem KeyOk.congr {kvs : List (Key × V)} {F G : List Nat} (h : KeyOk kvs F) (e : ∀ n, n ∈ F ↔ n ∈ G) : KeyOk kvs G := by
  obtain ⟨ks, h1, h2, h3⟩ := h.ex
  refine ⟨ks, h1, h2, fun k => (h3 k).trans ?_⟩
  rw [List.mem_map, List.mem_map]
  exact ⟨fun ⟨n, hn, q⟩ => ⟨n, (e n).mp hn, q⟩, fun ⟨n, hn, q⟩ => ⟨n, (e n).mpr hn, q⟩⟩
theorem KeyOk.nil : KeyOk [] [] := ⟨[], rfl, .nil, fun k => by simp⟩
theorem KeyOk.put {kvs : List (Key × V)} {F : List Nat} (h : KeyOk kvs F) (m : Nat) (x : V) : KeyOk (putK kvs (Sum.inl (m : Int)) x) (F ++ [m]) := by
  obtain ⟨ks, h1, h2, h3⟩ := h.ex
  have hany : (kvs.any fun kv => decide (kv.1 = (Sum.inl (m : Int) : Key))) = decide ((m : Int) ∈ ks) := by
    have e : (kvs.any fun kv => decide (kv.1 = (Sum.inl (m : Int) : Key))) = (kvs.map (·.1)).any fun k => decide (k = (Sum.inl (m : Int) : Key)) := by rw [List.any_map]; rfl
    rw [e, h1, List.any_map, Bool.eq_iff_iff, List.any_eq_true, decide_eq_true_eq]
    exact ⟨fun ⟨k, hk, e⟩ => by
      have e : (Sum.inl k : Key) = Sum.inl (m : Int) := of_decide_eq_true e
      injection e with e
      rw [← e]
      exact hk, fun hk => ⟨_, hk, decide_eq_true rfl⟩⟩
  unfold putK
  rw [hany]
  by_cases hm : (m : Int) ∈ ks
  · rw [decide_eq_true hm, if_pos rfl]
    refine ⟨ks, ?_, h2, fun k => ?_⟩
    · rw [List.map_map, ← h1]
      refine List.map_congr_left fun kv _ => ?_
      show (if kv.1 = _ then (kv.1, x) else kv).1 = kv.1
      split <;> rfl
    · rw [List.map_append, List.mem_append, ← h3]
      refine ⟨.inl, fun h => h.elim id fun h => ?_⟩
      have e : k = iN m := List.mem_singleton.mp h
      rw [e]
      exact hm
  · rw [decide_eq_false hm, if_neg Bool.false_ne_true]
    refine ⟨ks ++ [(m : Int)], ?_, ?_, fun k => ?_⟩
    · rw [List.map_append, List.map_append, h1]
      rfl
    · rw [List.nodup_append]
      refine ⟨h2, List.nodup_cons.mpr ⟨List.not_mem_nil, .nil⟩, fun a ha b hb e => ?_⟩
      rw [List.mem_singleton.mp hb] at e
      rw [e] at ha
      exact hm ha
    · rw [List.map_append, List.mem_append, List.mem_append, h3]
      rfl
theorem KeyOk.len {kvs : List (Key × V)} {F : List Nat} (h : KeyOk kvs F) (hlo : Lo F) : kvs.length < 64 := by
  obtain ⟨ks, h1, h2, h3⟩ := h.ex
  have e : kvs.length = ks.length := by
    have := congrArg List.length h1
    rw [List.length_map, List.length_map] at this
    exact this
  rw [e]
  exact lo_len hlo h2 h3
theorem small64 {n : Nat} (h : n < 64) : n < sizeLine := by rw [sizeLine_eq]; omega
/-! ### variables_of -/
def spVarsOf (K : PySem.W.Frag) : Sp := fun vs H Q _ => ∃ (v : V) (N : Nat) (g : Gr), vs = [v] ∧ Dp K H v g.D ∧ GrB N g ∧ ∀ z H', Same H H' → Dp K H' z (nsD (occ g)) → Q z H'
theorem lo_mono {a b : List Nat} (h : Lo b) (e : ∀ n ∈ a, n ∈ b) : Lo a := fun n hn => h n (e n hn)
theorem perm_sorted {ys ks : List Int} (hp : ys.Perm ks) (hs : ys.Pairwise (· ≤ ·)) (hn : ks.Nodup) : ys.Pairwise (· < ·) := by
  have hn2 : ys.Nodup := hp.nodup_iff.mpr hn
  exact List.Pairwise.imp₂ (fun a b h1 h2 => by
    have h2 : a ≠ b := h2
    omega) hs hn2
section
variable {P : Program} {w : World} {K : PySem.W.Frag} {mg : Str → Option Value} {base : Heap}
set_option pp.maxSteps 600 in
theorem c_variables_of (T : Txt w K mg) : Cal P w K mg base "variables_of" 3 ["graph"] (spVarsOf K) := by
  obtain ⟨fd, F⟩ := T.d_variables_of
  have C_used_variables := c_used_variables (P := P) (w := w) (base := base) T
  have C_operands_of_end := c_operands_of_end (P := P) (w := w) (base := base) T
  have C_operands_of := c_operands_of (P := P) (w := w) (base := base) T
  have C_set_by := c_set_by (P := P) (w := w) (base := base) T
  refine ⟨⟨fd, F.ok sc_variables_of (fun vs H Q E h => by repeat (first | (obtain ⟨e, _⟩ := h; subst e; rfl) | (obtain ⟨_, h⟩ := h))) (fun cdv A outer s H vs Q E hr h => ?_), F.bindsN fun _ _ _ _ _ _ us hl => match us, hl with | [_], _ => rfl⟩, T.g _ (by decide), F.kp⟩
  obtain ⟨v, N, g, rfl, hv, hg, q⟩ := h
  have hu := hu_of hr
  have hN := hg.small
  have hlo : Lo g.vars := fun n hn => by
    have := hg.lt n hn
    omega
  refine ⟨_, PSs.nox (pss_cons (ps_set (i := 1) sc_variables_of.nd rfl (.inl rfl) pe_dnewK)
      (pss_cons (ps_for PassesOwn.never rfl (pi_tup (pe_ix (ix_P (K := K) rfl) (pv 0) pe_int (fun _ _ => rfl))) (pg_tupK (K := K) (n := 2) rfl rfl (pgs_cons (pg_name (i := 2) sc_variables_of.nd rfl (.inl rfl)) (pgs_cons (pg_name (i := 3) sc_variables_of.nd rfl (.inl rfl)) pgs_nil))) (pss_cons (ps_for PassesOwn.never rfl (pi_tup (pv 2)) (pg_name (i := 4) sc_variables_of.nd rfl (.inl rfl)) (pss_cons (ps_for PassesOwn.never rfl (pi_tup (pe_cal C_used_variables (hr.mono (by omega)) (by rfl) (pa_cons (pe_cal C_operands_of (hr.mono (by omega)) (by rfl) (pa_cons (pv 4) pa_nil)) pa_nil))) (pg_name (i := 5) sc_variables_of.nd rfl (.inl rfl)) (pss_one (ps_dput hu (pv 1) (pv 5) pe_bl rfl)))
      (pss_one (ps_if (pt_cmpR op_notN (pe_cal C_set_by (hr.mono (by omega)) (by rfl) (pa_cons (pv 4) pa_nil)) pe_non (nomark _)) (pss_one (ps_dput hu (pv 1) (pe_cal C_set_by (hr.mono (by omega)) (by rfl) (pa_cons (pv 4) pa_nil)) pe_bl rfl)) pss_nil))))
      (pss_one (ps_for PassesOwn.never rfl (pi_tup (pe_cal C_used_variables (hr.mono (by omega)) (by rfl) (pa_cons (pe_cal C_operands_of_end (hr.mono (by omega)) (by rfl) (pa_cons (pv 3) pa_nil)) pa_nil))) (pg_name (i := 5) sc_variables_of.nd rfl (.inl rfl)) (pss_one (ps_dput hu (pv 1) (pv 5) pe_bl rfl))))))
      (pss_one (ps_ret (pe_callTy call_tuple_of (by rfl) T.n_tuple (by decide +kernel) (pa_cons (pe_callB (call_sortedDI rfl) (by rfl) T.n_sorted (by decide +kernel) (pa_cons (pv 1) pa_nil)) pa_nil)))))), ?_⟩
  intro a ha
  have s1 := same_new (o := .dK []) ha
  have e1 : (upd H a (.dK [])) a = some (.dK []) := upd_same
  generalize upd H a (.dK []) = H1 at s1 e1 ⊢
  refine ⟨v, rfl, _, 1, _, dp_mono s1 _ _ hv, rfl, rfl, fun zb hzb => ?_⟩
  cases hzb with
  | @tup ab xb _ sqb hab =>
    have hlb := dpAll_len hab
    rw [List.length_map] at hlb
    refine ⟨ab, rfl, ⟨_, sqb⟩, ?_⟩
    have step : ∀ (H4 : Hp) (kvs : List (Key × V)) (F : List Nat) (m : Nat), H4 a = some (.dK kvs) → KeyOk kvs F → Lo F → Same H H4 → DPut H4 a (.int (m : Int)) (.bl true) (upd H4 a (.dK (putK kvs (Sum.inl (m : Int)) (.bl true)))) ∧ Same H (upd H4 a (.dK (putK kvs (Sum.inl (m : Int)) (.bl true)))) ∧ KT H4 (upd H4 a (.dK (putK kvs (Sum.inl (m : Int)) (.bl true)))) := fun H4 kvs F m e4 ko lo s4 =>
      ⟨DPut.k (k := Sum.inl (m : Int)) (v := .bl true) e4 (small64 (ko.len lo)), fun b o e => by rw [upd_ne (ne_of_none e ha)]; exact s4 _ _ e, KT.dK e4⟩
    refine for_tup (xs := xb) (fun i σ H3 => ∃ x2 x3 x4 x5 kvs, σ = [some v, some (.ref a), x2, x3, x4, x5] ∧ H3 a = some (.dK kvs) ∧ KeyOk kvs ((g.blocks.take i).flatMap Blk.vars) ∧ Same H H3 ∧ KT H1 H3) ⟨_, _, _, _, [], rfl, e1, KeyOk.nil, s1, KT.refl _⟩ ?_ ?_ ?_
    · rintro i σ H3 _ ⟨x2, x3, x4, x5, kvs, rfl, _, _, _, k3⟩
      exact sqT_kt k3 sqb
    · rintro i x σ H3 hi ⟨x2, x3, x4, x5, kvs, rfl, e3, ko3, s3, k3⟩
      obtain ⟨b, hb, hx⟩ := dpAll_map_get hab hi
      have hx := dp_kt k3 _ _ (nlB b) hx
      have hbm := List.mem_of_getElem? hb
      have ok := hg.blk b hbm
      have et : (g.blocks.take (i + 1)).flatMap Blk.vars = (g.blocks.take i).flatMap Blk.vars ++ b.vars := by
        rw [List.take_add_one, hb, List.flatMap_append]
        show _ ++ (b.vars ++ []) = _
        rw [List.append_nil]
      have hF0 : Lo ((g.blocks.take i).flatMap Blk.vars) := lo_mono hlo fun n hn => by
        obtain ⟨c, hc, hn⟩ := List.mem_flatMap.mp hn
        exact List.mem_flatMap.mpr ⟨c, List.mem_of_mem_take hc, hn⟩
      have hbv : Lo b.vars := lo_mono hlo fun n hn => List.mem_flatMap.mpr ⟨b, hbm, hn⟩
      have hro : ∀ R ∈ b.rows, Lo R.vars := fun R hR => lo_mono hbv fun n hn => List.mem_append.mpr (.inr (List.mem_flatMap.mpr ⟨R, hR, hn⟩))
      have hso : Lo (opsVars b.stop.ops) := lo_stop ok.stop hN
      rw [et]
      generalize (g.blocks.take i).flatMap Blk.vars = F0 at ko3 hF0
      cases hx with
      | @tup ax xx _ sqx hax =>
        cases hax with
        | @cons y1 d1 ys1 ds1 h1 hax =>
          cases hax with
          | @cons y2 d2 ys2 ds2 h2 hax =>
            cases hax
            refine ⟨ax, _, rfl, sqx, rfl, _, _, rfl, _, _, rfl, rfl, ?_⟩
            cases h1 with
            | @tup ar xr _ sqr har =>
              have hlr := dpAll_len har
              rw [List.length_map] at hlr
              refine ⟨.ref ar, rfl, ar, rfl, ⟨_, sqr⟩, ?_⟩
              refine for_tup (xs := xr) (fun j σ H6 => ∃ x4 x5 kvs, σ = [some v, some (.ref a), some (.ref ar), some y2, x4, x5] ∧ H6 a = some (.dK kvs) ∧ KeyOk kvs (F0 ++ (b.rows.take j).flatMap Rw.vars) ∧ Same H H6 ∧ KT H3 H6) ⟨_, _, kvs, rfl, e3, by rw [List.take_zero]; show KeyOk kvs (F0 ++ []); rw [List.append_nil]; exact ko3, s3, KT.refl _⟩ ?_ ?_ ?_
              · rintro j σ H6 _ ⟨x4, x5, kvs, rfl, _, _, _, k6⟩
                exact sqT_kt k6 sqr
              · rintro j x σ H6 hj ⟨x4, x5, kvs, rfl, e6, ko6, s6, k6⟩
                obtain ⟨R, hR, hxr⟩ := dpAll_map_get har hj
                have hxr := dp_kt k6 _ _ (nlR R) hxr
                have hRm := List.mem_of_getElem? hR
                have okR := ok.rows R hRm
                have hrv := hro R hRm
                have et2 : (b.rows.take (j + 1)).flatMap Rw.vars = (b.rows.take j).flatMap Rw.vars ++ R.vars := by
                  rw [List.take_add_one, hR, List.flatMap_append]
                  show _ ++ (R.vars ++ []) = _
                  rw [List.append_nil]
                have hF1 : Lo (F0 ++ (b.rows.take j).flatMap Rw.vars) := hF0.app (lo_mono hbv fun n hn => by
                  obtain ⟨c, hc, hn⟩ := List.mem_flatMap.mp hn
                  exact List.mem_append.mpr (.inr (List.mem_flatMap.mpr ⟨c, List.mem_of_mem_take hc, hn⟩)))
                rw [et2, ← List.append_assoc]
                generalize F0 ++ (b.rows.take j).flatMap Rw.vars = F1 at ko6 hF1
                have hrl := RwOk.len okR
                have hoo := lo_ops okR hN
                refine ⟨x, rfl, x, R, rfl, hxr, by omega, fun z7 H7 s7 h7 => ⟨_, _, rfl, h7, by omega, hoo, fun z8 H8 s8 h8 => ?_⟩⟩
                have s68 := s7.trans s8
                cases h8 with
                | @tup a8 x8 _ sq8 ha8 =>
                  have e8 := dpAll_nV ha8
                  subst e8
                  refine ⟨a8, rfl, ⟨_, sq8⟩, ?_⟩
                  refine for_tup (xs := (srt (opsVars R.ops)).map nV) (fun l σ H9 => ∃ x5 kvs, σ = [some v, some (.ref a), some (.ref ar), some y2, some x, x5] ∧ H9 a = some (.dK kvs) ∧ KeyOk kvs (F1 ++ (srt (opsVars R.ops)).take l) ∧ Same H H9 ∧ KT H8 H9) ⟨_, kvs, rfl, s68 _ _ e6, by rw [List.take_zero, List.append_nil]; exact ko6, s6.trans s68, KT.refl _⟩ ?_ ?_ ?_
                  · rintro l σ H9 _ ⟨x5, kvs, rfl, _, _, _, k9⟩
                    exact sqT_kt k9 sq8
                  · rintro l y σ H9 hl ⟨x5, kvs, rfl, e9, ko9, s9, k9⟩
                    rw [List.getElem?_map] at hl
                    obtain ⟨m, hm, rfl⟩ := Option.map_eq_some_iff.mp hl
                    obtain ⟨t1, t2, t3⟩ := step H9 kvs _ m e9 ko9 (hF1.app (lo_mono (lo_srt _) fun n hn => List.mem_of_mem_take hn)) s9
                    refine ⟨.ref a, rfl, _, rfl, a, _, rfl, t1, _, _, rfl, upd_same, ?_, t2, k9.trans t3⟩
                    rw [List.take_add_one, hm, ← List.append_assoc]
                    exact ko9.put m _
                  · rintro σ H9 ⟨x5, kvs, rfl, e9, ko9, s9, k9⟩
                    rw [List.length_map, List.take_length] at ko9
                    have hF2 : Lo (F1 ++ srt (opsVars R.ops)) := hF1.app (lo_srt _)
                    have k69 := (KT.of s68).trans k9
                    have hx9 := dp_kt k69 _ _ (nlR R) hxr
                    refine ⟨x, rfl, x, R, rfl, hx9, rfl, _, rfl, ?_⟩
                    cases hset : R.set with
                    | none =>
                      refine iteF ⟨_, _, kvs, rfl, e9, ko9.congr fun n => ?_, s9, k6.trans k69⟩
                      rw [List.mem_append, List.mem_append, mem_srt hoo, Rw.vars, hset]
                      simp
                    | some m =>
                      obtain ⟨t1, t2, t3⟩ := step H9 kvs _ m e9 ko9 hF2 s9
                      refine iteT ⟨.ref a, rfl, x, rfl, x, R, rfl, hx9, a, _, rfl, ?_, _, _, _, rfl, upd_same, (ko9.put m _).congr fun n => ?_, t2, k6.trans (k69.trans t3)⟩
                      · rw [hset]
                        exact t1
                      · rw [List.mem_append, List.mem_append, List.mem_append, mem_srt hoo, Rw.vars, hset, List.mem_append, or_assoc]
                        rfl
              · rintro σ H6 ⟨x4, x5, kvs, rfl, e6, ko6, s6, k6⟩
                rw [hlr, List.take_length] at ko6
                have hF1 : Lo (F0 ++ b.rows.flatMap Rw.vars) := hF0.app (lo_mono hbv fun n hn => List.mem_append.mpr (.inr hn))
                refine ⟨y2, rfl, y2, b.stop, rfl, dp_kt k6 _ _ (nlE b.stop) h2, fun z7 H7 s7 h7 => ⟨_, _, rfl, h7, by have := stp_ops b.stop; omega, hso, fun z8 H8 s8 h8 => ?_⟩⟩
                have s68 := s7.trans s8
                cases h8 with
                | @tup a8 x8 _ sq8 ha8 =>
                  have e8 := dpAll_nV ha8
                  subst e8
                  refine ⟨a8, rfl, ⟨_, sq8⟩, ?_⟩
                  refine for_tup (xs := (srt (opsVars b.stop.ops)).map nV) (fun l σ H9 => ∃ x5 kvs, σ = [some v, some (.ref a), some (.ref ar), some y2, x4, x5] ∧ H9 a = some (.dK kvs) ∧ KeyOk kvs (F0 ++ b.rows.flatMap Rw.vars ++ (srt (opsVars b.stop.ops)).take l) ∧ Same H H9 ∧ KT H8 H9) ⟨_, kvs, rfl, s68 _ _ e6, by rw [List.take_zero, List.append_nil]; exact ko6, s6.trans s68, KT.refl _⟩ ?_ ?_ ?_
                  · rintro l σ H9 _ ⟨x5, kvs, rfl, _, _, _, k9⟩
                    exact sqT_kt k9 sq8
                  · rintro l y σ H9 hl ⟨x5, kvs, rfl, e9, ko9, s9, k9⟩
                    rw [List.getElem?_map] at hl
                    obtain ⟨m, hm, rfl⟩ := Option.map_eq_some_iff.mp hl
                    obtain ⟨t1, t2, t3⟩ := step H9 kvs _ m e9 ko9 (hF1.app (lo_mono (lo_srt _) fun n hn => List.mem_of_mem_take hn)) s9
                    refine ⟨.ref a, rfl, _, rfl, a, _, rfl, t1, _, _, rfl, upd_same, ?_, t2, k9.trans t3⟩
                    rw [List.take_add_one, hm, ← List.append_assoc]
                    exact ko9.put m _
                  · rintro σ H9 ⟨x5, kvs, rfl, e9, ko9, s9, k9⟩
                    rw [List.length_map, List.take_length] at ko9
                    refine ⟨_, _, _, _, kvs, rfl, e9, ko9.congr fun n => ?_, s9, k3.trans (k6.trans ((KT.of s68).trans k9))⟩
                    rw [List.mem_append, List.mem_append, List.mem_append, mem_srt hso, Blk.vars, List.mem_append, or_assoc, or_comm (a := n ∈ b.rows.flatMap Rw.vars)]
    · rintro σ H3 ⟨x2, x3, x4, x5, kvs, rfl, e3, ko3, s3, k3⟩
      rw [hlb, List.take_length] at ko3
      obtain ⟨ks, g1, g2, g3⟩ := ko3.ex
      refine ⟨.ref a, rfl, a, kvs, ks, rfl, .inl e3, g1, lo_len hlo g2 g3, fun ys p hp hsort hpn => ⟨p, _, rfl, .inl ⟨.inl (.inl upd_same), fun p2 hp2 => ?_⟩⟩⟩
      have e : ys = (occ g).map iN := srt_of hlo (perm_sorted hp hsort g2) fun k => (hp.mem_iff).trans (g3 k)
      rw [e, ints_nats]
      rw [e, ints_nats] at hp2
      exact q _ _ (s3.trans ((same_new hpn).trans (same_new hp2))) (nsD_new _ hp2)
end
end K51

set_option maxHeartbeats 4000000
/-! HSL: len of a set of ints; how many distinct ones. -/
namespace HG
open PySem PySem.Spec PyProof.Rows L2
def rLenSetO (w : World) : List V → Hp → VK → Prop := fun xs H Q => ∃ (p : Addr) (S : Int → Bool) (n : Nat), xs = [V.ref p] ∧ H p = some (SetO w p S n) ∧ Q (.int (n : Int)) H
theorem call_lenSetO {X : Cx} : CallR X (.builtin "len") (rLenSetO X.w) := by
  intro pins s σ H xs us Q I r h
  obtain ⟨p, S, n, rfl, hp, q⟩ := h
  rw [Vals.ref1 r]
  obtain ⟨o, es, ep, t, ho, hex, hd, _, _, _, hsz, hf, hn, _⟩ := setO_get I hp
  exact call_len_set ho hex hd hf (by unfold scanBound at hsz; omega) ⟨.int n, H, I.tok _, ⟨_, by rw [hn]⟩, q⟩
theorem nodup_subG {α : Type} [DecidableEq α] : ∀ {l t : List α}, l.Nodup → (∀ x ∈ l, x ∈ t) → l.length ≤ t.length
  | [], _, _, _ => Nat.zero_le _
  | x :: l, t, hn, h => by
    have hn := List.nodup_cons.mp hn
    have ih := nodup_subG (l := l) (t := t.erase x) hn.2 fun y hy => by
      refine (List.mem_erase_of_ne fun e => ?_).mpr (h y (List.mem_cons_of_mem _ hy))
      subst e
      exact hn.1 hy
    have hx := h x List.mem_cons_self
    rw [List.length_erase_of_mem hx] at ih
    have := List.length_pos_of_mem hx
    rw [List.length_cons]
    omega
theorem distinct_len {ks ns : List Int} (hk : ks.Nodup) (hm : ∀ k, k ∈ ks ↔ k ∈ ns) : ks.length ≤ ns.length ∧ (ks.length = ns.length ↔ ns.Nodup) := by
  refine ⟨nodup_subG hk fun x hx => (hm x).mp hx, fun he => ?_, fun hn => Nat.le_antisymm (nodup_subG hk fun x hx => (hm x).mp hx) (nodup_subG hn fun x hx => (hm x).mpr hx)⟩
  rw [List.nodup_iff_count]
  intro a
  refine Classical.byContradiction fun hc => ?_
  have h2 : 2 ≤ ns.count a := by omega
  have ha : a ∈ ns := List.count_pos_iff.mp (by omega)
  have hsub : ∀ x ∈ ks, x ∈ ns.erase a := fun x hx => by
    by_cases e : x = a
    · subst e
      refine List.count_pos_iff.mp ?_
      rw [List.count_erase_self]
      omega
    · exact (List.mem_erase_of_ne e).mpr ((hm x).mp hx)
  have h3 := nodup_subG hk hsub
  rw [List.length_erase_of_mem ha] at h3
  have := List.length_pos_of_mem ha
  omega
end HG

set_option maxHeartbeats 4000000
namespace K51
open PySem PySem.Spec PyProof.Rows L2 HG P52 P51
def spVarCount (K : PySem.W.Frag) : Sp := fun vs H Q _ => ∃ (v : V) (N : Nat) (g : Gr), vs = [v] ∧ Dp K H v g.D ∧ GrB N g ∧ ∀ H', Same H H' → Q (nV (cnt g)) H'
theorem lo_vars {N : Nat} {g : Gr} (hg : GrB N g) : Lo g.vars := fun n hn => by
  have := hg.lt n hn
  have := hg.small
  omega
def spNeeded (K : PySem.W.Frag) : Sp := fun vs H Q _ => ∃ (v u : V) (N : Nat) (g : Gr) (ks : List Nat), vs = [v, u] ∧ Dp K H v g.D ∧ GrB N g ∧ Dp K H u (nsD ks) ∧ ks.length ≤ 10 ∧
  ∀ p H', H p = none → Same H H' → H' p = some (.lst ((nd ks (occ g)).map nV)) → Q (.ref p) H'
section
variable {P : Program} {w : World} {K : PySem.W.Frag} {mg : Str → Option Value} {base : Heap}
set_option pp.maxSteps 600 in
theorem c_variable_count (T : Txt w K mg) : Cal P w K mg base "variable_count" 4 ["graph"] (spVarCount K) := by
  obtain ⟨fd, F⟩ := T.d_variable_count
  have C_variables_of := c_variables_of (P := P) (w := w) (base := base) T
  refine ⟨⟨fd, F.ok sc_variable_count (fun vs H Q E h => by repeat (first | (obtain ⟨e, _⟩ := h; subst e; rfl) | (obtain ⟨_, h⟩ := h))) (fun cdv A outer s H vs Q E hr h => ?_), F.bindsN fun _ _ _ _ _ _ us hl => match us, hl with | [_], _ => rfl⟩, T.g _ (by decide), F.kp⟩
  obtain ⟨v, N, g, rfl, hv, hg, q⟩ := h
  refine ⟨_, PSs.nox (pss_one (ps_ret (pe_callB (call_max2 rfl) (by rfl) T.n_max (by decide +kernel) (pa_cons (pe_ix (ix_P (K := K) rfl) (pv 0) pe_int (fun _ _ => rfl)) (pa_cons (pe_op op_add (pe_callBK (cr_maxDef rfl hr.units) (by rfl) T.n_max (by decide +kernel) (pa_cons (pe_cal C_variables_of (hr.mono (by omega)) (by rfl) (pa_cons (pv 0) pa_nil)) pa_nil) (pk_cons (pe_un un_neg pe_int) pk_nil)) pe_int) pa_nil))))), ?_⟩
  refine ⟨v, rfl, _, 0, _, hv, rfl, rfl, fun z hz => ?_⟩
  cases hz
  refine ⟨v, rfl, v, N, g, rfl, hv, hg, fun z1 H1 s1 h1 => ?_⟩
  cases h1 with
  | @tup a1 x1 _ sq1 ha1 =>
    have e1 := dpAll_nV ha1
    subst e1
    rw [← ints_nats] at sq1
    have hmem : ∀ x : Int, x ∈ (occ g).map iN ↔ ∃ n ∈ occ g, x = (n : Int) := fun x => by
      rw [List.mem_map]
      exact ⟨fun ⟨n, hn, e⟩ => ⟨n, hn, e.symm⟩, fun ⟨n, hn, e⟩ => ⟨n, hn, e.symm⟩⟩
    have fin : ∀ m : Int, -1 ≤ m → (∀ n ∈ occ g, (n : Int) ≤ m) → (m = -1 ∨ ∃ n ∈ occ g, m = (n : Int)) → (if m + 1 > (g.count : Int) then m + 1 else (g.count : Int)) = ((cnt g : Nat) : Int) := fun m h1 h2 h3 => by
      obtain ⟨M, hM⟩ : ∃ M : Nat, (M : Int) = if m + 1 > (g.count : Int) then m + 1 else (g.count : Int) := by
        by_cases h : m + 1 > (g.count : Int)
        · rw [if_pos h]
          exact ⟨(m + 1).toNat, by omega⟩
        · rw [if_neg h]
          exact ⟨g.count, rfl⟩
      rw [← hM]
      congr 1
      refine cnt_of ?_ (fun n hn => ?_) ?_
      · split at hM <;> omega
      · have := h2 n hn
        split at hM <;> omega
      · split at hM
        · rcases h3 with h3 | ⟨n, hn, h3⟩
          · omega
          · exact .inr ⟨n, hn, by omega⟩
        · exact .inl (by omega)
    refine ⟨1, rfl, a1, (occ g).map iN, .int (-1), rfl, rfl, sq1, fun he => ⟨_, _, rfl, rfl, _, _, rfl, ?_⟩, fun m hm hmax => ⟨_, _, rfl, rfl, _, _, rfl, ?_⟩⟩
    · have e := fin (-1) (by omega) (fun n hn => by
        have := List.map_eq_nil_iff.mp he
        rw [this] at hn
        cases hn) (.inl rfl)
      rw [e]
      exact q H1 s1
    · obtain ⟨n, hn, rfl⟩ := (hmem m).mp hm
      have e := fin (n : Int) (by omega) (fun k hk => hmax _ ((hmem _).mpr ⟨k, hk, rfl⟩)) (.inr ⟨n, hn, rfl⟩)
      rw [e]
      exact q H1 s1
set_option pp.maxSteps 600 in
theorem c_needed_variables (T : Txt w K mg) : Cal P w K mg base "needed_variables" 4 ["graph", "kept"] (spNeeded K) := by
  obtain ⟨fd, F⟩ := T.d_needed_variables
  have C_variables_of := c_variables_of (P := P) (w := w) (base := base) T
  refine ⟨⟨fd, F.ok sc_needed_variables (fun vs H Q E h => by repeat (first | (obtain ⟨e, _⟩ := h; subst e; rfl) | (obtain ⟨_, h⟩ := h))) (fun cdv A outer s H vs Q E hr h => ?_), F.bindsN fun _ _ _ _ _ _ us hl => match us, hl with | [_, _], _ => rfl⟩, T.g _ (by decide), F.kp⟩
  obtain ⟨v, u, N, g, ks, rfl, hv, hg, hu, hkl, q⟩ := h
  refine ⟨_, PSs.nox (pss_one (ps_ret (pe_op op_cat (pe_callTy call_list_of (by rfl) T.n_list (by decide +kernel) (pa_cons (pv 1) pa_nil)) (pe_lc (own := [("v", 2)]) (by rfl) sc_needed_variables.nd (pi_tup (pe_cal C_variables_of (hr.mono (by omega)) (by rfl) (pa_cons (pv 0) pa_nil))) (blkOk_by (own := [("v", 2)]) (N := N_needed_variables) (sc := defScope s_needed_variables) (by decide +kernel)) (fun _ _ _ _ _ => (pg_name (i := 2) sc_needed_variables.nd rfl (.inl rfl))) (fun _ _ _ _ _ => pts_one (pt_cmpR (op_notIn_seqK (K := K) rfl) (pv 2) (pv 1) (by rfl))) (fun _ _ _ _ _ => (pv 2)))))), ?_⟩
  have hol := srt_len g.vars
  cases hu with
  | @tup au xu _ squ hau =>
    have eu := dpAll_nV hau
    subst eu
    refine ⟨.ref au, rfl, au, _, rfl, .inr squ, fun l1 hl1 => ?_⟩
    have s1 := same_new (o := .lst (ks.map nV)) hl1
    have e1 : (upd H l1 (.lst (ks.map nV))) l1 = some (.lst (ks.map nV)) := upd_same
    generalize upd H l1 (.lst (ks.map nV)) = H1 at s1 e1 ⊢
    refine ⟨v, rfl, v, N, g, rfl, dp_mono s1 _ _ hv, hg, fun z2 H2 s2 h2 => ?_⟩
    cases h2 with
    | @tup a2 x2 _ sq2 ha2 =>
      have e2 := dpAll_nV ha2
      subst e2
      refine ⟨a2, rfl, ⟨_, sq2⟩, fun D hD => ?_⟩
      have s02 := s1.trans s2
      refine lc_tup (xs := (occ g).map nV) (fun i H4 => H4 D = some (.lst ((((occ g).take i).filter fun v => !decide (v ∈ ks)).map nV)) ∧ Same H2 H4) ⟨upd_same, same_new hD⟩ ?_ ?_ ?_
      · rintro i H4 _ ⟨_, s4⟩
        exact sqT_same s4 sq2
      · rintro i x H4 hi ⟨h4, s4⟩
        rw [List.getElem?_map] at hi
        obtain ⟨m, hm, rfl⟩ := Option.map_eq_some_iff.mp hi
        refine ⟨rfl, _, rfl, _, rfl, au, _, rfl, .inr (sqT_same (s02.trans s4) squ), rfl, flat_nats _, _, rfl, ?_⟩
        show if (!inV (nV m) (ks.map nV)) = true then _ else _
        rw [in_nats, filter_snoc hm]
        cases hb : !decide (m ∈ ks) with
        | false =>
          refine iteF ⟨?_, s4⟩
          rw [if_neg Bool.false_ne_true, List.append_nil]
          exact h4
        | true =>
          refine iteT ⟨_, rfl, _, h4, ?_, ?_, fun b' o' e' => ?_⟩
          · rw [List.length_map]
            have := List.length_filter_le (fun v => !decide (v ∈ ks)) ((occ g).take i)
            rw [List.length_take] at this
            exact small_line (by show _ ≤ 1000000; have h9 : (occ g).length ≤ 16 := hol; omega)
          · rw [upd_same, if_pos rfl, List.map_append]
            rfl
          · rw [upd_ne (ne_of_none e' hD)]
            exact s4 _ _ e'
      rintro H4 ⟨h4, s4⟩
      rw [List.length_map, List.take_length] at h4
      have hfl := List.length_filter_le (fun v => !decide (v ∈ ks)) (occ g)
      have h9 : (occ g).length ≤ 16 := hol
      refine ⟨l1, D, _, _, rfl, rfl, (s2.trans s4) _ _ e1, h4, by rw [List.length_map, List.length_map, sizeLine_eq]; omega, fun p5 hp5 => ?_⟩
      have s04 := s02.trans s4
      refine q p5 _ (none_same s04 hp5) (s04.trans (same_new hp5)) ?_
      rw [upd_same, ← List.map_append]
      rfl
def spIsInt (K : PySem.W.Frag) : Sp := fun vs H Q _ => ∃ (v : V) (D : PyData), vs = [v] ∧ Dp K H v D ∧ Q (.bl (isI D && !isB D)) H
set_option pp.maxSteps 600 in
theorem c_is_integer (T : Txt w K mg) : Cal P w K mg base "is_integer" 1 ["thing"] (spIsInt K) := by
  obtain ⟨fd, F⟩ := T.d_is_integer
  refine ⟨⟨fd, F.ok sc_is_integer (fun vs H Q E h => by repeat (first | (obtain ⟨e, _⟩ := h; subst e; rfl) | (obtain ⟨_, h⟩ := h))) (fun cdv A outer s H vs Q E hr h => ?_), F.bindsN fun _ _ _ _ _ _ us hl => match us, hl with | [_], _ => rfl⟩, T.g _ (by decide), F.kp⟩
  obtain ⟨v, D, rfl, hv, q⟩ := h
  refine ⟨_, PSs.nox (pss_one (ps_ret (pe_and (pe_callB (isiK (K := K) rfl) (by rfl) T.n_isinstance (by decide +kernel) (pa_cons (pv 0) (pa_cons (pe_bltn (v := .ty "int") (u := .type "int") (by rfl) T.n_int (by decide +kernel) rfl) pa_nil))) (pe_one (pe_not (pe_callB (isiK (K := K) rfl) (by rfl) T.n_isinstance (by decide +kernel) (pa_cons (pv 0) (pa_cons (pe_bltn (v := .ty "bool") (u := .type "bool") (by rfl) T.n_bool (by decide +kernel) rfl) pa_nil)))))))), ?_⟩
  refine ⟨v, rfl, v, .ty "int", _, _, _, rfl, .ty _, dp_ty hv, kit_ty (kit_int D), _, rfl, ?_⟩
  cases h1 : isI D with
  | true =>
    rw [h1] at q
    exact iteT ⟨v, rfl, v, .ty "bool", _, _, _, rfl, .ty _, dp_ty hv, kit_ty (kit_bool D), _, rfl, q⟩
  | false =>
    rw [h1] at q
    exact iteF q
end
end K51

set_option maxHeartbeats 4000000
namespace K51
open PySem PySem.Spec PyProof.Rows L2 HG P52 P51
def spIsAs (K : PySem.W.Frag) : Sp := fun vs H Q _ => ∃ (v u t : V) (N : Nat) (g : Gr) (ks : List Nat) (cl : List (List Nat)) (D : PyData), vs = [v, u, t] ∧ Dp K H v g.D ∧ GrB N g ∧ Dp K H u (nsD ks) ∧ ks.length ≤ 10 ∧ (∀ k ∈ ks, k < g.count) ∧ Dp K H t D ∧ Fx g cl ∧ Bw g cl ∧
  ∀ H', Same H H' → Q (.bl (valid g ks (apartG g cl) D)) H'
theorem in_need (ks vs : List Nat) (i : Nat) : inV (nV i) ((nd ks vs).map nV) = need ks vs i := by
  rw [in_nats]
  unfold need
  rw [Bool.eq_iff_iff, decide_eq_true_eq, Bool.or_eq_true, decide_eq_true_eq, decide_eq_true_eq]
  exact mem_nd
theorem valid_no {g : Gr} {ks : List Nat} {ps : List (Nat × Nat)} {S : List PyData} {i : Nat} (hi : i < S.length) (h : okS (need ks (occ g) i) (S.getD i .none) = false) : valid g ks ps (.tuple S) = false := by
  have e : allS ks (occ g) S = false := by
    unfold allS
    rw [List.all_eq_false]
    exact ⟨i, List.mem_range.mpr hi, by rw [h]; exact Bool.false_ne_true⟩
  show (decide (S.length = cnt g) && (allS ks (occ g) S && _)) = false
  rw [e, Bool.false_and, Bool.and_false]
theorem allS_of {ks vs : List Nat} {S : List PyData} (h : ∀ j, j < S.length → okS (need ks vs j) (S.getD j .none) = true) : allS ks vs S = true := by
  unfold allS
  rw [List.all_eq_true]
  exact fun j hj => h j (List.mem_range.mp hj)
theorem int_eqV (a b : Int) : decide (V.int a = V.int b) = decide (a = b) := by
  by_cases h : a = b
  · subst h; rw [decide_eq_true rfl, decide_eq_true rfl]
  · rw [decide_eq_false h, decide_eq_false (fun e => h (by injection e))]
theorem getD_at {S : List PyData} {i : Nat} {d : PyData} (h : S[i]? = some d) : S.getD i .none = d := by
  rw [List.getD_eq_getElem?_getD, h]
  rfl
theorem ofInt {K : PySem.W.Frag} {H : Hp} {z : V} {i : Int} (h : Dp K H z (.int i)) : z = .int i := by cases h; rfl
theorem isNon_of {d : PyData} (h : isNon d = false) {K : PySem.W.Frag} {H : Hp} {z : V} (hz : Dp K H z d) : decide (z = .non) = false := by
  cases hz <;> first | rfl | cases h
section
variable {P : Program} {w : World} {K : PySem.W.Frag} {mg : Str → Option Value} {base : Heap}
set_option pp.maxSteps 600 in
theorem c_is_assignment (T : Txt w K mg) : Cal P w K mg base "is_assignment" 7 ["graph", "kept", "thing"] (spIsAs K) := by
  obtain ⟨fd, F⟩ := T.d_is_assignment
  have C_needed_variables := c_needed_variables (P := P) (w := w) (base := base) T
  have C_variable_count := c_variable_count (P := P) (w := w) (base := base) T
  have C_apart := c_apart (P := P) (w := w) (base := base) T
  have C_is_integer := c_is_integer (P := P) (w := w) (base := base) T
  refine ⟨⟨fd, F.ok sc_is_assignment (fun vs H Q E h => by repeat (first | (obtain ⟨e, _⟩ := h; subst e; rfl) | (obtain ⟨_, h⟩ := h))) (fun cdv A outer s H vs Q E hr h => ?_), F.bindsN fun _ _ _ _ _ _ us hl => match us, hl with | [_, _, _], _ => rfl⟩, T.g _ (by decide), F.kp⟩
  obtain ⟨v, u, t, N, g, ks, cl, D, rfl, hv, hg, hu, hkl, hkc, ht, hfx, hbw, q⟩ := h
  refine ⟨_, PSs.nox (pss_cons (ps_if (PW.pt (pw_or (pt_not (pt_val (pe_callB (isiK (K := K) rfl) (by rfl) T.n_isinstance (by decide +kernel) (pa_cons (pv 2) (pa_cons (pe_bltn (v := .ty "tuple") (u := .type "tuple") (by rfl) T.n_tuple (by decide +kernel) rfl) pa_nil))))) (pw_or1 (pt_cmpR op_ne (pe_callB (lenK (K := K) rfl) (by rfl) T.n_len (by decide +kernel) (pa_cons (pv 2) pa_nil)) (pe_cal C_variable_count (hr.mono (by omega)) (by rfl) (pa_cons (pv 0) pa_nil)) (nomark _))))) (pss_one (ps_ret pe_bl)) pss_nil)
      (pss_cons (ps_set (i := 3) sc_is_assignment.nd rfl (.inl rfl) (pe_cal C_needed_variables (hr.mono (by omega)) (by rfl) (pa_cons (pv 0) (pa_cons (pv 1) pa_nil))))
      (pss_cons (ps_for PassesOwn.never rfl (pi_enumT (by rfl) T.n_enumerate (pa_cons (pv 2) pa_nil)) (pg_tupK (K := K) (n := 2) rfl rfl (pgs_cons (pg_name (i := 4) sc_is_assignment.nd rfl (.inl rfl)) (pgs_cons (pg_name (i := 5) sc_is_assignment.nd rfl (.inl rfl)) pgs_nil))) (pss_one (ps_if (PW.pt (pw_or (PW.pt (pw_and (pt_cmpR (op_in_seqK (K := K) rfl) (pv 4) (pv 3) (by rfl)) (pw_and1 (pt_not (PW.pt (pw_and (pt_val (pe_cal C_is_integer (hr.mono (by omega)) (by rfl) (pa_cons (pv 5) pa_nil))) (pw_and1 (pt_cmpR op_ge (pv 5) pe_int (nomark _))))))))) (pw_or1 (PW.pt (pw_and (pt_cmpR (op_notIn_seqK (K := K) rfl) (pv 4) (pv 3) (by rfl)) (pw_and1 (pt_cmpR op_notN (pv 5) pe_non (nomark _)))))))) (pss_one (ps_ret pe_bl)) pss_nil)))
      (pss_cons (ps_setLc (i := 6) (own := [("v", 4)]) (by rfl) sc_is_assignment.nd rfl rfl (sw_true rfl rfl rfl (by decide +kernel)) (pi_tup (pv 1)) (blkOk_by (own := [("v", 4)]) (N := N_is_assignment) (sc := defScope s_is_assignment) (by decide +kernel)) (fun _ _ _ _ _ => (pg_name (i := 4) sc_is_assignment.nd rfl (.inl rfl))) (fun _ _ _ _ _ => pts_nil) (fun _ _ _ _ _ => (pe_ix (ix_P (K := K) rfl) (pv 2) (pv 4) (fun _ _ => rfl))))
      (pss_cons (ps_if (pt_cmpR op_lt (pe_callB call_lenSetO (by rfl) T.n_len (by decide +kernel) (pa_cons (pe_callTy (cr_setLI rfl) (by rfl) T.n_set (by decide +kernel) (pa_cons (pv 6) pa_nil)) pa_nil)) (pe_callB (lenK (K := K) rfl) (by rfl) T.n_len (by decide +kernel) (pa_cons (pv 6) pa_nil)) (nomark _)) (pss_one (ps_ret pe_bl)) pss_nil)
      (pss_one (ps_ret (pe_callB (cr_all rfl) (by rfl) T.n_all (by decide +kernel) (pa_cons (pe_lc (own := [("v", 4), ("w", 7)]) (by rfl) sc_is_assignment.nd (pi_list (pe_cal C_apart (hr.mono (by omega)) (by rfl) (pa_cons (pv 0) pa_nil))) (blkOk_by (own := [("v", 4), ("w", 7)]) (N := N_is_assignment) (sc := defScope s_is_assignment) (by decide +kernel)) (fun _ _ _ _ _ => (pg_tupK (K := K) (n := 2) rfl rfl (pgs_cons (pg_name (i := 4) sc_is_assignment.nd rfl (.inl rfl)) (pgs_cons (pg_name (i := 7) sc_is_assignment.nd rfl (.inl rfl)) pgs_nil)))) (fun _ _ _ _ _ => pts_nil) (fun _ _ _ _ _ => (pe_cmpR op_ne (pe_ix (ix_P (K := K) rfl) (pv 2) (pv 4) (fun _ _ => rfl)) (pe_ix (ix_P (K := K) rfl) (pv 2) (pv 7) (fun _ _ => rfl)) (nomark _)))) pa_nil))))))))), ?_⟩
  refine ⟨t, rfl, t, .ty "tuple", _, _, _, rfl, .ty _, dp_ty ht, kit_ty (kit_tuple D), _, rfl, ?_⟩
  have notT : isT D = false → valid g ks (apartG g cl) D = false := fun h => by cases D <;> first | rfl | cases h
  cases hT : isT D with
  | false =>
    rw [notT hT] at q
    exact iteT (iteT (q H (Same.refl _)))
  | true =>
    obtain ⟨S, rfl⟩ : ∃ S, D = .tuple S := by cases D <;> first | exact ⟨_, rfl⟩ | cases hT
    have hlv : LenV K t H S.length := by
      cases ht with
      | tup sq ha => exact .inr ⟨_, sq, (dpAll_len ha).symm⟩
    refine iteF ⟨t, rfl, t, _, rfl, hlv, v, rfl, v, N, g, rfl, hv, hg, fun H1 s1 => ⟨rfl, _, rfl, ?_⟩⟩
    rw [len_eq]
    by_cases hc : S.length = cnt g
    · rw [decide_eq_true hc]
      refine iteF ⟨v, rfl, u, rfl, v, u, N, g, ks, rfl, dp_mono s1 _ _ hv, hg, dp_mono s1 _ _ hu, hkl, fun p2 H2 hp2 s2 h2 => ?_⟩
      have s02 := s1.trans s2
      have ht2 := dp_mono s02 _ _ ht
      cases ht2 with
      | @tup at0 xt _ sqt hat =>
        have hlt := dpAll_len hat
        refine ⟨_, rfl, at0, _, rfl, sqt, ?_⟩
        refine for_it (walk_enumT (xs := xt)) (fun i σ H5 => ∃ x4 x5, σ = [some v, some u, some (.ref at0), some (.ref p2), x4, x5, none, none] ∧ Same H2 H5 ∧ ∀ j, j < i → okS (need ks (occ g) j) (S.getD j .none) = true) ⟨_, _, rfl, Same.refl _, fun j hj => absurd hj (Nat.not_lt_zero _)⟩ ?_ ?_ ?_
        · rintro i σ H5 _ ⟨x4, x5, rfl, s5, _⟩
          exact sqT_same s5 sqt
        · rintro i x σ H5 H6 hi ⟨x4, x5, rfl, s5, hall⟩ ⟨T1, y1, y2, rfl, hT1, rfl, e1, e2⟩
          injection e1 with e1
          subst e1
          have hiS : i < S.length := by omega
          obtain ⟨d, hd, hy⟩ := dpAll_get hat e2
          have eD := getD_at hd
          have s6 := s5.trans (same_new (o := .tup [.int (i : Nat), y2]) hT1)
          have hy := dp_mono s6 _ _ hy
          have h26 := s6 _ _ h2
          refine ⟨T1, _, rfl, .inl (.inl upd_same), rfl, _, _, rfl, _, _, rfl, rfl, ?_⟩
          generalize upd H5 T1 (.tup [.int (i : Nat), y2]) = H6 at s6 hy h26 ⊢
          have no : okS (need ks (occ g) i) d = false → Q (.bl false) H6 := fun h => by
            rw [← eD] at h
            have := q H6 (s02.trans s6)
            rw [valid_no hiS h] at this
            exact this
          have yes : okS (need ks (occ g) i) d = true → ∀ j, j < i + 1 → okS (need ks (occ g) j) (S.getD j .none) = true := fun h j hj => by
            by_cases e : j = i
            · subst e
              rw [eD]
              exact h
            · exact hall j (by omega)
          refine ⟨_, rfl, _, rfl, p2, _, rfl, .inl (.inl (.inl h26)), rfl, flat_nats _, _, rfl, ?_⟩
          show if inV (nV i) ((nd ks (occ g)).map nV) = true then _ else _
          rw [in_need]
          have second : ∀ {A B : Prop}, (need ks (occ g) i = false → isNon d = false → A) → (need ks (occ g) i = true ∨ isNon d = true → B) → tAnd (tTest (tOp (rIn K true) (tVar 4) (tVar 3))) (tTest (tOp (fun x y H Q => y = V.non ∧ Q (V.bl !decide (x = V.non)) H) (tVar 5) (tC V.non))) [some v, some u, some (.ref at0), some (.ref p2), some (nV i), some y2, none, none] H6 fun c H7 => if c = true then A else B := by
            intro A B ha hb
            refine ⟨_, rfl, _, rfl, p2, _, rfl, .inl (.inl (.inl h26)), rfl, flat_nats _, _, rfl, ?_⟩
            show if (!inV (nV i) ((nd ks (occ g)).map nV)) = true then _ else _
            rw [in_need]
            cases hne : need ks (occ g) i with
            | true => exact iteF (iteF (hb (.inl hne)))
            | false =>
              refine iteT ⟨_, rfl, rfl, _, rfl, ?_⟩
              cases hn : isNon d with
              | true =>
                have e : d = .none := by cases d <;> first | rfl | cases hn
                subst e
                cases hy
                exact iteF (hb (.inr hn))
              | false =>
                rw [isNon_of hn hy]
                exact iteT (ha hne hn)
          cases hne : need ks (occ g) i with
          | true =>
            have okd : okS (need ks (occ g) i) d = isSlot d := by unfold okS; rw [hne, if_pos rfl]
            refine iteT ⟨y2, rfl, y2, d, rfl, hy, _, rfl, ?_⟩
            cases hI : (isI d && !isB d) with
            | false =>
              have e : isSlot d = false := by cases d <;> first | rfl | cases hI
              exact iteF (iteT (iteT (no (okd.trans e))))
            | true =>
              obtain ⟨m, rfl⟩ : ∃ m, d = .int m := by cases d <;> first | exact ⟨_, rfl⟩ | cases hI
              cases hy
              refine iteT ⟨_, rfl, _, _, rfl, rfl, _, rfl, ?_⟩
              by_cases hm : 0 ≤ m
              · rw [decide_eq_true hm]
                refine iteF (second (fun h => by rw [hne] at h; cases h) fun _ => ⟨_, _, rfl, s6, yes (okd.trans (decide_eq_true hm))⟩)
              · rw [decide_eq_false hm]
                exact iteT (iteT (no (okd.trans (decide_eq_false hm))))
          | false =>
            have okd : okS (need ks (occ g) i) d = isNon d := by unfold okS; rw [hne, if_neg Bool.false_ne_true]
            refine iteF (iteF (second (fun _ hn => no (okd.trans hn)) fun h => ⟨_, _, rfl, s6, yes (okd.trans ?_)⟩))
            rcases h with h | h
            · rw [hne] at h; cases h
            · exact h
        · rintro σ H5 ⟨x4, x5, rfl, s5, hall⟩
          rw [hlt] at hall
          have hA := allS_of hall
          have s05 := s02.trans s5
          have ht5 : Dp K H5 (.ref at0) (.tuple S) := dp_mono s5 _ _ (.tup sqt hat)
          have hvalid : valid g ks (apartG g cl) (.tuple S) = (ownS ks S && prsS (apartG g cl) S) := by
            show (decide (S.length = cnt g) && (allS ks (occ g) S && _)) = _
            rw [decide_eq_true hc, hA, Bool.true_and, Bool.true_and]
          rw [hvalid] at q
          have hu5 := dp_mono s05 _ _ hu
          cases hu5 with
          | @tup au xu _ squ hau =>
            have eu := dpAll_nV hau
            subst eu
            refine ⟨_, rfl, au, rfl, ⟨_, squ⟩, fun D6 hD6 => ?_⟩
            refine lc_tup (xs := ks.map nV) (fun i H6 => H6 D6 = some (.lst (((ks.take i).map (sI S)).map V.int)) ∧ Same H5 H6) ⟨upd_same, same_new hD6⟩ ?_ ?_ ?_
            · rintro i H6 _ ⟨_, s6⟩
              exact sqT_same s6 squ
            · rintro i x H6 hi ⟨h6, s6⟩
              rw [List.getElem?_map] at hi
              obtain ⟨k, hk, rfl⟩ := Option.map_eq_some_iff.mp hi
              have hkm := List.mem_of_getElem? hk
              have hkS : k < S.length := by
                have h1 := hkc k hkm
                have h2 := cnt_count g
                omega
              refine ⟨rfl, tyes ⟨_, rfl, _, rfl, S, k, _, dp_mono s6 _ _ ht5, rfl, slot_int hA hkS (.inl hkm), fun z hz => ?_⟩⟩
              cases hz
              refine ⟨_, h6, ?_, ?_, fun b' o' e' => ?_⟩
              · rw [List.length_map, List.length_map, List.length_take]
                exact small_line (by omega)
              · rw [upd_same, List.take_add_one, hk, List.map_append, List.map_append]
                rfl
              · rw [upd_ne (ne_of_none e' hD6)]
                exact s6 _ _ e'
            rintro H6 ⟨h6, s6⟩
            rw [List.length_map, List.take_length] at h6
            refine ⟨_, rfl, D6, ks.map (sI S), rfl, .inl (.inl h6), by rw [List.length_map]; unfold scanBound; omega, fun p7 ks7 hp7 hnd hks => ⟨p7, _, _, rfl, upd_same, ?_⟩⟩
            have s7 := same_new (o := SetO w p7 (fun j => decide (j ∈ ks.map (sI S))) ks7.length) hp7
            have h67 := s7 _ _ h6
            have s57 := s6.trans s7
            have hdl := distinct_len hnd hks
            refine ⟨_, rfl, _, _, rfl, .inl ⟨_, .inl (.inl h67), rfl⟩, _, _, rfl, rfl, _, rfl, ?_⟩
            rw [List.length_map]
            by_cases hown : (ks.map (sI S)).Nodup
            · have e1 := hdl.2.mpr hown
              have eo : ownS ks S = true := decide_eq_true hown
              rw [eo, Bool.true_and] at q
              rw [decide_eq_false (show ¬ ((ks7.length : Int) < ((ks.map (sI S)).length : Int)) by omega)]
              have s07 := s05.trans s57
              refine iteF ⟨v, rfl, v, N, g, rfl, dp_mono s07 _ _ hv, hg, fun p8 H8 cl' xs8 hp8 s8 hfx' hbw' e8 hd8 => ?_⟩
              have ecl : cl' = cl := fx_one hfx' hfx hbw' hbw
              subst ecl
              refine ⟨p8, rfl, ⟨_, .inl (.inl e8)⟩, fun D9 hD9 => ?_⟩
              have ht8 := dp_mono (s57.trans s8) _ _ ht5
              have hpl := apart_len cl' g.blocks
              have hfew := hg.few
              refine lc_list (xs := xs8) (fun i H9 => H9 D9 = some (.lst ((((apartG g cl').take i).map fun p => !decide (sI S p.1 = sI S p.2)).map V.bl)) ∧ Same H8 H9) ⟨upd_same, same_new hD9⟩ ?_ ?_ ?_
              · rintro i H9 _ ⟨_, s9⟩
                exact .inl (.inl (s9 _ _ e8))
              · rintro i x H9 hi ⟨h9, s9⟩
                obtain ⟨p, hp, hx⟩ := dpAll_map_get hd8 hi
                have hx := dp_mono s9 _ _ hx
                have hvs := apart_vs hbw' p (List.mem_of_getElem? hp)
                have hlo := lo_vars hg
                have o1 : p.1 ∈ occ g := (mem_srt hlo).mpr hvs.1
                have o2 : p.2 ∈ occ g := (mem_srt hlo).mpr hvs.2
                cases hx with
                | @tup ax xx _ sqx hax =>
                  cases hax with
                  | @cons z1 d1 zs1 ds1 g1 hax =>
                    cases hax with
                    | @cons z2 d2 zs2 ds2 g2 hax =>
                      cases hax
                      cases g1
                      cases g2
                      refine ⟨ax, _, rfl, sqx, rfl, _, _, rfl, _, _, rfl, rfl, rfl, tyes ⟨_, rfl, _, rfl, S, p.1, _, dp_mono s9 _ _ ht8, rfl, slot_int hA (by rw [hc]; exact cnt_occ o1) (.inr o1), fun z hz => ?_⟩⟩
                      cases hz
                      refine ⟨_, rfl, _, rfl, S, p.2, _, dp_mono s9 _ _ ht8, rfl, slot_int hA (by rw [hc]; exact cnt_occ o2) (.inr o2), fun z hz => ?_⟩
                      cases hz
                      refine ⟨rfl, _, h9, ?_, ?_, fun b' o' e' => ?_⟩
                      · rw [List.length_map, List.length_map, List.length_take]
                        have hpl : (apartG g cl').length ≤ _ := hpl
                        exact small_line (by omega)
                      · rw [upd_same, List.take_add_one, hp, List.map_append, List.map_append, int_eqV]
                        rfl
                      · rw [upd_ne (ne_of_none e' hD9)]
                        exact s9 _ _ e'
              rintro H9 ⟨h9, s9⟩
              have hxl := dpAll_len hd8
              rw [List.length_map] at hxl
              rw [hxl, List.take_length] at h9
              refine ⟨D9, _, rfl, .inl (.inl h9), ?_⟩
              rw [List.all_map]
              exact q H9 (s07.trans (s8.trans s9))
            · have e1 : ks7.length < (ks.map (sI S)).length := Nat.lt_of_le_of_ne hdl.1 fun e => hown (hdl.2.mp e)
              have eo : ownS ks S = false := decide_eq_false hown
              rw [eo, Bool.false_and] at q
              rw [decide_eq_true (show ((ks7.length : Int) < ((ks.map (sI S)).length : Int)) by omega)]
              exact iteT (q _ (s05.trans s57))
    · rw [decide_eq_false hc]
      have e : valid g ks (apartG g cl) (.tuple S) = false := by
        show (decide (S.length = cnt g) && _) = false
        rw [decide_eq_false hc]
        rfl
      rw [e] at q
      exact iteT (q H1 s1)
end
end K51

set_option maxHeartbeats 4000000
namespace K51
open PySem PySem.Spec PyProof.Rows L2 HG P52 P51
theorem max_cnt {g : Gr} {m : Int} (h1 : m ∈ (iN g.count :: (occ g).map fun v => iN (v + 1))) (h2 : ∀ y ∈ (iN g.count :: (occ g).map fun v => iN (v + 1)), y ≤ m) : m = iN (cnt g) := by
  have hc := h2 _ List.mem_cons_self
  obtain ⟨M, rfl⟩ := Int.eq_ofNat_of_zero_le (show 0 ≤ m from by have : (0 : Int) ≤ (g.count : Int) := by omega
                                                                 exact Int.le_trans this hc)
  congr 1
  refine cnt_of (by have : (g.count : Int) ≤ (M : Int) := hc; omega) (fun v hv => ?_) ?_
  · have : ((v + 1 : Nat) : Int) ≤ (M : Int) := h2 _ (List.mem_cons_of_mem _ (List.mem_map.mpr ⟨v, hv, rfl⟩))
    omega
  · rcases List.mem_cons.mp h1 with e | e
    · exact .inl (Int.ofNat.inj e)
    · obtain ⟨v, hv, e⟩ := List.mem_map.mp e
      exact .inr ⟨v, hv, (Int.ofNat.inj e).symm⟩
theorem occ_len (g : Gr) : (occ g).length ≤ 16 := srt_len _
theorem plus_nats (l : List Nat) : (l.map fun v => iN (v + 1)).map V.int = l.map fun v : Nat => V.int ((v : Int) + 1) := by rw [List.map_map]; rfl
def spIsV (K : PySem.W.Frag) : Sp := fun vs H Q _ => ∃ (v u t : V) (p : Addr) (N : Nat) (g : Gr) (ks : List Nat) (cl : List (List Nat)) (xs : List V) (D : PyData), vs = [v, u, .ref p, t] ∧ Dp K H v g.D ∧ GrB N g ∧ Dp K H u (nsD ks) ∧ ks.length ≤ 10 ∧ (∀ k ∈ ks, k < g.count) ∧
  SqL K H p xs ∧ DpAll K H xs ((apartG g cl).map pD) ∧ Dp K H t D ∧ Bw g cl ∧ ∀ H', Same H H' → Q (.bl (valid g ks (apartG g cl) D)) H'
section
variable {P : Program} {w : World} {K : PySem.W.Frag} {mg : Str → Option Value} {base : Heap}
set_option pp.maxSteps 600 in
theorem c_is_valid (T : Txt w K mg) : Cal P w K mg base "_law_is_valid" 6 ["_law_shape", "_law_held", "_law_pairs_here", "_law_thing"] (spIsV K) := by
  obtain ⟨fd, F⟩ := T.d__law_is_valid
  have C__law_occur := c_occur (P := P) (w := w) (base := base) T
  refine ⟨⟨fd, F.ok sc__law_is_valid (fun vs H Q E h => by repeat (first | (obtain ⟨e, _⟩ := h; subst e; rfl) | (obtain ⟨_, h⟩ := h))) (fun cdv A outer s H vs Q E hr h => ?_), F.bindsN fun _ _ _ _ _ _ us hl => match us, hl with | [_, _, _, _], _ => rfl⟩, T.g _ (by decide), F.kp⟩
  obtain ⟨v, u, t, p, N, g, ks, cl, xs, D, rfl, hv, hg, hu0, hkl, hkc, sp0, hd0, ht, hbw, q⟩ := h
  refine ⟨_, PSs.nox (pss_cons (ps_set (i := 4) sc__law_is_valid.nd rfl (.inl rfl) (pe_cal C__law_occur (hr.mono (by omega)) (by rfl) (pa_cons (pv 0) pa_nil)))
      (pss_cons (ps_set (i := 5) sc__law_is_valid.nd rfl (.inl rfl) (pe_callB (cr_max rfl) (by rfl) T.n_max (by decide +kernel) (pa_cons (pe_op op_cat (pe_lst (pa_cons (pe_ix (ix_P (K := K) rfl) (pv 0) pe_int (fun _ _ => rfl)) pa_nil)) (pe_lc (own := [("_law_v", 6)]) (by rfl) sc__law_is_valid.nd (pi_list (pv 4)) (blkOk_by (own := [("_law_v", 6)]) (N := N__law_is_valid) (sc := defScope s__law_is_valid) (by decide +kernel)) (fun _ _ _ _ _ => (pg_name (i := 6) sc__law_is_valid.nd rfl (.inl rfl))) (fun _ _ _ _ _ => pts_nil) (fun _ _ _ _ _ => (pe_op op_add (pv 6) pe_int)))) pa_nil)))
      (pss_cons (ps_if (PW.pt (pw_or (pt_not (pt_val (pe_callB (isiK (K := K) rfl) (by rfl) T.n_isinstance (by decide +kernel) (pa_cons (pv 3) (pa_cons (pe_bltn (v := .ty "tuple") (u := .type "tuple") (by rfl) T.n_tuple (by decide +kernel) rfl) pa_nil))))) (pw_or1 (pt_cmpR op_ne (pe_callB (lenK (K := K) rfl) (by rfl) T.n_len (by decide +kernel) (pa_cons (pv 3) pa_nil)) (pv 5) (nomark _))))) (pss_one (ps_ret pe_bl)) pss_nil)
      (pss_cons (ps_for PassesOwn.never rfl (pi_enumT (by rfl) T.n_enumerate (pa_cons (pv 3) pa_nil)) (pg_tupK (K := K) (n := 2) rfl rfl (pgs_cons (pg_name (i := 6) sc__law_is_valid.nd rfl (.inl rfl)) (pgs_cons (pg_name (i := 7) sc__law_is_valid.nd rfl (.inl rfl)) pgs_nil))) (pss_cons (ps_set (i := 8) sc__law_is_valid.nd rfl (.inl rfl) (pe_and (pe_callB (isiK (K := K) rfl) (by rfl) T.n_isinstance (by decide +kernel) (pa_cons (pv 7) (pa_cons (pe_bltn (v := .ty "int") (u := .type "int") (by rfl) T.n_int (by decide +kernel) rfl) pa_nil))) (pe_and (pe_not (pe_callB (isiK (K := K) rfl) (by rfl) T.n_isinstance (by decide +kernel) (pa_cons (pv 7) (pa_cons (pe_bltn (v := .ty "bool") (u := .type "bool") (by rfl) T.n_bool (by decide +kernel) rfl) pa_nil)))) (pe_one (pe_cmpR op_ge (pv 7) pe_int (nomark _))))))
      (pss_cons (ps_if (PW.pt (pw_and (pt_not (pt_val (pv 8))) (pw_and1 (PW.pt (pw_or (pt_cmpR op_notN (pv 7) pe_non (nomark _)) (pw_or (pt_cmpR (op_in_seqK (K := K) rfl) (pv 6) (pv 4) (by rfl)) (pw_or1 (pt_cmpR (op_in_seqK (K := K) rfl) (pv 6) (pv 1) (by rfl))))))))) (pss_one (ps_ret pe_bl)) pss_nil)
      (pss_one (ps_if (PW.pt (pw_and (pt_val (pv 8)) (pw_and (pt_cmpR (op_notIn_seqK (K := K) rfl) (pv 6) (pv 4) (by rfl)) (pw_and1 (pt_cmpR (op_notIn_seqK (K := K) rfl) (pv 6) (pv 1) (by rfl)))))) (pss_one (ps_ret pe_bl)) pss_nil)))))
      (pss_cons (ps_setLc (i := 9) (own := [("_law_v", 6)]) (by rfl) sc__law_is_valid.nd rfl rfl (sw_true rfl rfl rfl (by decide +kernel)) (pi_tup (pv 1)) (blkOk_by (own := [("_law_v", 6)]) (N := N__law_is_valid) (sc := defScope s__law_is_valid) (by decide +kernel)) (fun _ _ _ _ _ => (pg_name (i := 6) sc__law_is_valid.nd rfl (.inl rfl))) (fun _ _ _ _ _ => pts_nil) (fun _ _ _ _ _ => (pe_ix (ix_P (K := K) rfl) (pv 3) (pv 6) (fun _ _ => rfl))))
      (pss_cons (ps_setLc (i := 10) (own := [("_law_v", 6), ("_law_w", 11)]) (by rfl) sc__law_is_valid.nd rfl rfl (sw_true rfl rfl rfl (by decide +kernel)) (pi_list (pv 2)) (blkOk_by (own := [("_law_v", 6), ("_law_w", 11)]) (N := N__law_is_valid) (sc := defScope s__law_is_valid) (by decide +kernel)) (fun _ _ _ _ _ => (pg_tupK (K := K) (n := 2) rfl rfl (pgs_cons (pg_name (i := 6) sc__law_is_valid.nd rfl (.inl rfl)) (pgs_cons (pg_name (i := 11) sc__law_is_valid.nd rfl (.inl rfl)) pgs_nil)))) (fun _ _ _ _ _ => pts_one (pt_cmpR op_eq (pe_ix (ix_P (K := K) rfl) (pv 3) (pv 6) (fun _ _ => rfl)) (pe_ix (ix_P (K := K) rfl) (pv 3) (pv 11) (fun _ _ => rfl)) (nomark _))) (fun _ _ _ _ _ => (pv 6)))
      (pss_one (ps_ret (pe_and (pe_cmpR op_eq (pe_callB call_lenSetO (by rfl) T.n_len (by decide +kernel) (pa_cons (pe_callTy (cr_setLI rfl) (by rfl) T.n_set (by decide +kernel) (pa_cons (pv 9) pa_nil)) pa_nil)) (pe_callB (lenK (K := K) rfl) (by rfl) T.n_len (by decide +kernel) (pa_cons (pv 9) pa_nil)) (nomark _)) (pe_one (pe_cmpR (op_eqDK (K := K) rfl hr.units) (pv 10) (pe_lst pa_nil) (nomark _)))))))))))), ?_⟩
  have hol := occ_len g
  refine ⟨v, rfl, v, N, g, rfl, hv, hg, fun a1 H1 ha1 s1 h1 => ?_⟩
  refine ⟨v, rfl, _, 0, _, dp_mono s1 _ _ hv, rfl, rfl, fun z hz => ?_⟩
  cases hz
  refine ⟨(by show 1 ≤ sizeLine; decide), fun l2 hl2 => ?_⟩
  have s2 := same_new (o := .lst [nV g.count]) hl2
  have e2 : (upd H1 l2 (.lst [nV g.count])) l2 = some (.lst [nV g.count]) := upd_same
  show tLc _ _ _ _ _ _ (upd H1 l2 (.lst [nV g.count])) _
  generalize upd H1 l2 (.lst [nV g.count]) = H2 at s2 e2 ⊢
  have h12 := s2 _ _ h1
  refine ⟨_, rfl, a1, rfl, ⟨_, .inl (.inl h12)⟩, fun D3 hD3 => ?_⟩
  refine lc_list (xs := (occ g).map nV) (fun i H3 => H3 D3 = some (.lst (((occ g).take i).map fun v : Nat => V.int ((v : Int) + 1))) ∧ Same H2 H3) ⟨upd_same, same_new hD3⟩ ?_ ?_ ?_
  · rintro i H3 _ ⟨_, s3⟩
    exact .inl (.inl (s3 _ _ h12))
  · rintro i x H3 hi ⟨h3, s3⟩
    rw [List.getElem?_map] at hi
    obtain ⟨m, hm, rfl⟩ := Option.map_eq_some_iff.mp hi
    refine ⟨rfl, tyes ⟨_, rfl, _, _, rfl, rfl, _, h3, ?_, ?_, fun b' o' e' => ?_⟩⟩
    · rw [List.length_map, List.length_take]
      exact small_line (by omega)
    · rw [upd_same, map_take_snoc _ hm]
    · rw [upd_ne (ne_of_none e' hD3)]
      exact s3 _ _ e'
  rintro H3 ⟨h3, s3⟩
  rw [List.length_map, List.take_length] at h3
  refine ⟨l2, D3, _, _, rfl, rfl, s3 _ _ e2, h3, by rw [List.length_map, sizeLine_eq]; show 1 + (occ g).length ≤ _; omega, fun p4 hp4 => ?_⟩
  generalize eH4 : upd H3 p4 _ = H4
  have s14 : Same H1 H4 := eH4 ▸ s2.trans (s3.trans (same_new hp4))
  have e4 : H4 p4 = some (.lst ((iN g.count :: (occ g).map fun v => iN (v + 1)).map V.int)) := by
    rw [← eH4, upd_same, List.map_cons, plus_nats]
    rfl
  clear eH4
  refine ⟨p4, _, rfl, .inl (.inl e4), by rw [List.length_cons]; omega, fun m hm hmax => ?_⟩
  have em := max_cnt hm hmax
  subst em
  have s04 := s1.trans s14
  have h14 := s14 _ _ h1
  have ht4 := dp_mono s04 _ _ ht
  have hu4 := dp_mono s04 _ _ hu0
  obtain ⟨au, xu, rfl, squ, hau⟩ := dp_seq hu4
  have eu := dpAll_nV hau
  subst eu
  have sp4 := Same.seq s04 sp0
  have hd4 := dpAll_mono s04 _ _ hd0
  have q := fun H' (s : Same H4 H') => q H' (s04.trans s)
  clear e4 hmax hm h3 s3 h12 s2 e2 s14
  refine ⟨t, rfl, t, .ty "tuple", _, _, _, rfl, .ty _, dp_ty ht4, kit_ty (kit_tuple D), _, rfl, ?_⟩
  have notT : isT D = false → valid g ks (apartG g cl) D = false := fun h => by cases D <;> first | rfl | cases h
  cases hT : isT D with
  | false =>
    rw [notT hT] at q
    exact iteT (iteT (q H4 (Same.refl _)))
  | true =>
    obtain ⟨S, rfl⟩ : ∃ S, D = .tuple S := by cases D <;> first | exact ⟨_, rfl⟩ | cases hT
    obtain ⟨at0, xt, rfl, sqt, hat⟩ := dp_seq ht4
    have hlt := dpAll_len hat
    refine iteF ⟨_, rfl, _, S.length, rfl, .inr ⟨xt, sqt, hlt.symm⟩, _, rfl, rfl, _, rfl, ?_⟩
    rw [len_eq]
    by_cases hc : S.length = cnt g
    · rw [decide_eq_true hc]
      refine iteF ⟨_, rfl, at0, _, rfl, sqt, ?_⟩
      refine for_it (walk_enumT (xs := xt)) (fun i σ H5 => ∃ x6 x7 x8, σ = [some v, some (.ref au), some (.ref p), some (.ref at0), some (.ref a1), some (nV (cnt g)), x6, x7, x8, none, none, none] ∧ Same H4 H5 ∧ ∀ j, j < i → okS (need ks (occ g) j) (S.getD j .none) = true) ⟨_, _, _, rfl, Same.refl _, fun j hj => absurd hj (Nat.not_lt_zero _)⟩ ?_ ?_ ?_
      · rintro i σ H5 _ ⟨_, _, _, rfl, s5, _⟩
        exact sqT_same s5 sqt
      · rintro i x σ H5 H6 hi ⟨x6, x7, x8, rfl, s5, hall⟩ ⟨T1, y1, y2, rfl, hT1, rfl, e1, e2⟩
        injection e1 with e1
        subst e1
        have hiS : i < S.length := by omega
        obtain ⟨d, hd, hy⟩ := dpAll_get hat e2
        have eD := getD_at hd
        have s6 := s5.trans (same_new (o := .tup [.int (i : Nat), y2]) hT1)
        have hy := dp_mono s6 _ _ hy
        refine ⟨T1, _, rfl, .inl (.inl upd_same), rfl, _, _, rfl, _, _, rfl, rfl, ?_⟩
        generalize upd H5 T1 (.tup [.int (i : Nat), y2]) = H6 at s6 hy ⊢
        have ho6 := s6 _ _ h14
        have hk6 := sqT_same s6 squ
        have no : okS (need ks (occ g) i) d = false → Q (.bl false) H6 := fun h => by
          rw [← eD] at h
          have := q H6 s6
          rw [valid_no hiS h] at this
          exact this
        have yes : okS (need ks (occ g) i) d = true → ∀ j, j < i + 1 → okS (need ks (occ g) j) (S.getD j .none) = true := fun h j hj => by
          by_cases e : j = i
          · subst e
            rw [eD]
            exact h
          · exact hall j (by omega)
        have slot : ∀ {R : VK}, R (.bl (isSlot d)) H6 → tAndV (tCB (rIsi K) (tCons (tVar 7) (tCons (tC (.ty "int")) tNil))) (tAndV (tNotV (tCB (rIsi K) (tCons (tVar 7) (tCons (tC (.ty "bool")) tNil)))) (tOp (rI0 fun i j => V.bl (decide (j ≤ i))) (tVar 7) (tC (V.int 0)))) [some v, some (.ref au), some (.ref p), some (.ref at0), some (.ref a1), some (nV (cnt g)), some (nV i), some y2, x8, none, none, none] H6 R := by
          intro R hq
          refine ⟨_, rfl, y2, .ty "int", _, _, _, rfl, .ty _, dp_ty hy, kit_ty (kit_int d), _, rfl, ?_⟩
          cases hI : isI d with
          | false =>
            have e : isSlot d = false := by cases d <;> first | rfl | (cases hI; done)
            rw [e] at hq
            exact iteF hq
          | true =>
            refine iteT ⟨_, rfl, y2, .ty "bool", _, _, _, rfl, .ty _, dp_ty hy, kit_ty (kit_bool d), _, rfl, _, rfl, ?_⟩
            cases hB : isB d with
            | true =>
              have e : isSlot d = false := by cases d <;> first | rfl | (cases hB; done)
              rw [e] at hq
              exact iteF hq
            | false =>
              obtain ⟨m, rfl⟩ : ∃ m, d = .int m := by cases d <;> first | exact ⟨_, rfl⟩ | (cases hB; done) | (cases hI; done)
              cases hy
              exact iteT ⟨_, rfl, _, _, rfl, rfl, hq⟩
        have hneed : need ks (occ g) i = (decide (i ∈ ks) || decide (i ∈ occ g)) := rfl
        refine slot ?_
        refine ⟨_, rfl, _, rfl, ?_⟩
        cases hsl : isSlot d with
        | true =>
          have okd : okS (need ks (occ g) i) d = need ks (occ g) i := by
            unfold okS
            cases need ks (occ g) i with
            | true => exact hsl
            | false =>
              show isNon d = false
              cases d <;> first | rfl | (cases hsl; done)
          refine iteF (iteF ⟨_, rfl, _, rfl, iteT ⟨_, rfl, _, rfl, a1, _, rfl, .inl (.inl (.inl ho6)), rfl, flat_nats _, _, rfl, ?_⟩⟩)
          show if (!inV (nV i) ((occ g).map nV)) = true then _ else _
          rw [in_nats]
          by_cases io : i ∈ occ g
          · rw [decide_eq_true io]
            exact iteF (iteF ⟨_, _, _, rfl, s6, yes (by rw [okd, hneed, decide_eq_true io, Bool.or_true])⟩)
          · rw [decide_eq_false io]
            refine iteT ⟨_, rfl, _, rfl, au, _, rfl, .inr hk6, rfl, flat_nats _, _, rfl, ?_⟩
            show if (!inV (nV i) (ks.map nV)) = true then _ else _
            rw [in_nats]
            by_cases ik : i ∈ ks
            · rw [decide_eq_true ik]
              exact iteF ⟨_, _, _, rfl, s6, yes (by rw [okd, hneed, decide_eq_true ik, Bool.true_or])⟩
            · rw [decide_eq_false ik]
              exact iteT (no (by rw [okd, hneed, decide_eq_false ik, decide_eq_false io]; rfl))
        | false =>
          have okd : okS (need ks (occ g) i) d = (!need ks (occ g) i && isNon d) := by
            unfold okS
            cases need ks (occ g) i with
            | true => exact hsl
            | false => rfl
          refine iteT ⟨_, rfl, rfl, _, rfl, ?_⟩
          cases hn : isNon d with
          | false =>
            rw [isNon_of hn hy]
            exact iteT (iteT (no (by rw [okd, hn, Bool.and_false])))
          | true =>
            have e : d = .none := by cases d <;> first | rfl | (cases hn; done)
            subst e
            cases hy
            refine iteF ⟨_, rfl, _, rfl, a1, _, rfl, .inl (.inl (.inl ho6)), rfl, flat_nats _, _, rfl, ?_⟩
            show if inV (nV i) ((occ g).map nV) = true then _ else _
            rw [in_nats]
            by_cases io : i ∈ occ g
            · rw [decide_eq_true io]
              exact iteT (iteT (no (by rw [okd, hneed, decide_eq_true io, Bool.or_true]; rfl)))
            · rw [decide_eq_false io]
              refine iteF ⟨_, rfl, _, rfl, au, _, rfl, .inr hk6, rfl, flat_nats _, _, rfl, ?_⟩
              show if inV (nV i) (ks.map nV) = true then _ else _
              rw [in_nats]
              by_cases ik : i ∈ ks
              · rw [decide_eq_true ik]
                exact iteT (no (by rw [okd, hneed, decide_eq_true ik]; rfl))
              · rw [decide_eq_false ik]
                exact iteF ⟨_, rfl, _, rfl, iteF (iteF ⟨_, _, _, rfl, s6, yes (by rw [okd, hneed, decide_eq_false ik, decide_eq_false io]; rfl)⟩)⟩
      · rintro σ H5 ⟨x6, x7, x8, rfl, s5, hall⟩
        rw [hlt] at hall
        have hA := allS_of hall
        have ht5 : Dp K H5 (.ref at0) (.tuple S) := dp_mono s5 _ _ (.tup sqt hat)
        have hvalid : valid g ks (apartG g cl) (.tuple S) = (ownS ks S && prsS (apartG g cl) S) := by
          show (decide (S.length = cnt g) && (allS ks (occ g) S && _)) = _
          rw [decide_eq_true hc, hA, Bool.true_and, Bool.true_and]
        rw [hvalid] at q
        have sqk := sqT_same s5 squ
        refine ⟨_, rfl, au, rfl, ⟨_, sqk⟩, fun D6 hD6 => ?_⟩
        refine lc_tup (xs := ks.map nV) (fun i H6 => H6 D6 = some (.lst (((ks.take i).map (sI S)).map V.int)) ∧ Same H5 H6) ⟨upd_same, same_new hD6⟩ ?_ ?_ ?_
        · rintro i H6 _ ⟨_, s6⟩
          exact sqT_same s6 sqk
        · rintro i x H6 hi ⟨h6, s6⟩
          rw [List.getElem?_map] at hi
          obtain ⟨k, hk, rfl⟩ := Option.map_eq_some_iff.mp hi
          have hkm := List.mem_of_getElem? hk
          have hkS : k < S.length := by
            have h1 := hkc k hkm
            have h2 := cnt_count g
            omega
          refine ⟨rfl, tyes ⟨_, rfl, _, rfl, S, k, _, dp_mono s6 _ _ ht5, rfl, slot_int hA hkS (.inl hkm), fun z hz => ?_⟩⟩
          cases hz
          refine ⟨_, h6, ?_, ?_, fun b' o' e' => ?_⟩
          · rw [List.length_map, List.length_map, List.length_take]
            exact small_line (by omega)
          · rw [upd_same, map_take_snoc _ hk, List.map_append]
            rfl
          · rw [upd_ne (ne_of_none e' hD6)]
            exact s6 _ _ e'
        rintro H6 ⟨h6, s6⟩
        rw [List.length_map, List.take_length] at h6
        have sp6 := Same.seq (s5.trans s6) sp4
        have hd6 := dpAll_mono (s5.trans s6) _ _ hd4
        have ht6 := dp_mono s6 _ _ ht5
        have hpl := apart_len cl g.blocks
        have hfew := hg.few
        have hpl : (apartG g cl).length ≤ 16 * rowsN g.blocks := hpl
        refine ⟨_, rfl, p, rfl, ⟨_, sp6⟩, fun D7 hD7 => ?_⟩
        have hxl := dpAll_len hd6
        rw [List.length_map] at hxl
        refine lc_list (xs := xs) (fun i H7 => H7 D7 = some (.lst ((((apartG g cl).take i).filter fun r => decide (sI S r.1 = sI S r.2)).map fun r => nV r.1)) ∧ Same H6 H7) ⟨upd_same, same_new hD7⟩ ?_ ?_ ?_
        · rintro i H7 _ ⟨_, s7⟩
          exact Same.seq s7 sp6
        · rintro i x H7 hi ⟨h7, s7⟩
          obtain ⟨r, hr, hx⟩ := dpAll_map_get hd6 hi
          have hx := dp_mono s7 _ _ hx
          have hvs := apart_vs hbw r (List.mem_of_getElem? hr)
          have hlo := lo_vars hg
          have o1 : r.1 ∈ occ g := (mem_srt hlo).mpr hvs.1
          have o2 : r.2 ∈ occ g := (mem_srt hlo).mpr hvs.2
          obtain ⟨ax, xx, rfl, sqx, hax⟩ := dp_seq hx
          cases hax with
          | @cons z1 d1 zs1 ds1 g1 hax =>
            cases hax with
            | @cons z2 d2 zs2 ds2 g2 hax =>
              cases hax
              cases g1
              cases g2
              refine ⟨ax, _, rfl, sqx, rfl, _, _, rfl, _, _, rfl, rfl, rfl, _, rfl, _, rfl, S, r.1, _, dp_mono s7 _ _ ht6, rfl, slot_int hA (by rw [hc]; exact cnt_occ o1) (.inr o1), fun z hz => ?_⟩
              cases hz
              refine ⟨_, rfl, _, rfl, S, r.2, _, dp_mono s7 _ _ ht6, rfl, slot_int hA (by rw [hc]; exact cnt_occ o2) (.inr o2), fun z hz => ?_⟩
              cases hz
              refine ⟨rfl, _, rfl, ?_⟩
              rw [int_eqV, filter_snoc hr]
              cases hb : decide (sI S r.1 = sI S r.2) with
              | false =>
                refine iteF ⟨?_, s7⟩
                rw [if_neg Bool.false_ne_true, List.append_nil]
                exact h7
              | true =>
                refine iteT ⟨_, rfl, _, h7, ?_, ?_, fun b' o' e' => ?_⟩
                · have h1 := List.length_filter_le (fun r => decide (sI S r.1 = sI S r.2)) ((apartG g cl).take i)
                  rw [List.length_take] at h1
                  rw [List.length_map]
                  exact small_line (by omega)
                · rw [upd_same, if_pos rfl, List.map_append]
                  rfl
                · rw [upd_ne (ne_of_none e' hD7)]
                  exact s7 _ _ e'
        rintro H7 ⟨h7, s7⟩
        rw [hxl, List.take_length] at h7
        have h67 := s7 _ _ h6
        have s47 := s5.trans (s6.trans s7)
        have fin : ∀ (H8 : Hp), Same H7 H8 → PyData.eqv (.list (((apartG g cl).filter fun r => decide (sI S r.1 = sI S r.2)).map fun r => nD r.1)) (.list []) = prsS (apartG g cl) S := fun H8 _ => by
          rw [show PyData.eqv (.list (((apartG g cl).filter fun r => decide (sI S r.1 = sI S r.2)).map fun r => nD r.1)) (.list []) = decide (((apartG g cl).filter fun r => decide (sI S r.1 = sI S r.2)) = []) from by
            cases ((apartG g cl).filter fun r => decide (sI S r.1 = sI S r.2)) <;> simp [PyData.eqv, PyData.eqvAll]]
          unfold prsS
          rw [Bool.eq_iff_iff, decide_eq_true_eq, List.filter_eq_nil_iff, List.all_eq_true]
          refine forall_congr' fun r => forall_congr' fun _ => ?_
          cases decide (sI S r.1 = sI S r.2) <;> simp
        refine ⟨_, rfl, D6, ks.map (sI S), rfl, .inl (.inl h67), by rw [List.length_map]; unfold scanBound; omega, fun p8 ks8 hp8 hnd hks => ⟨p8, _, _, rfl, upd_same, ?_⟩⟩
        have s8 := same_new (o := SetO w p8 (fun j => decide (j ∈ ks.map (sI S))) ks8.length) hp8
        have h68 := s8 _ _ h67
        have h78 := s8 _ _ h7
        have hdl := distinct_len hnd hks
        refine ⟨_, rfl, _, _, rfl, .inl ⟨_, .inl (.inl h68), rfl⟩, rfl, ?_⟩
        rw [len_eq, List.length_map]
        by_cases hown : (ks.map (sI S)).Nodup
        · have e1 := hdl.2.mpr hown
          rw [decide_eq_true (show ks8.length = (ks.map (sI S)).length from e1)]
          have eo : ownS ks S = true := decide_eq_true hown
          rw [eo, Bool.true_and] at q
          refine ⟨_, rfl, iteT ⟨_, rfl, Nat.zero_le _, fun l9 hl9 => ⟨.list (((apartG g cl).filter fun r => decide (sI S r.1 = sI S r.2)).map fun r => nD r.1), .list [], .lst (.inl (.inl (upd_get hl9 h78))) (dpAll_map _ fun _ _ => .int _), .lst (.inl (.inl upd_same)) .nil, ?_, (by decide), ?_⟩⟩⟩
          · have e : (((apartG g cl).filter fun r => decide (sI S r.1 = sI S r.2)).map fun r => nD r.1) = (((apartG g cl).filter fun r => decide (sI S r.1 = sI S r.2)).map fun r => iN r.1).map PyData.int := by rw [List.map_map]; rfl
            rw [e]
            exact shaped_ints _
          · rw [fin H7 (Same.refl _)]
            exact q _ (s47.trans (s8.trans (same_new hl9)))
        · have e1 : ¬ ks8.length = (ks.map (sI S)).length := fun e => hown (hdl.2.mp e)
          rw [decide_eq_false e1]
          have eo : ownS ks S = false := decide_eq_false hown
          rw [eo, Bool.false_and] at q
          exact ⟨_, rfl, iteF (q _ (s47.trans s8))⟩
    · rw [decide_eq_false hc]
      have e : valid g ks (apartG g cl) (.tuple S) = false := by
        show (decide (S.length = cnt g) && _) = false
        rw [decide_eq_false hc]
        rfl
      rw [e] at q
      exact iteT (q H4 (Same.refl _))
end
end K51

set_option maxHeartbeats 4000000
/-! HSB: all but one place stays; two ways that meet again. -/
namespace HG
open PySem PySem.Spec PyProof.Rows L2
def SB (a : Addr) (H H' : Hp) : Prop := ∀ b o, b ≠ a → H b = some o → H' b = some o
theorem SB.refl (a : Addr) (H : Hp) : SB a H H := fun _ _ _ h => h
theorem SB.trans {a : Addr} {H H1 H2 : Hp} (x : SB a H H1) (y : SB a H1 H2) : SB a H H2 := fun b o n h => y b o n (x b o n h)
theorem SB.of {a : Addr} {H H1 : Hp} (s : Same H H1) : SB a H H1 := fun b o _ h => s b o h
theorem SB.put {a : Addr} {H : Hp} {o : HO} : SB a H (upd H a o) := fun b u n h => by rw [upd_ne n]; exact h
theorem SB.new {a p : Addr} {H : Hp} {o : HO} (h : H p = none) : SB a H (upd H p o) := fun b u _ e => upd_get h e
theorem SB.same {a : Addr} {H H1 H2 : Hp} (s : Same H H1) (x : SB a H1 H2) (ha : H a = none) : Same H H2 := fun b o h => x b o (fun z => by rw [z, ha] at h; cases h) (s b o h)
theorem SB.kt {a : Addr} {H H' : Hp} {l : List (Key × V)} (x : SB a H H') (ha : H a = some (.dK l)) : KT H H' :=
  ⟨fun b xs h => x b _ (fun z => by rw [z, ha] at h; cases h) h, fun b o u h => x b _ (fun z => by rw [z, ha] at h; cases h) h⟩
theorem SB.ktL {a : Addr} {H H' : Hp} {l : List V} (x : SB a H H') (ha : H a = some (.lst l)) : KT H H' :=
  ⟨fun b xs h => x b _ (fun z => by rw [z, ha] at h; cases h) h, fun b o u h => x b _ (fun z => by rw [z, ha] at h; cases h) h⟩
theorem if_join {b : Bool} {A B : Prop} {C I : Hp → Prop} (hf : b = false → (∀ H, I H → C H) → B) (ht : b = true → (∀ H, I H → C H) → A) (hc : ∀ H, I H → C H) : if b = true then A else B := by
  cases b with
  | true => exact iteT (ht rfl hc)
  | false => exact iteF (hf rfl hc)
end HG

set_option maxHeartbeats 4000000
namespace K51
open PySem PySem.Spec PyProof.Rows L2 HG P52 P51
def slK (sl : List (Nat × Nat)) : List (Key × V) := sl.map fun p => ((Sum.inl (p.1 : Int) : Key), nV p.2)
theorem valV_slK (sl : List (Nat × Nat)) (w : Nat) : valV (slK sl) (Sum.inl (w : Int)) = (look sl w).map nV := by
  induction sl with
  | nil => rfl
  | cons p r ih =>
    show valV (((Sum.inl (p.1 : Int) : Key), nV p.2) :: slK r) _ = _
    unfold look
    rw [List.find?_cons]
    by_cases h : p.1 = w
    · rw [valV_pos (by rw [h]), decide_eq_true h]
      rfl
    · rw [valV_neg (fun e => h (by injection e with e; omega)), decide_eq_false h, ih]
      rfl
theorem slK_len (sl : List (Nat × Nat)) : (slK sl).length = sl.length := List.length_map _
theorem look_none {sl : List (Nat × Nat)} {v : Nat} (h : v ∉ sl.map (·.1)) : look sl v = none := by
  unfold look
  rw [List.find?_eq_none.mpr]
  · rfl
  · intro p hp e
    exact h (List.mem_map.mpr ⟨p, hp, of_decide_eq_true e⟩)
theorem putK_slK {sl : List (Nat × Nat)} {v : Nat} (x : Nat) (h : v ∉ sl.map (·.1)) : putK (slK sl) (Sum.inl (v : Int)) (nV x) = slK (sl ++ [(v, x)]) := by
  rw [putK_new _ (by rw [valV_slK, look_none h]; rfl)]
  unfold slK
  rw [List.map_append]
  rfl
def bestL (g : Gr) (ks : List Nat) (ps : List (Nat × Nat)) : List (Nat × Nat) := best ps ks (nd ks (occ g))
def bestD (g : Gr) (ks : List Nat) (ps : List (Nat × Nat)) : List PyData := (List.range (cnt g)).map fun i => ovD (look (bestL g ks ps) i)
theorem best_snoc (ps : List (Nat × Nat)) (ks : List Nat) {ns : List Nat} {i : Nat} {v : Nat} (h : ns[i]? = some v) : best ps ks (ns.take (i + 1)) = best ps ks (ns.take i) ++ [(v, mex (takenP ps ks v (best ps ks (ns.take i))))] := by
  unfold best
  rw [List.take_add_one, h, List.foldl_append]
  rfl
theorem best_not {ps : List (Nat × Nat)} {ks ns : List Nat} (hn : ns.Nodup) {i v : Nat} (h : ns[i]? = some v) : v ∉ (best ps ks (ns.take i)).map (·.1) := by
  unfold best
  rw [best_keys]
  show v ∉ [] ++ ns.take i
  rw [List.nil_append]
  intro hm
  have e : ns = ns.take i ++ ns.drop i := (List.take_append_drop i ns).symm
  rw [e, List.nodup_append] at hn
  refine hn.2.2 v hm v ?_ rfl
  rw [List.mem_iff_getElem?]
  exact ⟨0, by rw [List.getElem?_drop, Nat.add_zero]; exact h⟩
theorem best_len (ps : List (Nat × Nat)) (ks ns : List Nat) : (best ps ks ns).length = ns.length := by
  have := congrArg List.length (best_keys ps ks ns [])
  rw [List.length_map, List.length_append, List.length_map] at this
  unfold best
  rw [this]
  exact Nat.zero_add _
theorem dpAll_ov {K : PySem.W.Frag} {H : Hp} {α : Type} (f : α → Option Nat) : ∀ l : List α, DpAll K H (l.map fun x => ovV (f x)) (l.map fun x => ovD (f x)) := fun l => dpAll_map l fun x _ => ov_dp (f x)
theorem cnt_le {N : Nat} {g : Gr} (hg : GrB N g) : cnt g ≤ 16 := by
  have b := fmaxN_mem ((occ g).map fun v => v + 1) g.count
  rcases List.mem_cons.mp b with e | e
  · have := hg.count
    show List.foldl max g.count _ ≤ 16
    omega
  · obtain ⟨v, hv, e⟩ := List.mem_map.mp e
    have := lo_srt g.vars v hv
    show List.foldl max g.count _ ≤ 16
    omega
def spBest (K : PySem.W.Frag) : Sp := fun vs H Q _ => ∃ (v u : V) (N : Nat) (g : Gr) (ks : List Nat), vs = [v, u] ∧ Dp K H v g.D ∧ GrB N g ∧ Dp K H u (nsD ks) ∧ ks.length ≤ 10 ∧ ks.Nodup ∧
  ∀ z H' cl, Same H H' → Fx g cl → Bw g cl → Dp K H' z (.tuple (bestD g ks (apartG g cl))) → Q z H'
section
variable {P : Program} {w : World} {K : PySem.W.Frag} {mg : Str → Option Value} {base : Heap}
set_option pp.maxSteps 600 in
theorem f_best_slots (T : Txt w K mg) : ∃ fd, FunD K "best_slots" "best_slots" (defArgs s_best_slots) (defBody s_best_slots) (defScope s_best_slots) [] [] (He.ga K "best_slots") fd ∧ FnOk P w K mg base CX0 7 (He.ga K "best_slots") fd ["graph", "kept"] (spBest K) := by
  obtain ⟨fd, F⟩ := T.d_best_slots
  have C_apart := c_apart (P := P) (w := w) (base := base) T
  have C_needed_variables := c_needed_variables (P := P) (w := w) (base := base) T
  have C_variable_count := c_variable_count (P := P) (w := w) (base := base) T
  refine ⟨fd, F, F.ok sc_best_slots (fun vs H Q E h => by repeat (first | (obtain ⟨e, _⟩ := h; subst e; rfl) | (obtain ⟨_, h⟩ := h))) (fun cdv A outer s H vs Q E hr h => ?_)⟩
  obtain ⟨v, u, N, g, ks, rfl, hv, hg, hu0, hkl, hkn, q⟩ := h
  have hu := hu_of hr
  refine ⟨_, PSs.nox (pss_cons (ps_set (i := 2) sc_best_slots.nd rfl (.inl rfl) (pe_cal C_apart (hr.mono (by omega)) (by rfl) (pa_cons (pv 0) pa_nil)))
      (pss_cons (ps_set (i := 3) sc_best_slots.nd rfl (.inr rfl) pe_dnewK)
      (pss_cons (ps_for PassesOwn.never rfl (pi_list (pe_cal C_needed_variables (hr.mono (by omega)) (by rfl) (pa_cons (pv 0) (pa_cons (pv 1) pa_nil)))) (pg_name (i := 4) sc_best_slots.nd rfl (.inr rfl)) (pss_cons (ps_set (i := 5) sc_best_slots.nd rfl (.inl rfl) (pe_op op_cat (pe_lc (own := [("one", 8), ("w", 9)]) (by rfl) sc_best_slots.nd (pi_list (pv 2)) (blkOk_by (own := [("one", 8), ("w", 9)]) (N := N_best_slots) (sc := defScope s_best_slots) (by decide +kernel)) (fun _ _ _ _ _ => (pg_tupK (K := K) (n := 2) rfl rfl (pgs_cons (pg_name (i := 8) sc_best_slots.nd rfl (.inl rfl)) (pgs_cons (pg_name (i := 9) sc_best_slots.nd rfl (.inl rfl)) pgs_nil)))) (fun _ _ _ _ _ => pts_one (pt_cmpR op_eq (pv 8) (pv 4) (nomark _))) (fun _ _ _ _ _ => (pv 9))) (pe_lc (own := [("one", 8), ("w", 9)]) (by rfl) sc_best_slots.nd (pi_list (pv 2)) (blkOk_by (own := [("one", 8), ("w", 9)]) (N := N_best_slots) (sc := defScope s_best_slots) (by decide +kernel)) (fun _ _ _ _ _ => (pg_tupK (K := K) (n := 2) rfl rfl (pgs_cons (pg_name (i := 8) sc_best_slots.nd rfl (.inl rfl)) (pgs_cons (pg_name (i := 9) sc_best_slots.nd rfl (.inl rfl)) pgs_nil)))) (fun _ _ _ _ _ => pts_one (pt_cmpR op_eq (pv 9) (pv 4) (nomark _))) (fun _ _ _ _ _ => (pv 8)))))
      (pss_cons (ps_if (pt_cmpR (op_in_seqK (K := K) rfl) (pv 4) (pv 1) (by rfl)) (pss_one (ps_expr (pe_bm PySem.F.plainAttrs_list PySem.F.slot_list_extend PySem.F.type_list_extend mt_extT (pv 5) (pa_cons (pv 1) pa_nil)))) pss_nil)
      (pss_cons (ps_setLc (i := 6) (own := [("w", 9)]) (by rfl) sc_best_slots.nd rfl rfl (sw_true rfl rfl rfl (by decide +kernel)) (pi_list (pv 5)) (blkOk_by (own := [("w", 9)]) (N := N_best_slots) (sc := defScope s_best_slots) (by decide +kernel)) (fun _ _ _ _ _ => (pg_name (i := 9) sc_best_slots.nd rfl (.inl rfl))) (fun _ _ _ _ _ => pts_one (pt_cmp (pc_din hu (pv 9) (pv 3)))) (fun _ _ _ _ _ => (pe_dget hu (pv 3) (pv 9) (fun _ _ => rfl))))
      (pss_cons (ps_set (i := 7) sc_best_slots.nd rfl (.inl rfl) pe_int)
      (pss_cons (ps_while PassesOwn.never (pt_cmpR (op_in_seqK (K := K) rfl) (pv 7) (pv 6) (by rfl)) (pss_one (ps_aug (i := 7) sc_best_slots.nd rfl (.inl rfl) pe_int ip_add)))
      (pss_one (ps_dput hu (pv 3) (pv 4) (pv 7) rfl))))))))
      (pss_one (ps_ret (pe_callTy call_tuple_of (by rfl) T.n_tuple (by decide +kernel) (pa_cons (pe_lc (own := [("v", 4)]) (by rfl) sc_best_slots.nd (pi_range1 (by rfl) T.n_range (pa_cons (pe_cal C_variable_count (hr.mono (by omega)) (by rfl) (pa_cons (pv 0) pa_nil)) pa_nil)) (blkOk_by (own := [("v", 4)]) (N := N_best_slots) (sc := defScope s_best_slots) (by decide +kernel)) (fun _ _ _ _ _ => (pg_name (i := 4) sc_best_slots.nd rfl (.inl rfl))) (fun _ _ _ _ _ => pts_nil) (fun _ _ _ _ _ => (pe_dget1 hu (pv 3) (pv 4) ⟨rfl, rfl, rfl, rfl⟩))) pa_nil))))))), ?_⟩
  refine ⟨v, rfl, v, N, g, rfl, hv, hg, fun p H1 cl xs hp s1 hfx hbw e1 hd1 => ?_⟩
  intro a ha
  have haH := none_same s1 ha
  have s2 := s1.trans (same_new (o := .dK []) ha)
  have sb2 : Same H1 (upd H1 a (.dK [])) := same_new ha
  have e2 : (upd H1 a (.dK [])) a = some (.dK []) := upd_same
  have ep2 := sb2 _ _ e1
  have hd2 := dpAll_mono sb2 _ _ hd1
  have npa : p ≠ a := ne_of_none e1 ha
  generalize upd H1 a (.dK []) = H2 at s2 e2 ep2 hd2 ⊢
  refine ⟨v, rfl, u, rfl, v, u, N, g, ks, rfl, dp_mono s2 _ _ hv, hg, dp_mono s2 _ _ hu0, hkl, fun pn H3 hpn s3 h3 => ?_⟩
  have hnn : (nd ks (occ g)).Nodup := nd_nodup hkn (pw_nodup (pw_srt _))
  have hnl : (nd ks (occ g)).length ≤ 26 := by
    unfold nd
    rw [List.length_append]
    have h1 := List.length_filter_le (fun v => !decide (v ∈ ks)) (occ g)
    have h2 : (occ g).length ≤ 16 := srt_len _
    omega
  have hpl : (apartG g cl).length ≤ 2240 := by
    have h1 := apart_len cl g.blocks
    have h2 := hg.few
    show (g.blocks.flatMap _).length ≤ _
    omega
  have e3 := s3 _ _ e2
  have ep3 := s3 _ _ ep2
  have hd3 := dpAll_mono s3 _ _ hd2
  have s03 := s2.trans s3
  have nna : pn ≠ a := fun z => by rw [z, e2] at hpn; cases hpn
  clear ep2 e2 hd2 sb2
  generalize hns : nd ks (occ g) = ns at h3 hnn hnl
  generalize hps : apartG g cl = ps at hd3 hpl hd1
  refine ⟨pn, rfl, ⟨_, .inl (.inl h3)⟩, ?_⟩
  refine for_list (xs := ns.map nV) (fun i σ H4 => ∃ x4 x5 x6 x7, σ = [some v, some u, some (.ref p), some (.ref a), x4, x5, x6, x7, none, none] ∧ H4 a = some (.dK (slK (best ps ks (ns.take i)))) ∧ SB a H3 H4) ⟨_, _, _, _, rfl, e3, SB.refl _ _⟩ ?_ ?_ ?_
  · rintro i σ H4 _ ⟨x4, x5, x6, x7, rfl, _, s4⟩
    exact .inl (.inl (s4 _ _ nna h3))
  · rintro i x σ H4 hi ⟨x4, x5, x6, x7, rfl, e4, s4⟩
    rw [List.getElem?_map] at hi
    obtain ⟨m, hm, rfl⟩ := Option.map_eq_some_iff.mp hi
    rw [best_snoc ps ks hm]
    have hnot := best_not (ps := ps) (ks := ks) hnn hm
    have hbl : (best ps ks (ns.take i)).length ≤ 26 := by
      rw [best_len, List.length_take]
      omega
    have hm2 : m = m := rfl
    generalize best ps ks (ns.take i) = sl at e4 hnot hbl
    have ep4 := s4 _ _ npa ep3
    have hd4 := dpAll_kt (s4.kt e3) _ _ (nlP _) hd3
    have hu4 : Dp K H4 u (nsD ks) := dp_mono (s4.same s03 haH) _ _ hu0
    -- others
    refine ⟨_, rfl, p, rfl, ⟨_, .inl (.inl ep4)⟩, fun D1 hD1 => ?_⟩
    have hp1 : ∀ (f : Nat × Nat → Bool) (o : Nat × Nat → Nat) (i : Nat), ((((ps.take i).filter f).map o).map nV).length < sizeLine := fun f o i => by
      have h1 := List.length_filter_le f (ps.take i)
      rw [List.length_take] at h1
      rw [List.length_map, List.length_map]
      exact small_line (by omega)
    have snoc : ∀ (f : Nat × Nat → Bool) (o : Nat × Nat → Nat) (i : Nat) (r : Nat × Nat), ps[i]? = some r → ((ps.take (i + 1)).filter f).map o = ((ps.take i).filter f).map o ++ (if f r = true then [o r] else []) := fun f o i r hr => by
      rw [filter_snoc hr, List.map_append]
      congr 1
      cases f r <;> rfl
    have len0 : ∀ (f : Nat × Nat → Bool) (o : Nat × Nat → Nat), ((ps.filter f).map o).length ≤ 2240 := fun f o => by
      rw [List.length_map]
      exact Nat.le_trans (List.length_filter_le f ps) hpl
    have hxl := dpAll_len hd4
    rw [List.length_map] at hxl
    refine lc_list (xs := xs) (fun i H5 => H5 D1 = some (.lst ((((ps.take i).filter fun r => decide (r.1 = m)).map (·.2)).map nV)) ∧ Same H4 H5) ⟨upd_same, same_new hD1⟩ ?_ ?_ ?_
    · rintro i H5 _ ⟨_, s5⟩
      exact .inl (.inl (s5 _ _ ep4))
    · rintro i x H5 hi ⟨h5, s5⟩
      obtain ⟨r, hr, hx⟩ := dpAll_map_get hd4 hi
      have hx := dp_mono s5 _ _ hx
      cases hx with
      | @tup ax xx _ sqx hax =>
        cases hax with
        | @cons z1 d1 zs1 ds1 g1 hax =>
          cases hax with
          | @cons z2 d2 zs2 ds2 g2 hax =>
            cases hax
            cases g1
            cases g2
            refine ⟨ax, _, rfl, sqx, rfl, _, _, rfl, _, _, rfl, rfl, rfl, _, rfl, _, rfl, rfl, _, rfl, ?_⟩
            rw [len_eq, snoc _ _ _ _ hr]
            cases hb : decide (r.1 = m) with
            | false =>
              refine iteF ⟨?_, s5⟩
              rw [if_neg Bool.false_ne_true, List.append_nil]
              exact h5
            | true =>
              refine iteT ⟨_, rfl, _, h5, hp1 _ _ _, ?_, fun b' o' e' => ?_⟩
              · rw [upd_same, if_pos rfl, List.map_append]
                rfl
              · rw [upd_ne (ne_of_none e' hD1)]
                exact s5 _ _ e'
    rintro H5 ⟨h5, s5⟩
    rw [hxl, List.take_length] at h5
    have ep5 := s5 _ _ ep4
    have hd5 := dpAll_mono s5 _ _ hd4
    refine ⟨_, rfl, p, rfl, ⟨_, .inl (.inl ep5)⟩, fun D2 hD2 => ?_⟩
    refine lc_list (xs := xs) (fun i H6 => H6 D2 = some (.lst ((((ps.take i).filter fun r => decide (r.2 = m)).map (·.1)).map nV)) ∧ Same H5 H6) ⟨upd_same, same_new hD2⟩ ?_ ?_ ?_
    · rintro i H6 _ ⟨_, s6⟩
      exact .inl (.inl (s6 _ _ ep5))
    · rintro i x H6 hi ⟨h6, s6⟩
      obtain ⟨r, hr, hx⟩ := dpAll_map_get hd5 hi
      have hx := dp_mono s6 _ _ hx
      cases hx with
      | @tup ax xx _ sqx hax =>
        cases hax with
        | @cons z1 d1 zs1 ds1 g1 hax =>
          cases hax with
          | @cons z2 d2 zs2 ds2 g2 hax =>
            cases hax
            cases g1
            cases g2
            refine ⟨ax, _, rfl, sqx, rfl, _, _, rfl, _, _, rfl, rfl, rfl, _, rfl, _, rfl, rfl, _, rfl, ?_⟩
            rw [len_eq, snoc _ _ _ _ hr]
            cases hb : decide (r.2 = m) with
            | false =>
              refine iteF ⟨?_, s6⟩
              rw [if_neg Bool.false_ne_true, List.append_nil]
              exact h6
            | true =>
              refine iteT ⟨_, rfl, _, h6, hp1 _ _ _, ?_, fun b' o' e' => ?_⟩
              · rw [upd_same, if_pos rfl, List.map_append]
                rfl
              · rw [upd_ne (ne_of_none e' hD2)]
                exact s6 _ _ e'
    rintro H6 ⟨h6, s6⟩
    rw [hxl, List.take_length] at h6
    have l1 := len0 (fun r => decide (r.1 = m)) (·.2)
    have l2 := len0 (fun r => decide (r.2 = m)) (·.1)
    refine ⟨_, _, _, _, rfl, rfl, s6 _ _ h5, h6, by simp only [List.length_map] at l1 l2 ⊢; rw [sizeLine_eq]; omega, fun p7 hp7 => ?_⟩
    have ho : others ps m = (ps.filter fun r => decide (r.1 = m)).map (·.2) ++ (ps.filter fun r => decide (r.2 = m)).map (·.1) := rfl
    have hol : (others ps m).length ≤ 4480 := by rw [ho, List.length_append]; omega
    generalize eH7 : upd H6 p7 _ = H7
    have s47 : Same H4 H7 := eH7 ▸ s5.trans (s6.trans (same_new hp7))
    have e7 : H7 p7 = some (.lst ((others ps m).map nV)) := by rw [← eH7, upd_same, ho, List.map_append]
    clear eH7
    have hp74 := none_same (s5.trans s6) hp7
    have n7a : p7 ≠ a := fun z => by rw [z, e4] at hp74; cases hp74
    have hu7 := dp_mono s47 _ _ hu4
    cases hu7 with
    | @tup au xu _ squ hau =>
      have eu := dpAll_nV hau
      subst eu
      refine ⟨_, rfl, _, rfl, au, _, rfl, .inr squ, rfl, flat_nats _, _, rfl, ?_⟩
      show if inV (nV m) (ks.map nV) = true then _ else _
      rw [in_nats]
      refine if_join (I := fun H8 => SB a H4 H8 ∧ H8 a = some (.dK (slK sl)) ∧ H8 p7 = some (.lst ((others ps m ++ (if m ∈ ks then ks else [])).map nV))) (C := fun H8 => _) (fun hb k => k H7 ⟨SB.of s47, s47 _ _ e4, ?_⟩) (fun hb k => ⟨.ref p7, rfl, .inl ⟨rfl, _, .inl (.inl e7)⟩, .ref au, rfl, p7, au, _, _, rfl, rfl, e7, squ, by rw [List.length_map, List.length_map, sizeLine_eq]; omega, k _ ⟨?_, ?_, ?_⟩⟩) ?_
      · rw [if_neg (of_decide_eq_false hb), List.append_nil]
        exact e7
      · intro b' o' n' e'
        rw [upd_ne (fun z => by rw [z, hp74] at e'; cases e')]
        exact s47 _ _ e'
      · rw [upd_ne n7a.symm]
        exact s47 _ _ e4
      · rw [upd_same, if_pos (of_decide_eq_true hb), List.map_append]
      rintro H8 ⟨s8, e8, h8⟩
      have hol2 : (others ps m ++ (if m ∈ ks then ks else [])).length ≤ 4490 := by
        rw [List.length_append]
        split
        · omega
        · show _ + 0 ≤ _
          omega
      have htak : takenP ps ks m sl = ((others ps m ++ (if m ∈ ks then ks else [])).filter fun w => (look sl w).isSome).map fun w => (look sl w).getD 0 := rfl
      generalize others ps m ++ (if m ∈ ks then ks else []) = os at h8 hol2 htak
      show tSeq _ _ _ _ H8
      refine ⟨_, rfl, p7, rfl, ⟨_, .inl (.inl h8)⟩, fun D9 hD9 => ?_⟩
      have hD9a : D9 ≠ a := fun z => by rw [z, e8] at hD9; cases hD9
      refine lc_list (xs := os.map nV) (fun i H9 => H9 D9 = some (.lst ((((os.take i).filter fun w => (look sl w).isSome).map fun w => (look sl w).getD 0).map nV)) ∧ Same H8 H9) ⟨upd_same, same_new hD9⟩ ?_ ?_ ?_
      · rintro i H9 _ ⟨_, s9⟩
        exact .inl (.inl (s9 _ _ h8))
      · rintro i x H9 hi ⟨h9, s9⟩
        rw [List.getElem?_map] at hi
        obtain ⟨y, hy, rfl⟩ := Option.map_eq_some_iff.mp hi
        have e9 := s9 _ _ e8
        have hdg : DGet H9 a (nV y) ((look sl y).map nV) := by
          rw [← valV_slK]
          exact DGet.k (k := Sum.inl (y : Int)) e9
        refine ⟨rfl, _, rfl, _, rfl, a, _, rfl, hdg, _, rfl, ?_⟩
        rw [filter_snoc hy, List.map_append]
        cases hl : look sl y with
        | none =>
          refine iteF ⟨?_, s9⟩
          rw [if_neg (by decide)]
          show H9 D9 = some (.lst ((_ ++ []).map nV))
          rw [List.append_nil]
          exact h9
        | some z =>
          rw [hl] at hdg
          refine iteT ⟨_, rfl, _, rfl, a, nV z, rfl, hdg, _, h9, ?_, ?_, fun b' o' e' => ?_⟩
          · have h1 := List.length_filter_le (fun w => (look sl w).isSome) (os.take i)
            rw [List.length_take] at h1
            rw [List.length_map, List.length_map]
            exact small_line (by omega)
          · rw [upd_same, if_pos (show (some z).isSome = true from rfl), List.map_append]
            show _ = some (HO.lst (_ ++ [nV ((look sl y).getD 0)]))
            rw [hl]
            rfl
          · rw [upd_ne (ne_of_none e' hD9)]
            exact s9 _ _ e'
      rintro H9 ⟨h9, s9⟩
      rw [List.length_map, List.take_length, ← htak] at h9
      obtain ⟨_, mx1, mx2⟩ := mex_first (takenP ps ks m sl)
      refine ⟨fun m' σ H' => ∃ s : Nat, σ = [some v, some (.ref au), some (.ref p), some (.ref a), some (nV m), some (.ref p7), some (.ref D9), some (nV s), none, none] ∧ H' = H9 ∧ m' = mex (takenP ps ks m sl) - s ∧ s ≤ mex (takenP ps ks m sl) ∧ ∀ j, j < s → j ∈ takenP ps ks m sl, ⟨_, 0, rfl, rfl, rfl, Nat.zero_le _, fun j hj => absurd hj (Nat.not_lt_zero _)⟩, ?_⟩
      rintro m' σ H' ⟨s', rfl, rfl, rfl, hs1, hs2⟩
      refine ⟨_, rfl, _, rfl, D9, _, rfl, .inl (.inl (.inl h9)), rfl, flat_nats _, _, rfl, ?_⟩
      show if inV (nV s') ((takenP ps ks m sl).map nV) = true then _ else _
      rw [in_nats]
      by_cases hin : s' ∈ takenP ps ks m sl
      · rw [decide_eq_true hin]
        have hne : s' ≠ mex (takenP ps ks m sl) := fun z => mx1 (z ▸ hin)
        refine iteT ⟨fun σ' H'' => ∃ m2, m2 < mex (takenP ps ks m sl) - s' ∧ ∃ s : Nat, σ' = [some v, some (.ref au), some (.ref p), some (.ref a), some (nV m), some (.ref p7), some (.ref D9), some (nV s), none, none] ∧ H'' = H' ∧ m2 = mex (takenP ps ks m sl) - s ∧ s ≤ mex (takenP ps ks m sl) ∧ ∀ j, j < s → j ∈ takenP ps ks m sl, fun _ _ h => h, ?_⟩
        refine ⟨_, rfl, _, _, rfl, rfl, mex (takenP ps ks m sl) - (s' + 1), by omega, s' + 1, rfl, rfl, rfl, by omega, fun j hj => ?_⟩
        by_cases e : j = s'
        · rw [e]; exact hin
        · exact hs2 j (by omega)
      · rw [decide_eq_false hin]
        have es : s' = mex (takenP ps ks m sl) := mex_of hin hs2
        subst es
        refine iteF ?_
        have e9 := s9 _ _ e8
        refine ⟨_, rfl, _, rfl, _, rfl, a, _, rfl, DPut.k (k := Sum.inl (m : Int)) e9 (by rw [slK_len]; exact small_line (by omega)), _, _, _, _, rfl, ?_, ?_⟩
        · rw [upd_same, putK_slK _ hnot]
        · exact (s4.trans s8).trans ((SB.of s9).trans SB.put)
  · rintro σ H4 ⟨x4, x5, x6, x7, rfl, e4, s4⟩
    rw [List.length_map, List.take_length] at e4
    have s04 := s4.same s03 haH
    refine ⟨v, rfl, v, N, g, rfl, dp_mono s04 _ _ hv, hg, fun H5 s5 => ⟨_, rfl, by omega, ?_, fun D6 hD6 => ?_⟩⟩
    · have := cnt_le hg
      omega
    have e5 := s5 _ _ e4
    have hc := cnt_le hg
    refine lc_range (lo := 0) (n := ((cnt g : Nat) : Int).toNat) (fun i H6 => H6 D6 = some (.lst ((List.range i).map fun j => ovV (look (best ps ks ns) j))) ∧ Same H5 H6) ⟨upd_same, same_new hD6⟩ ?_ ?_
    · rintro i H6 hi ⟨h6, s6⟩
      have hdg : DGet H6 a (.int (0 + (i : Int))) ((look (best ps ks ns) i).map nV) := by
        rw [← valV_slK, Int.zero_add]
        exact DGet.k (k := Sum.inl (i : Int)) (s6 _ _ e5)
      refine ⟨rfl, tyes ⟨_, rfl, a, rfl, .inl ⟨_, .inl (s6 _ _ e5)⟩, _, rfl, _, hdg, _, h6, ?_, ?_, fun b' o' e' => ?_⟩⟩
      · rw [List.length_map, List.length_range]
        exact small_line (by omega)
      · rw [upd_same, List.range_succ, List.map_append]
        congr 3
        show [_] = [ovV (look (best ps ks ns) i)]
        cases look (best ps ks ns) i <;> rfl
      · rw [upd_ne (ne_of_none e' hD6)]
        exact s6 _ _ e'
    rintro H6 ⟨h6, s6⟩
    rw [Int.toNat_natCast] at h6
    refine ⟨D6, _, rfl, .inl ⟨.inl (.inl h6), fun p7 hp7 => q _ _ cl (s04.trans (s5.trans (s6.trans (same_new hp7)))) hfx hbw ?_⟩⟩
    rw [hps]
    unfold bestD bestL
    rw [hns]
    exact dp_tupN hp7 (dpAll_ov _ _)
theorem c_best_slots (T : Txt w K mg) : Cal P w K mg base "best_slots" 7 ["graph", "kept"] (spBest K) := by
  obtain ⟨fd, F, G⟩ := f_best_slots (P := P) (w := w) (base := base) T
  exact ⟨⟨fd, G, F.bindsN fun _ _ _ _ _ _ us hl => match us, hl with | [_, _], _ => rfl⟩, T.g _ (by decide), F.kp⟩
theorem c_best_slots_graph_kept (T : Txt w K mg) : CalK P w K mg base "best_slots" 7 ["graph", "kept"] ["graph", "kept"] id (spBest K) := by
  obtain ⟨fd, F, G⟩ := f_best_slots (P := P) (w := w) (base := base) T
  exact ⟨⟨fd, _, G, kbn0 (g := id) (gV := id) F (fun _ _ _ _ _ _ ws hl => match ws, hl with | [_, _], _ => rfl) (fun r => r)⟩, T.g _ (by decide), F.kp⟩
end
end K51

set_option maxHeartbeats 4000000
namespace K51
open PySem PySem.Spec PyProof.Rows L2 HG P52 P51
theorem slK_get (sl : List (Nat × Nat)) (i : Nat) {k : Key} {v : V} (h : (slK sl)[i]? = some (k, v)) : ∃ r, sl[i]? = some r ∧ k = Sum.inl (r.1 : Int) ∧ v = nV r.2 := by
  unfold slK at h
  rw [List.getElem?_map] at h
  obtain ⟨r, hr, e⟩ := Option.map_eq_some_iff.mp h
  injection e with e1 e2
  exact ⟨r, hr, e1.symm, e2.symm⟩
theorem best_nodup {ps : List (Nat × Nat)} {ks ns : List Nat} (hn : ns.Nodup) (i : Nat) : ((best ps ks (ns.take i)).map (·.1)).Nodup := by
  unfold best
  rw [best_keys]
  show ([] ++ ns.take i).Nodup
  rw [List.nil_append]
  exact hn.sublist (List.take_sublist i ns)
def tkP (ps : List (Nat × Nat)) (ks : List Nat) (m : Nat) (r : Nat × Nat) : Bool := decide (r.1 ∈ others ps m) || (decide (m ∈ ks) && decide (r.1 ∈ ks))
def spLBest (K : PySem.W.Frag) : Sp := fun vs H Q _ => ∃ (v u : V) (p : Addr) (N : Nat) (g : Gr) (ks : List Nat) (cl : List (List Nat)) (xs : List V), vs = [v, u, .ref p] ∧ Dp K H v g.D ∧ GrB N g ∧ Dp K H u (nsD ks) ∧ ks.length ≤ 10 ∧ ks.Nodup ∧
  H p = some (.lst xs) ∧ DpAll K H xs ((apartG g cl).map pD) ∧ ∀ z H', Same H H' → Dp K H' z (.tuple (bestD g ks (apartG g cl))) → Q z H'
section
variable {P : Program} {w : World} {K : PySem.W.Frag} {mg : Str → Option Value} {base : Heap}
set_option pp.maxSteps 600 in
theorem c_best (T : Txt w K mg) : Cal P w K mg base "_law_best" 6 ["_law_shape", "_law_held", "_law_pairs_here"] (spLBest K) := by
  obtain ⟨fd, F⟩ := T.d__law_best
  have C__law_occur := c_occur (P := P) (w := w) (base := base) T
  refine ⟨⟨fd, F.ok sc__law_best (fun vs H Q E h => by repeat (first | (obtain ⟨e, _⟩ := h; subst e; rfl) | (obtain ⟨_, h⟩ := h))) (fun cdv A outer s H vs Q E hr h => ?_), F.bindsN fun _ _ _ _ _ _ us hl => match us, hl with | [_, _, _], _ => rfl⟩, T.g _ (by decide), F.kp⟩
  obtain ⟨v, u, p, N, g, ks, cl, xs, rfl, hv, hg, hu0, hkl, hkn, sp0, hd0, q⟩ := h
  have hu := hu_of hr
  refine ⟨_, PSs.nox (pss_cons (ps_set (i := 3) sc__law_best.nd rfl (.inl rfl) (pe_cal C__law_occur (hr.mono (by omega)) (by rfl) (pa_cons (pv 0) pa_nil)))
      (pss_cons (ps_asg (pe_tup (pa_cons (pe_callB (cr_max rfl) (by rfl) T.n_max (by decide +kernel) (pa_cons (pe_op op_cat (pe_lst (pa_cons (pe_ix (ix_P (K := K) rfl) (pv 0) pe_int (fun _ _ => rfl)) pa_nil)) (pe_lc (own := [("_law_v", 6)]) (by rfl) sc__law_best.nd (pi_list (pv 3)) (blkOk_by (own := [("_law_v", 6)]) (N := N__law_best) (sc := defScope s__law_best) (by decide +kernel)) (fun _ _ _ _ _ => (pg_name (i := 6) sc__law_best.nd rfl (.inl rfl))) (fun _ _ _ _ _ => pts_nil) (fun _ _ _ _ _ => (pe_op op_add (pv 6) pe_int)))) pa_nil)) (pa_cons pe_dnewK pa_nil))) (pg_tupK (K := K) (n := 2) rfl rfl (pgs_cons (pg_name (i := 4) sc__law_best.nd rfl (.inl rfl)) (pgs_cons (pg_name (i := 5) sc__law_best.nd rfl (.inr rfl)) pgs_nil))))
      (pss_cons (ps_for PassesOwn.never rfl (pi_list (pe_op op_cat (pe_callTy call_list_of (by rfl) T.n_list (by decide +kernel) (pa_cons (pv 1) pa_nil)) (pe_lc (own := [("_law_v", 6)]) (by rfl) sc__law_best.nd (pi_list (pv 3)) (blkOk_by (own := [("_law_v", 6)]) (N := N__law_best) (sc := defScope s__law_best) (by decide +kernel)) (fun _ _ _ _ _ => (pg_name (i := 6) sc__law_best.nd rfl (.inl rfl))) (fun _ _ _ _ _ => pts_one (pt_cmpR (op_notIn_seqK (K := K) rfl) (pv 6) (pv 1) (by rfl))) (fun _ _ _ _ _ => (pv 6))))) (pg_name (i := 6) sc__law_best.nd rfl (.inr rfl)) (pss_cons (ps_set (i := 7) sc__law_best.nd rfl (.inr rfl) (pe_op op_cat (pe_lc (own := [("_law_one", 9), ("_law_w", 10)]) (by rfl) sc__law_best.nd (pi_list (pv 2)) (blkOk_by (own := [("_law_one", 9), ("_law_w", 10)]) (N := N__law_best) (sc := defScope s__law_best) (by decide +kernel)) (fun _ _ _ _ _ => (pg_tupK (K := K) (n := 2) rfl rfl (pgs_cons (pg_name (i := 9) sc__law_best.nd rfl (.inl rfl)) (pgs_cons (pg_name (i := 10) sc__law_best.nd rfl (.inl rfl)) pgs_nil)))) (fun _ _ _ _ _ => pts_one (pt_cmpR op_eq (pv 9) (pv 6) (nomark _))) (fun _ _ _ _ _ => (pv 10))) (pe_lc (own := [("_law_one", 9), ("_law_w", 10)]) (by rfl) sc__law_best.nd (pi_list (pv 2)) (blkOk_by (own := [("_law_one", 9), ("_law_w", 10)]) (N := N__law_best) (sc := defScope s__law_best) (by decide +kernel)) (fun _ _ _ _ _ => (pg_tupK (K := K) (n := 2) rfl rfl (pgs_cons (pg_name (i := 9) sc__law_best.nd rfl (.inl rfl)) (pgs_cons (pg_name (i := 10) sc__law_best.nd rfl (.inl rfl)) pgs_nil)))) (fun _ _ _ _ _ => pts_one (pt_cmpR op_eq (pv 10) (pv 6) (nomark _))) (fun _ _ _ _ _ => (pv 9)))))
      (pss_cons (ps_set (i := 8) sc__law_best.nd rfl (.inr rfl) (pe_lock (pe_lc (own := [("_law_w", 10)]) (by rfl) sc__law_best.nd (pi_keys (pv 5)) (blkOk_by (own := [("_law_w", 10)]) (N := N__law_best) (sc := defScope s__law_best) (by decide +kernel)) (fun _ _ _ _ _ => (pg_name (i := 10) sc__law_best.nd rfl (.inl rfl))) (fun _ _ _ _ _ => pts_one (PW.pt (pw_or (pt_cmpR (op_in_seqK (K := K) rfl) (pv 10) (pv 7) (by rfl)) (pw_or1 (PW.pt (pw_and (pt_cmpR (op_in_seqK (K := K) rfl) (pv 6) (pv 1) (by rfl)) (pw_and1 (pt_cmpR (op_in_seqK (K := K) rfl) (pv 10) (pv 1) (by rfl))))))))) (fun _ _ _ _ _ => (pe_dget hu (pv 5) (pv 10) (fun _ _ => rfl))))))
      (pss_one (ps_dput hu (pv 5) (pv 6) (pe_ix (ix_listK (K := K) rfl) (pe_lc (own := [("_law_slot", 11)]) (by rfl) sc__law_best.nd (pi_range1 (by rfl) T.n_range (pa_cons (pe_op op_add (pe_callB (lenK (K := K) rfl) (by rfl) T.n_len (by decide +kernel) (pa_cons (pv 8) pa_nil)) pe_int) pa_nil)) (blkOk_by (own := [("_law_slot", 11)]) (N := N__law_best) (sc := defScope s__law_best) (by decide +kernel)) (fun _ _ _ _ _ => (pg_name (i := 11) sc__law_best.nd rfl (.inl rfl))) (fun _ _ _ _ _ => pts_one (pt_cmpR (op_notIn_seqK (K := K) rfl) (pv 11) (pv 8) (by rfl))) (fun _ _ _ _ _ => (pv 11))) pe_int (fun _ _ => rfl)) rfl)))))
      (pss_one (ps_ret (pe_callTy call_tuple_of (by rfl) T.n_tuple (by decide +kernel) (pa_cons (pe_lc (own := [("_law_v", 6)]) (by rfl) sc__law_best.nd (pi_range1 (by rfl) T.n_range (pa_cons (pv 4) pa_nil)) (blkOk_by (own := [("_law_v", 6)]) (N := N__law_best) (sc := defScope s__law_best) (by decide +kernel)) (fun _ _ _ _ _ => (pg_name (i := 6) sc__law_best.nd rfl (.inl rfl))) (fun _ _ _ _ _ => pts_nil) (fun _ _ _ _ _ => (pe_dget1 hu (pv 5) (pv 6) ⟨rfl, rfl, rfl, rfl⟩))) pa_nil))))))), ?_⟩
  have hol := occ_len g
  refine ⟨v, rfl, v, N, g, rfl, hv, hg, fun a1 H1 ha1 s1 h1 => ?_⟩
  refine ⟨v, rfl, _, 0, _, dp_mono s1 _ _ hv, rfl, rfl, fun z hz => ?_⟩
  cases hz
  refine ⟨(by show 1 ≤ sizeLine; decide), fun l2 hl2 => ?_⟩
  have s2 := same_new (o := .lst [nV g.count]) hl2
  have e2 : (upd H1 l2 (.lst [nV g.count])) l2 = some (.lst [nV g.count]) := upd_same
  show tLc _ _ _ _ _ _ (upd H1 l2 (.lst [nV g.count])) _
  generalize upd H1 l2 (.lst [nV g.count]) = H2 at s2 e2 ⊢
  have h12 := s2 _ _ h1
  refine ⟨_, rfl, a1, rfl, ⟨_, .inl (.inl h12)⟩, fun D3 hD3 => ?_⟩
  refine lc_list (xs := (occ g).map nV) (fun i H3 => H3 D3 = some (.lst (((occ g).take i).map fun v : Nat => V.int ((v : Int) + 1))) ∧ Same H2 H3) ⟨upd_same, same_new hD3⟩ ?_ ?_ ?_
  · rintro i H3 _ ⟨_, s3⟩
    exact .inl (.inl (s3 _ _ h12))
  · rintro i x H3 hi ⟨h3, s3⟩
    rw [List.getElem?_map] at hi
    obtain ⟨m, hm, rfl⟩ := Option.map_eq_some_iff.mp hi
    refine ⟨rfl, tyes ⟨_, rfl, _, _, rfl, rfl, _, h3, ?_, ?_, fun b' o' e' => ?_⟩⟩
    · rw [List.length_map, List.length_take]
      exact small_line (by omega)
    · rw [upd_same, map_take_snoc _ hm]
    · rw [upd_ne (ne_of_none e' hD3)]
      exact s3 _ _ e'
  rintro H3 ⟨h3, s3⟩
  rw [List.length_map, List.take_length] at h3
  refine ⟨l2, D3, _, _, rfl, rfl, s3 _ _ e2, h3, by rw [List.length_map, sizeLine_eq]; show 1 + (occ g).length ≤ _; omega, fun p4 hp4 => ?_⟩
  generalize eH4 : upd H3 p4 _ = H4
  have s14 : Same H1 H4 := eH4 ▸ s2.trans (s3.trans (same_new hp4))
  have e4 : H4 p4 = some (.lst ((iN g.count :: (occ g).map fun v => iN (v + 1)).map V.int)) := by
    rw [← eH4, upd_same, List.map_cons, plus_nats]
    rfl
  clear eH4
  refine ⟨p4, _, rfl, .inl (.inl e4), by rw [List.length_cons]; omega, fun m hm hmax => ?_⟩
  have em := max_cnt hm hmax
  subst em
  have s04 := s1.trans s14
  have h14 := s14 _ _ h1
  clear e4 hmax hm h3 s3 h12 s2 e2 s14
  intro a ha
  have haH := none_same s04 ha
  have s5 := same_new (o := .dK []) ha
  have e5 : (upd H4 a (.dK [])) a = some (.dK []) := upd_same
  have s05 := s04.trans s5
  have h15 := s5 _ _ h14
  generalize upd H4 a (.dK []) = H5 at s5 e5 s05 h15 ⊢
  refine ⟨(by show 2 ≤ sizeLine; decide), fun p6 hp6 => ⟨p6, _, rfl, .inl (.inl upd_same), rfl, _, _, rfl, _, _, rfl, rfl, ?_⟩⟩
  have s6 := same_new (o := .tup [nV (cnt g), .ref a]) hp6
  have e6 := s6 _ _ e5
  have s06 := s05.trans s6
  have h16 := s6 _ _ h15
  show tSeq _ _ _ _ (upd H5 p6 (.tup [nV (cnt g), .ref a]))
  generalize upd H5 p6 (.tup [nV (cnt g), .ref a]) = H6 at s6 e6 s06 h16 ⊢
  have hu6 := dp_mono s06 _ _ hu0
  obtain ⟨au, xu, rfl, squ, hau⟩ := dp_seq hu6
  have eu := dpAll_nV hau
  subst eu
  -- the list walked over
  refine ⟨_, rfl, au, _, rfl, .inr squ, fun l7 hl7 => ?_⟩
  have s7 := same_new (o := .lst (ks.map nV)) hl7
  have e7 : (upd H6 l7 (.lst (ks.map nV))) l7 = some (.lst (ks.map nV)) := upd_same
  have h17 := s7 _ _ h16
  show tLc _ _ _ _ _ _ (upd H6 l7 (.lst (ks.map nV))) _
  generalize upd H6 l7 (.lst (ks.map nV)) = H7 at s7 e7 h17 ⊢
  refine ⟨_, rfl, a1, rfl, ⟨_, .inl (.inl h17)⟩, fun D8 hD8 => ?_⟩
  refine lc_list (xs := (occ g).map nV) (fun i H8 => H8 D8 = some (.lst ((((occ g).take i).filter fun v => !decide (v ∈ ks)).map nV)) ∧ Same H7 H8) ⟨upd_same, same_new hD8⟩ ?_ ?_ ?_
  · rintro i H8 _ ⟨_, s8⟩
    exact .inl (.inl (s8 _ _ h17))
  · rintro i x H8 hi ⟨h8, s8⟩
    rw [List.getElem?_map] at hi
    obtain ⟨m, hm, rfl⟩ := Option.map_eq_some_iff.mp hi
    refine ⟨rfl, _, rfl, _, rfl, au, _, rfl, .inr (sqT_same (s7.trans s8) squ), rfl, flat_nats _, _, rfl, ?_⟩
    show if (!inV (nV m) (ks.map nV)) = true then _ else _
    rw [in_nats, filter_snoc hm]
    cases hb : !decide (m ∈ ks) with
    | false =>
      refine iteF ⟨?_, s8⟩
      rw [if_neg Bool.false_ne_true, List.append_nil]
      exact h8
    | true =>
      refine iteT ⟨_, rfl, _, h8, ?_, ?_, fun b' o' e' => ?_⟩
      · rw [List.length_map]
        have := List.length_filter_le (fun v => !decide (v ∈ ks)) ((occ g).take i)
        rw [List.length_take] at this
        exact small_line (by omega)
      · rw [upd_same, if_pos rfl, List.map_append]
        rfl
      · rw [upd_ne (ne_of_none e' hD8)]
        exact s8 _ _ e'
  rintro H8 ⟨h8, s8⟩
  rw [List.length_map, List.take_length] at h8
  have hfl := List.length_filter_le (fun v => !decide (v ∈ ks)) (occ g)
  refine ⟨l7, D8, _, _, rfl, rfl, s8 _ _ e7, h8, by rw [List.length_map, List.length_map, sizeLine_eq]; omega, fun pn hpn => ?_⟩
  generalize eH3 : upd H8 pn _ = H3
  have s63 : Same H6 H3 := eH3 ▸ s7.trans (s8.trans (same_new hpn))
  have h3 : H3 pn = some (.lst ((nd ks (occ g)).map nV)) := by
    rw [← eH3, upd_same]
    unfold nd
    rw [List.map_append]
  have nna : pn ≠ a := fun z => by
    have := (s7.trans s8) _ _ e6
    rw [← z, hpn] at this
    cases this
  clear eH3
  have e3 := s63 _ _ e6
  have s03 := s06.trans s63
  have ep3 := s03 _ _ sp0
  have npa : p ≠ a := ne_of_none sp0 haH
  have hd3 := dpAll_mono s03 _ _ hd0
  have squ3 := sqT_same s63 squ
  have hnn : (nd ks (occ g)).Nodup := nd_nodup hkn (pw_nodup (pw_srt _))
  have hnl : (nd ks (occ g)).length ≤ 26 := by
    unfold nd
    rw [List.length_append]
    omega
  have hpl : (apartG g cl).length ≤ 2240 := by
    have h1 := apart_len cl g.blocks
    have h2 := hg.few
    show (g.blocks.flatMap _).length ≤ _
    omega
  have h13 := s63 _ _ h16
  clear s5 e5 s6 e6 h14 h15 h16 h17 s7 e7 h8 s8 hpn hD8 hl7 hp6
  generalize hns : nd ks (occ g) = ns at h3 hnn hnl
  generalize hps : apartG g cl = ps at hd3 hpl hd0
  refine ⟨pn, rfl, ⟨_, .inl (.inl h3)⟩, ?_⟩
  refine for_list (xs := ns.map nV) (fun i σ H4 => ∃ x6 x7 x8, σ = [some v, some (.ref au), some (.ref p), some (.ref a1), some (nV (cnt g)), some (.ref a), x6, x7, x8, none, none, none] ∧ H4 a = some (.dK (slK (best ps ks (ns.take i)))) ∧ SB a H3 H4) ⟨_, _, _, rfl, e3, SB.refl _ _⟩ ?_ ?_ ?_
  · rintro i σ H4 _ ⟨_, _, _, rfl, _, s4⟩
    exact .inl (.inl (s4 _ _ nna h3))
  · rintro i x σ H4 hi ⟨x6, x7, x8, rfl, e4, s4⟩
    rw [List.getElem?_map] at hi
    obtain ⟨m, hm, rfl⟩ := Option.map_eq_some_iff.mp hi
    rw [best_snoc ps ks hm]
    have hnot := best_not (ps := ps) (ks := ks) hnn hm
    have hnd := best_nodup (ps := ps) (ks := ks) hnn i
    have hbl : (best ps ks (ns.take i)).length ≤ 26 := by
      rw [best_len, List.length_take]
      omega
    generalize best ps ks (ns.take i) = sl at e4 hnot hbl hnd
    have k34 := s4.kt e3
    have ep4 := s4 _ _ npa ep3
    have hd4 := dpAll_kt k34 _ _ (nlP _) hd3
    have squ4 := sqT_kt k34 squ3
    -- others
    refine ⟨_, rfl, p, rfl, ⟨_, .inl (.inl ep4)⟩, fun D1 hD1 => ?_⟩
    have hp1 : ∀ (f : Nat × Nat → Bool) (o : Nat × Nat → Nat) (i : Nat), ((((ps.take i).filter f).map o).map nV).length < sizeLine := fun f o i => by
      have h1 := List.length_filter_le f (ps.take i)
      rw [List.length_take] at h1
      rw [List.length_map, List.length_map]
      exact small_line (by omega)
    have snoc : ∀ (f : Nat × Nat → Bool) (o : Nat × Nat → Nat) (i : Nat) (r : Nat × Nat), ps[i]? = some r → ((ps.take (i + 1)).filter f).map o = ((ps.take i).filter f).map o ++ (if f r = true then [o r] else []) := fun f o i r hr => by
      rw [filter_snoc hr, List.map_append]
      congr 1
      cases f r <;> rfl
    have len0 : ∀ (f : Nat × Nat → Bool) (o : Nat × Nat → Nat), ((ps.filter f).map o).length ≤ 2240 := fun f o => by
      rw [List.length_map]
      exact Nat.le_trans (List.length_filter_le f ps) hpl
    have hxl := dpAll_len hd4
    rw [List.length_map] at hxl
    refine lc_list (xs := xs) (fun i H5 => H5 D1 = some (.lst ((((ps.take i).filter fun r => decide (r.1 = m)).map (·.2)).map nV)) ∧ Same H4 H5) ⟨upd_same, same_new hD1⟩ ?_ ?_ ?_
    · rintro i H5 _ ⟨_, s5⟩
      exact .inl (.inl (s5 _ _ ep4))
    · rintro i x H5 hi ⟨h5, s5⟩
      obtain ⟨r, hr, hx⟩ := dpAll_map_get hd4 hi
      have hx := dp_mono s5 _ _ hx
      cases hx with
      | @tup ax xx _ sqx hax =>
        cases hax with
        | @cons z1 d1 zs1 ds1 g1 hax =>
          cases hax with
          | @cons z2 d2 zs2 ds2 g2 hax =>
            cases hax
            cases g1
            cases g2
            refine ⟨ax, _, rfl, sqx, rfl, _, _, rfl, _, _, rfl, rfl, rfl, _, rfl, _, rfl, rfl, _, rfl, ?_⟩
            rw [len_eq, snoc _ _ _ _ hr]
            cases hb : decide (r.1 = m) with
            | false =>
              refine iteF ⟨?_, s5⟩
              rw [if_neg Bool.false_ne_true, List.append_nil]
              exact h5
            | true =>
              refine iteT ⟨_, rfl, _, h5, hp1 _ _ _, ?_, fun b' o' e' => ?_⟩
              · rw [upd_same, if_pos rfl, List.map_append]
                rfl
              · rw [upd_ne (ne_of_none e' hD1)]
                exact s5 _ _ e'
    rintro H5 ⟨h5, s5⟩
    rw [hxl, List.take_length] at h5
    have ep5 := s5 _ _ ep4
    have hd5 := dpAll_mono s5 _ _ hd4
    refine ⟨_, rfl, p, rfl, ⟨_, .inl (.inl ep5)⟩, fun D2 hD2 => ?_⟩
    refine lc_list (xs := xs) (fun i H6 => H6 D2 = some (.lst ((((ps.take i).filter fun r => decide (r.2 = m)).map (·.1)).map nV)) ∧ Same H5 H6) ⟨upd_same, same_new hD2⟩ ?_ ?_ ?_
    · rintro i H6 _ ⟨_, s6⟩
      exact .inl (.inl (s6 _ _ ep5))
    · rintro i x H6 hi ⟨h6, s6⟩
      obtain ⟨r, hr, hx⟩ := dpAll_map_get hd5 hi
      have hx := dp_mono s6 _ _ hx
      cases hx with
      | @tup ax xx _ sqx hax =>
        cases hax with
        | @cons z1 d1 zs1 ds1 g1 hax =>
          cases hax with
          | @cons z2 d2 zs2 ds2 g2 hax =>
            cases hax
            cases g1
            cases g2
            refine ⟨ax, _, rfl, sqx, rfl, _, _, rfl, _, _, rfl, rfl, rfl, _, rfl, _, rfl, rfl, _, rfl, ?_⟩
            rw [len_eq, snoc _ _ _ _ hr]
            cases hb : decide (r.2 = m) with
            | false =>
              refine iteF ⟨?_, s6⟩
              rw [if_neg Bool.false_ne_true, List.append_nil]
              exact h6
            | true =>
              refine iteT ⟨_, rfl, _, h6, hp1 _ _ _, ?_, fun b' o' e' => ?_⟩
              · rw [upd_same, if_pos rfl, List.map_append]
                rfl
              · rw [upd_ne (ne_of_none e' hD2)]
                exact s6 _ _ e'
    rintro H6 ⟨h6, s6⟩
    rw [hxl, List.take_length] at h6
    have l1 := len0 (fun r => decide (r.1 = m)) (·.2)
    have l2 := len0 (fun r => decide (r.2 = m)) (·.1)
    refine ⟨_, _, _, _, rfl, rfl, s6 _ _ h5, h6, by simp only [List.length_map] at l1 l2 ⊢; rw [sizeLine_eq]; omega, fun p7 hp7 => ?_⟩
    have ho : others ps m = (ps.filter fun r => decide (r.1 = m)).map (·.2) ++ (ps.filter fun r => decide (r.2 = m)).map (·.1) := rfl
    have hol : (others ps m).length ≤ 4480 := by rw [ho, List.length_append]; omega
    generalize eH7 : upd H6 p7 _ = H7
    have s47 : Same H4 H7 := eH7 ▸ s5.trans (s6.trans (same_new hp7))
    have e7 : H7 p7 = some (.lst ((others ps m).map nV)) := by rw [← eH7, upd_same, ho, List.map_append]
    clear eH7
    have hp74 := none_same (s5.trans s6) hp7
    have n7a : p7 ≠ a := fun z => by rw [z, e4] at hp74; cases hp74
    -- taken
    have e47 := s47 _ _ e4
    have s37 := s4.trans (SB.of s47)
    have squ7 := sqT_kt (s37.kt e3) squ3
    refine ⟨a, .dK (slK sl), e47, trivial, fun od => ?_⟩
    have el : (upd H7 a (.frz od (.dK (slK sl)))) a = some (.frz od (.dK (slK sl))) := upd_same
    have e7l : (upd H7 a (.frz od (.dK (slK sl)))) p7 = some (.lst ((others ps m).map nV)) := by rw [upd_ne n7a]; exact e7
    have squl : SqT K (upd H7 a (.frz od (.dK (slK sl)))) au (ks.map nV) := sqT_kt (KT.dK e47) squ7
    have back : ∀ H9, Same (upd H7 a (.frz od (.dK (slK sl)))) H9 → SB a H7 (upd H9 a (.dK (slK sl))) := fun H9 s9 b o nb e => by
      rw [upd_ne nb]
      exact s9 _ _ (by rw [upd_ne nb]; exact e)
    generalize upd H7 a (.frz od (.dK (slK sl))) = HL at el e7l squl back ⊢
    refine ⟨_, rfl, a, od, rfl, .inl ⟨_, el, fun D9 hD9 => ?_⟩⟩
    have hol2 : (others ps m).length ≤ 4480 := hol
    refine lc_it (walk_keys (kvs := slK sl)) (fun i H9 => H9 D9 = some (.lst ((((sl.take i).filter (tkP ps ks m)).map (·.2)).map nV)) ∧ Same HL H9) ⟨upd_same, same_new hD9⟩ ?_ ?_ ?_
    · rintro i H9 _ ⟨_, s9⟩
      exact s9 _ _ el
    · rintro i x H9 H9' hi ⟨h9, s9⟩ ⟨rfl, k, vv, hkv, rfl⟩
      obtain ⟨r, hr, rfl, rfl⟩ := slK_get sl i hkv
      have hdg : DGet H9' a (nV r.1) (some (nV r.2)) := by
        have e1 := (look_mem hnd).mpr (List.mem_of_getElem? hr)
        have e2 := valV_slK sl r.1
        rw [e1] at e2
        exact .inl ⟨slK sl, Sum.inl (r.1 : Int), .inr ⟨od, s9 _ _ el⟩, rfl, e2.symm⟩
      have hlen : ((((sl.take i).filter (tkP ps ks m)).map (·.2)).map nV).length < sizeLine := by
        have h1 := List.length_filter_le (tkP ps ks m) (sl.take i)
        rw [List.length_take] at h1
        rw [List.length_map, List.length_map]
        exact small_line (by omega)
      have sno := filter_snoc hr (tkP ps ks m)
      have yes : tkP ps ks m r = true → tDGet (tVar 5) (tVar 10) (wipe [some v, some (.ref au), some (.ref p), some (.ref a1), some (nV (cnt g)), some (.ref a), some (nV m), some (.ref p7), x8, none, none, none] [10] |>.set 10 (some (nV r.1))) H9' fun y H10 => ∃ acc, H10 D9 = some (.lst acc) ∧ acc.length < sizeLine ∧ ((upd H10 D9 (.lst (acc ++ [y]))) D9 = some (.lst ((((sl.take (i + 1)).filter (tkP ps ks m)).map (·.2)).map nV)) ∧ Same HL (upd H10 D9 (.lst (acc ++ [y])))) := by
        intro hb
        refine ⟨_, rfl, _, rfl, a, nV r.2, rfl, hdg, _, h9, hlen, ?_, fun b' o' e' => ?_⟩
        · rw [upd_same, sno, if_pos hb, List.map_append, List.map_append]
          rfl
        · rw [upd_ne (ne_of_none e' hD9)]
          exact s9 _ _ e'
      have nope : tkP ps ks m r = false → H9' D9 = some (.lst ((((sl.take (i + 1)).filter (tkP ps ks m)).map (·.2)).map nV)) ∧ Same HL H9' := fun hb => by
        refine ⟨?_, s9⟩
        rw [sno, hb, if_neg Bool.false_ne_true, List.append_nil]
        exact h9
      have squ9 := sqT_same s9 squl
      refine ⟨rfl, _, rfl, _, rfl, p7, _, rfl, .inl (.inl (.inl (s9 _ _ e7l))), rfl, flat_nats _, _, rfl, ?_⟩
      show if inV (nV r.1) ((others ps m).map nV) = true then _ else _
      rw [in_nats]
      by_cases c1 : r.1 ∈ others ps m
      · rw [decide_eq_true c1]
        exact iteT (iteT (yes (by unfold tkP; rw [decide_eq_true c1]; rfl)))
      · rw [decide_eq_false c1]
        refine iteF ⟨_, rfl, _, rfl, au, _, rfl, .inr squ9, rfl, flat_nats _, _, rfl, ?_⟩
        show if inV (nV m) (ks.map nV) = true then _ else _
        rw [in_nats]
        by_cases c2 : m ∈ ks
        · rw [decide_eq_true c2]
          refine iteT ⟨_, rfl, _, rfl, au, _, rfl, .inr squ9, rfl, flat_nats _, _, rfl, ?_⟩
          show if inV (nV r.1) (ks.map nV) = true then _ else _
          rw [in_nats]
          by_cases c3 : r.1 ∈ ks
          · rw [decide_eq_true c3]
            exact iteT (yes (by unfold tkP; rw [decide_eq_true c2, decide_eq_true c3, Bool.and_self, Bool.or_true]))
          · rw [decide_eq_false c3]
            exact iteF (nope (by unfold tkP; rw [decide_eq_false c1, decide_eq_false c3, Bool.and_false]; rfl))
        · rw [decide_eq_false c2]
          exact iteF (iteF (nope (by unfold tkP; rw [decide_eq_false c1, decide_eq_false c2]; rfl)))
    rintro H9 ⟨h9, s9⟩
    rw [slK_len, List.take_length] at h9
    refine ⟨s9 _ _ el, ?_⟩
    have nD9 : D9 ≠ a := fun z => by rw [z, el] at hD9; cases hD9
    have h10 : (upd H9 a (.dK (slK sl))) D9 = some (.lst ((takenL ps ks m sl).map nV)) := by rw [upd_ne nD9]; exact h9
    have e10 : (upd H9 a (.dK (slK sl))) a = some (.dK (slK sl)) := upd_same
    have s310 := s37.trans (back H9 s9)
    have htl : (takenL ps ks m sl).length ≤ 26 := by
      unfold takenL
      rw [List.length_map]
      exact Nat.le_trans (List.length_filter_le _ _) hbl
    obtain ⟨mx0, mx1, mx2⟩ := mex_first (takenL ps ks m sl)
    have emx := mex_same (ps := ps) (ks := ks) (v := m) hnd
    rw [← emx]
    generalize takenL ps ks m sl = tk at h10 htl mx0 mx1 mx2
    have nDn : D9 ≠ a := nD9
    clear emx
    generalize upd H9 a (.dK (slK sl)) = H10 at h10 e10 s310 ⊢
    refine ⟨_, rfl, _, tk.length, rfl, .inl ⟨_, .inl (.inl h10), by rw [List.length_map]⟩, _, _, rfl, rfl, _, rfl, by omega, by omega, fun D11 hD11 => ?_⟩
    have eN : ((tk.length : Int) + 1).toNat = tk.length + 1 := by omega
    refine lc_range (lo := 0) (n := ((tk.length : Int) + 1).toNat) (fun i H11 => H11 D11 = some (.lst (((List.range i).filter fun k => !decide (k ∈ tk)).map nV)) ∧ Same H10 H11) ⟨upd_same, same_new hD11⟩ ?_ ?_
    · rintro i H11 hi ⟨h11, s11⟩
      refine ⟨rfl, _, rfl, _, rfl, D9, _, rfl, .inl (.inl (.inl (s11 _ _ h10))), rfl, flat_nats _, _, rfl, ?_⟩
      show if (!inV (V.int (0 + (i : Int))) (tk.map nV)) = true then _ else _
      rw [Int.zero_add, in_nats]
      have sno : (List.range (i + 1)).filter (fun k => !decide (k ∈ tk)) = (List.range i).filter (fun k => !decide (k ∈ tk)) ++ (if (!decide (i ∈ tk)) = true then [i] else []) := by
        rw [List.range_succ, List.filter_append, List.filter_cons]
        cases decide (i ∈ tk) <;> rfl
      rw [sno]
      cases hb : !decide (i ∈ tk) with
      | false =>
        refine iteF ⟨?_, s11⟩
        rw [if_neg Bool.false_ne_true, List.append_nil]
        exact h11
      | true =>
        refine iteT ⟨_, rfl, _, h11, ?_, ?_, fun b' o' e' => ?_⟩
        · rw [List.length_map]
          have := List.length_filter_le (fun k => !decide (k ∈ tk)) (List.range i)
          rw [List.length_range] at this
          exact small_line (by omega)
        · rw [upd_same, if_pos rfl, List.map_append]
          rfl
        · rw [upd_ne (ne_of_none e' hD11)]
          exact s11 _ _ e'
    rintro H11 ⟨h11, s11⟩
    rw [eN] at h11
    have ix0 : atI (((List.range (tk.length + 1)).filter fun k => !decide (k ∈ tk)).map nV) (((0 : Nat)) : Int) = some (nV (mex tk)) := by
      refine atI_nat ?_
      rw [List.getElem?_map, mx0]
      rfl
    have e11 := s11 _ _ e10
    refine ⟨D11, _, 0, _, rfl, rfl, .inl (.inl h11), ix0, _, rfl, _, rfl, a, _, rfl, DPut.k (k := Sum.inl (m : Int)) e11 (by rw [slK_len]; exact small_line (by omega)), _, _, _, rfl, ?_, ?_⟩
    · rw [upd_same, putK_slK _ hnot]
    · exact s310.trans ((SB.of s11).trans SB.put)
  · rintro σ H4 ⟨x6, x7, x8, rfl, e4, s4⟩
    rw [List.length_map, List.take_length] at e4
    have s04 := s4.same s03 haH
    have hc := cnt_le hg
    refine ⟨_, rfl, _, rfl, by omega, by omega, fun D6 hD6 => ?_⟩
    refine lc_range (lo := 0) (n := ((P51.cnt g : Nat) : Int).toNat) (fun i H6 => H6 D6 = some (.lst ((List.range i).map fun j => ovV (look (best ps ks ns) j))) ∧ Same H4 H6) ⟨upd_same, same_new hD6⟩ ?_ ?_
    · rintro i H6 hi ⟨h6, s6⟩
      have hdg : DGet H6 a (.int (0 + (i : Int))) ((look (best ps ks ns) i).map nV) := by
        rw [← valV_slK, Int.zero_add]
        exact DGet.k (k := Sum.inl (i : Int)) (s6 _ _ e4)
      refine ⟨rfl, tyes ⟨_, rfl, a, rfl, .inl ⟨_, .inl (s6 _ _ e4)⟩, _, rfl, _, hdg, _, h6, ?_, ?_, fun b' o' e' => ?_⟩⟩
      · rw [List.length_map, List.length_range]
        exact small_line (by omega)
      · rw [upd_same, List.range_succ, List.map_append]
        congr 3
        show [_] = [ovV (look (best ps ks ns) i)]
        cases look (best ps ks ns) i <;> rfl
      · rw [upd_ne (ne_of_none e' hD6)]
        exact s6 _ _ e'
    rintro H6 ⟨h6, s6⟩
    rw [Int.toNat_natCast] at h6
    refine ⟨D6, _, rfl, .inl ⟨.inl (.inl h6), fun p7 hp7 => q _ _ (s04.trans (s6.trans (same_new hp7))) ?_⟩⟩
    rw [hps]
    unfold bestD bestL
    rw [hns]
    exact dp_tupN hp7 (dpAll_ov _ _)
end
end K51

set_option maxHeartbeats 4000000
/-! HOff: t + u, t[a:b] of data that lie apart from two places (the deck). -/
namespace HG
open PySem PySem.Spec PyProof.Rows L2
section
variable {X : Cx} {K : PySem.W.Frag}
theorem off_new {d c p : Addr} {H : Hp} {o : HO} (hd : H d ≠ none) (hc : H c ≠ none) (hp : H p = none) : Same (off d c H) (off d c (upd H p o)) := fun b u e => by
  unfold off at e ⊢
  split at e
  · cases e
  · rename_i n
    rw [if_neg n]
    exact upd_get hp e
theorem off_at {d c p : Addr} {H : Hp} {o : HO} (hd : H d ≠ none) (hc : H c ≠ none) (hp : H p = none) : off d c (upd H p o) p = some o := by
  have n1 : p ≠ d := fun z => hd (by rw [← z]; exact hp)
  have n2 : p ≠ c := fun z => hc (by rw [← z]; exact hp)
  rw [off_get n1 n2, upd_same]
theorem dp_tupO {d c p : Addr} {H : Hp} {vs : List V} {ds : List PyData} (hd : H d ≠ none) (hc : H c ≠ none) (hp : H p = none) (h : DpAll K (off d c H) vs ds) : Dp K (off d c (upd H p (.tup vs))) (.ref p) (.tuple ds) :=
  .tup (.inl (.inl (off_at hd hc hp))) (dpAll_mono (off_new hd hc hp) _ _ h)
theorem dp_lstO {d c p : Addr} {H : Hp} {vs : List V} {ds : List PyData} (hd : H d ≠ none) (hc : H c ≠ none) (hp : H p = none) (h : DpAll K (off d c H) vs ds) : Dp K (off d c (upd H p (.lst vs))) (.ref p) (.list ds) :=
  .lst (.inl (.inl (off_at hd hc hp))) (dpAll_mono (off_new hd hc hp) _ _ h)
theorem sqT_off {d c a : Addr} {H : Hp} {xs : List V} (h : SqT K (off d c H) a xs) : SqT K H a xs := sqT_kt (KT.of off_same) h
def rCatO (K : PySem.W.Frag) : R2 := fun x y H Q => ∃ d c ds es, Dp K (off d c H) x (.tuple ds) ∧ Dp K (off d c H) y (.tuple es) ∧ H d ≠ none ∧ H c ≠ none ∧ ds.length + es.length ≤ sizeLine ∧ ∀ z H', Same H H' → Dp K (off d c H') z (.tuple (ds ++ es)) → Q z H'
theorem op_catO (hK : X.K = K) : OpR X (binaryOp .Add) (rCatO K) := by
  subst hK
  intro pins s σ H x y v u Q I rx ry h
  obtain ⟨d, c, ds, es, hx, hy, nd, nc, hz, q⟩ := h
  cases hx with
  | @tup a xs _ sa ha =>
    cases hy with
    | @tup b ys _ sb hb =>
      have l1 := dpAll_len ha
      have l2 := dpAll_len hb
      refine op_catA pins s σ H _ _ v u Q I rx ry ⟨a, b, xs, ys, rfl, rfl, sqT_off sa, sqT_off sb, by omega, fun e => ?_, fun _ e => ?_, fun _ _ p hp => ?_⟩
      · subst e
        cases ha
        exact q _ _ (Same.refl _) (.tup sb hb)
      · subst e
        cases hb
        rw [List.append_nil] at q
        exact q _ _ (Same.refl _) (.tup sa ha)
      · exact q _ _ (same_new hp) (dp_tupO nd nc hp (dpAll_app ha hb))
def rSlO (K : PySem.W.Frag) : V → Option Int → Option Int → Hp → VK → Prop := fun x lo hi H Q => ∃ d c ds, Dp K (off d c H) x (.tuple ds) ∧ H d ≠ none ∧ H c ≠ none ∧ ∀ z H', Same H H' → Dp K (off d c H') z (.tuple (cutP ds lo hi)) → Q z H'
theorem sl_O (hK : X.K = K) : SlR X (rSlO K) := by
  subst hK
  intro pins s σ H x v vl vu lo hi sl Q I rx hs pl pu h
  obtain ⟨d, c, ds, hx, nd, nc, q⟩ := h
  cases hx with
  | @tup a xs _ sa ha =>
    have l1 := dpAll_len ha
    refine sl_tupA pins s σ H _ v vl vu lo hi sl Q I rx hs pl pu ⟨a, xs, rfl, sqT_off sa, fun e => ?_, fun _ p hp => ?_⟩
    · rw [l1] at e
      rw [cutD_all ds lo hi e] at q
      exact q _ _ (Same.refl _) (.tup sa ha)
    · exact q _ _ (same_new hp) (dp_tupO nd nc hp (dpAll_cut lo hi ha))
theorem same_ne {H H' : Hp} (s : Same H H') {a : Addr} (h : H a ≠ none) : H' a ≠ none := by
  cases e : H a with
  | none => exact absurd e h
  | some o =>
    rw [s _ _ e]
    exact fun z => by cases z
theorem off_mono {d c : Addr} {H H' : Hp} (s : Same H H') : Same (off d c H) (off d c H') := fun b o e => by
  unfold off at e ⊢
  split at e
  · cases e
  · rename_i n
    rw [if_neg n]
    exact s _ _ e
end
end HG

set_option maxHeartbeats 4000000
namespace K51
open PySem PySem.Spec PyProof.Rows L2 HG P52 P51
theorem Deck.nd {d c : Addr} {n : Nat} {H : Hp} (dk : Deck d c n H) : H d ≠ none ∧ H c ≠ none := by
  obtain ⟨ns, m, t, e1, e2, _⟩ := dk.ex
  exact ⟨fun z => (by rw [z] at e1; cases e1), fun z => (by rw [z] at e2; cases e2)⟩
theorem step_of {r : Int} (h0 : 0 ≤ r) (h1 : r < 3) : ∃ (j : Nat) (st : Int), r = (j : Int) ∧ [V.int 1, V.int 3, V.int 1000][j]? = some (.int st) ∧ 0 ≤ st ∧ st ≤ 1000 := by
  obtain ⟨j, rfl⟩ := Int.eq_ofNat_of_zero_le h0
  have hj : j = 0 ∨ j = 1 ∨ j = 2 := by omega
  rcases hj with rfl | rfl | rfl
  · exact ⟨0, 1, rfl, rfl, by decide, by decide⟩
  · exact ⟨1, 3, rfl, rfl, by decide, by decide⟩
  · exact ⟨2, 1000, rfl, rfl, by decide, by decide⟩
def spSpread (K : PySem.W.Frag) : Sp := fun vs H Q _ => ∃ (d c : Addr) (v u : V) (n N : Nat) (g : Gr) (ks : List Nat), vs = [.ref d, v, u] ∧ n < 2 ^ 45 ∧ Deck d c n H ∧ Dp K H v g.D ∧ GrB N g ∧ Dp K H u (nsD ks) ∧
  ∀ z H' S, Deck d c (n + 2) H' → Ext d c H H' → Dp K H' z (.tuple S) → S.length = cnt g → noLAll S = true → Q z H'
def slotD (f st : Int) (ks vs : List Nat) (i : Nat) : PyData := if need ks vs i = true then .int (f + st * (i : Int)) else .none
section
variable {P : Program} {w : World} {K : PySem.W.Frag} {mg : Str → Option Value} {base : Heap}
set_option pp.maxSteps 600 in
theorem c_spread (T : Txt w K mg) : Cal P w K mg base "_law_spread" 4 ["_law_deck_here", "_law_shape", "_law_held"] (spSpread K) := by
  obtain ⟨fd, F⟩ := T.d__law_spread
  have C__law_occur := c_occur (P := P) (w := w) (base := base) T
  have C__law_draw := c_draw (P := P) (w := w) (base := base) T
  refine ⟨⟨fd, F.ok sc__law_spread (fun vs H Q E h => by repeat (first | (obtain ⟨e, _⟩ := h; subst e; rfl) | (obtain ⟨_, h⟩ := h))) (fun cdv A outer s H vs Q E hr h => ?_), F.bindsN fun _ _ _ _ _ _ us hl => match us, hl with | [_, _, _], _ => rfl⟩, T.g _ (by decide), F.kp⟩
  obtain ⟨d, c, v, u, n, N, g, ks, rfl, hn, dk, hv, hg, hu0, q⟩ := h
  refine ⟨_, PSs.nox (pss_cons (ps_set (i := 3) sc__law_spread.nd rfl (.inr rfl) (pe_cal C__law_occur (hr.mono (by omega)) (by rfl) (pa_cons (pv 1) pa_nil)))
      (pss_cons (ps_asg (pe_tup (pa_cons (pe_callB (cr_max rfl) (by rfl) T.n_max (by decide +kernel) (pa_cons (pe_op op_cat (pe_lst (pa_cons (pe_ix (ix_P (K := K) rfl) (pv 1) pe_int (fun _ _ => rfl)) pa_nil)) (pe_lc (own := [("_law_v", 7)]) (by rfl) sc__law_spread.nd (pi_list (pv 3)) (blkOk_by (own := [("_law_v", 7)]) (N := N__law_spread) (sc := defScope s__law_spread) (by decide +kernel)) (fun _ _ _ _ _ => (pg_name (i := 7) sc__law_spread.nd rfl (.inl rfl))) (fun _ _ _ _ _ => pts_nil) (fun _ _ _ _ _ => (pe_op op_add (pv 7) pe_int)))) pa_nil)) (pa_cons (pe_ix (ix_listK (K := K) rfl) (pe_lst (pa_cons pe_int (pa_cons pe_int (pa_cons pe_int pa_nil)))) (pe_cal C__law_draw (hr.mono (by omega)) (by rfl) (pa_cons (pv 0) (pa_cons pe_int pa_nil))) (fun _ _ => rfl)) pa_nil))) (pg_tupK (K := K) (n := 2) rfl rfl (pgs_cons (pg_name (i := 4) sc__law_spread.nd rfl (.inl rfl)) (pgs_cons (pg_name (i := 5) sc__law_spread.nd rfl (.inr rfl)) pgs_nil))))
      (pss_cons (ps_set (i := 6) sc__law_spread.nd rfl (.inr rfl) (pe_cal C__law_draw (hr.mono (by omega)) (by rfl) (pa_cons (pv 0) (pa_cons pe_int pa_nil))))
      (pss_one (ps_ret (pe_callTy call_tuple_of (by rfl) T.n_tuple (by decide +kernel) (pa_cons (pe_lc (own := [("_law_v", 7)]) (by rfl) sc__law_spread.nd (pi_range1 (by rfl) T.n_range (pa_cons (pv 4) pa_nil)) (blkOk_by (own := [("_law_v", 7)]) (N := N__law_spread) (sc := defScope s__law_spread) (by decide +kernel)) (fun _ _ _ _ _ => (pg_name (i := 7) sc__law_spread.nd rfl (.inl rfl))) (fun _ _ _ _ _ => pts_nil) (fun _ _ _ _ _ => (pe_ifExp (PW.pt (pw_or (pt_cmpR (op_in_seqK (K := K) rfl) (pv 7) (pv 3) (by rfl)) (pw_or1 (pt_cmpR (op_in_seqK (K := K) rfl) (pv 7) (pv 2) (by rfl))))) (pe_op op_add (pv 6) (pe_op op_mul (pv 5) (pv 7))) pe_non))) pa_nil))))))), ?_⟩
  have hol := occ_len g
  refine ⟨v, rfl, v, N, g, rfl, hv, hg, fun a1 H1 ha1 s1 h1 => ?_⟩
  refine ⟨v, rfl, _, 0, _, dp_mono s1 _ _ hv, rfl, rfl, fun z hz => ?_⟩
  cases hz
  refine ⟨(by show 1 ≤ sizeLine; decide), fun l2 hl2 => ?_⟩
  have s2 := same_new (o := .lst [nV g.count]) hl2
  have e2 : (upd H1 l2 (.lst [nV g.count])) l2 = some (.lst [nV g.count]) := upd_same
  show tLc _ _ _ _ _ _ (upd H1 l2 (.lst [nV g.count])) _
  generalize upd H1 l2 (.lst [nV g.count]) = H2 at s2 e2 ⊢
  have h12 := s2 _ _ h1
  refine ⟨_, rfl, a1, rfl, ⟨_, .inl (.inl h12)⟩, fun D3 hD3 => ?_⟩
  refine lc_list (xs := (occ g).map nV) (fun i H3 => H3 D3 = some (.lst (((occ g).take i).map fun v : Nat => V.int ((v : Int) + 1))) ∧ Same H2 H3) ⟨upd_same, same_new hD3⟩ ?_ ?_ ?_
  · rintro i H3 _ ⟨_, s3⟩
    exact .inl (.inl (s3 _ _ h12))
  · rintro i x H3 hi ⟨h3, s3⟩
    rw [List.getElem?_map] at hi
    obtain ⟨m, hm, rfl⟩ := Option.map_eq_some_iff.mp hi
    refine ⟨rfl, tyes ⟨_, rfl, _, _, rfl, rfl, _, h3, ?_, ?_, fun b' o' e' => ?_⟩⟩
    · rw [List.length_map, List.length_take]
      exact small_line (by omega)
    · rw [upd_same, map_take_snoc _ hm]
    · rw [upd_ne (ne_of_none e' hD3)]
      exact s3 _ _ e'
  rintro H3 ⟨h3, s3⟩
  rw [List.length_map, List.take_length] at h3
  refine ⟨l2, D3, _, _, rfl, rfl, s3 _ _ e2, h3, by rw [List.length_map, sizeLine_eq]; show 1 + (occ g).length ≤ _; omega, fun p4 hp4 => ?_⟩
  generalize eH4 : upd H3 p4 _ = H4
  have s14 : Same H1 H4 := eH4 ▸ s2.trans (s3.trans (same_new hp4))
  have e4 : H4 p4 = some (.lst ((iN g.count :: (occ g).map fun v => iN (v + 1)).map V.int)) := by
    rw [← eH4, upd_same, List.map_cons, plus_nats]
    rfl
  clear eH4
  refine ⟨p4, _, rfl, .inl (.inl e4), by rw [List.length_cons]; omega, fun m hm hmax => ?_⟩
  have em := max_cnt hm hmax
  subst em
  have s04 := s1.trans s14
  have h14 := s14 _ _ h1
  have na := dk.has ha1
  have dk4 := dk.same s04
  have hc := cnt_le hg
  refine ⟨(by show 3 ≤ sizeLine; decide), fun l5 hl5 => ?_⟩
  have nl5 := dk4.has hl5
  have s5 := same_new (o := .lst [.int 1, .int 3, .int 1000]) hl5
  have e5 : (upd H4 l5 (.lst [.int 1, .int 3, .int 1000])) l5 = some (.lst [.int 1, .int 3, .int 1000]) := upd_same
  have dk5 := dk4.same s5
  have X5 : Ext d c H (upd H4 l5 (.lst [.int 1, .int 3, .int 1000])) := off_same_mono (s04.trans s5)
  have h15 := s5 _ _ h14
  generalize upd H4 l5 (.lst [.int 1, .int 3, .int 1000]) = H5 at s5 e5 dk5 X5 h15 ⊢
  refine ⟨_, rfl, d, c, _, 3, rfl, by decide, by decide, by omega, dk5, fun r H6 r0 r1 dk6 X6 => ?_⟩
  obtain ⟨j, st, rfl, hst, st0, st1⟩ := step_of r0 r1
  have h16 := X6.at na.1 na.2 h15
  refine ⟨l5, _, j, _, rfl, rfl, .inl (.inl (X6.at nl5.1 nl5.2 e5)), atI_nat hst, (by show 2 ≤ sizeLine; decide), fun p7 hp7 => ⟨p7, _, rfl, .inl (.inl upd_same), rfl, _, _, rfl, _, _, rfl, rfl, ?_⟩⟩
  have s7 := same_new (o := .tup [nV (cnt g), .int st]) hp7
  have dk7 := dk6.same s7
  have X7 := X5.trans (X6.trans (off_same_mono s7))
  have h17 := s7 _ _ h16
  show tSeq _ _ _ _ (upd H6 p7 (.tup [nV (cnt g), .int st]))
  generalize upd H6 p7 (.tup [nV (cnt g), .int st]) = H7 at s7 dk7 X7 h17 ⊢
  refine ⟨_, rfl, d, c, _, 5, rfl, by decide, by decide, by omega, dk7, fun f H8 f0 f1 dk8 X8 => ?_⟩
  have h18 := X8.at na.1 na.2 h17
  have X08 := X7.trans X8
  have hu8 := dp_kt (ext_kt dk X08) _ _ (nlNs ks) hu0
  obtain ⟨au, xu, rfl, squ, hau⟩ := dp_seq hu8
  have eu := dpAll_nV hau
  subst eu
  refine ⟨_, rfl, _, rfl, (by show -(2 ^ 62) ≤ ((P51.cnt g : Nat) : Int); omega), (by show ((P51.cnt g : Nat) : Int) < 2 ^ 62; omega), fun D9 hD9 => ?_⟩
  have n9 := dk8.has hD9
  refine lc_range (lo := 0) (n := ((P51.cnt g : Nat) : Int).toNat) (fun i H9 => ∃ ys, H9 D9 = some (.lst ys) ∧ DpAll K H9 ys ((List.range i).map (slotD f st ks (occ g))) ∧ Same H8 H9) ⟨[], upd_same, .nil, same_new hD9⟩ ?_ ?_
  · rintro i H9 hi ⟨ys, h9, hd9, s9⟩
    have hi : i < 16 := by omega
    have hyl := dpAll_len hd9
    rw [List.length_map, List.length_range] at hyl
    have nlr : noLAll ((List.range i).map (slotD f st ks (occ g))) = true := noLAll_map fun k _ => by unfold slotD; split <;> rfl
    have fin : ∀ (y : V), Dp K H9 y (slotD f st ks (occ g) i) → H9 D9 = some (.lst ys) ∧ ys.length < sizeLine ∧ ∃ ys', (upd H9 D9 (.lst (ys ++ [y]))) D9 = some (.lst ys') ∧ DpAll K (upd H9 D9 (.lst (ys ++ [y]))) ys' ((List.range (i + 1)).map (slotD f st ks (occ g))) ∧ Same H8 (upd H9 D9 (.lst (ys ++ [y]))) := fun y hy => by
      obtain ⟨m1, m2, m3⟩ := mk_step hD9 h9 hd9 nlr s9 (Same.refl _) hy (by unfold slotD; split <;> rfl)
      refine ⟨m1, small_line (by omega), _, upd_same, ?_, m3⟩
      rw [List.range_succ, List.map_append]
      exact m2
    have hst : 0 ≤ st * (i : Int) ∧ st * (i : Int) ≤ 16000 := ⟨Int.mul_nonneg st0 (by omega), by
      have : st * (i : Int) ≤ 1000 * 16 := Int.mul_le_mul st1 (by omega) (by omega) (by omega)
      omega⟩
    have hneed : need ks (occ g) i = (decide (i ∈ ks) || decide (i ∈ occ g)) := rfl
    have yes : need ks (occ g) i = true → Dp K H9 (.int (f + st * (0 + (i : Int)))) (slotD f st ks (occ g) i) := fun h => by
      unfold slotD
      rw [if_pos h, Int.zero_add]
      exact .int _
    refine ⟨rfl, tyes ⟨_, rfl, _, rfl, a1, _, rfl, .inl (.inl (.inl (s9 _ _ h18))), rfl, flat_nats _, _, rfl, ?_⟩⟩
    show if inV (V.int (0 + (i : Int))) ((occ g).map nV) = true then _ else _
    have e0 : inV (V.int (0 + (i : Int))) ((occ g).map nV) = decide (i ∈ occ g) := by rw [Int.zero_add, in_nats]
    rw [e0]
    by_cases io : i ∈ occ g
    · rw [decide_eq_true io]
      refine iteT (iteT ⟨_, rfl, _, rfl, _, rfl, _, _, rfl, rfl, .inl ⟨by omega, by omega⟩, _, _, rfl, rfl, _, fin _ (yes ?_)⟩)
      rw [hneed, decide_eq_true io, Bool.or_true]
    · rw [decide_eq_false io]
      refine iteF ⟨_, rfl, _, rfl, au, _, rfl, .inr (sqT_same s9 squ), rfl, flat_nats _, _, rfl, ?_⟩
      show if inV (V.int (0 + (i : Int))) (ks.map nV) = true then _ else _
      have e1 : inV (V.int (0 + (i : Int))) (ks.map nV) = decide (i ∈ ks) := by rw [Int.zero_add, in_nats]
      rw [e1]
      by_cases ik : i ∈ ks
      · rw [decide_eq_true ik]
        refine iteT ⟨_, rfl, _, rfl, _, rfl, _, _, rfl, rfl, .inl ⟨by omega, by omega⟩, _, _, rfl, rfl, _, fin _ (yes ?_)⟩
        rw [hneed, decide_eq_true ik, Bool.true_or]
      · rw [decide_eq_false ik]
        refine iteF ⟨_, fin _ ?_⟩
        unfold slotD
        rw [if_neg (by rw [hneed, decide_eq_false io, decide_eq_false ik]; decide)]
        exact .non
  rintro H9 ⟨ys, h9, hd9, s9⟩
  rw [Int.toNat_natCast] at hd9
  refine ⟨D9, _, rfl, .inl ⟨.inl (.inl h9), fun p10 hp10 => ?_⟩⟩
  have s10 := s9.trans (same_new (o := .tup ys) hp10)
  refine q _ _ ((List.range (cnt g)).map (slotD f st ks (occ g))) (dk8.same s10) (X08.trans (off_same_mono s10)) (dp_tupN hp10 hd9) (by rw [List.length_map, List.length_range]) (noLAll_map fun k _ => by unfold slotD; split <;> rfl)
/-! ### _law_merged -/
def spMerged (K : PySem.W.Frag) : Sp := fun vs H Q _ => ∃ (d c : Addr) (v u sv pr : V) (n N : Nat) (g : Gr) (ks : List Nat) (cl : List (List Nat)) (xs : List V) (S : List PyData), vs = [.ref d, v, u, sv, pr] ∧ n < 2 ^ 45 ∧ Deck d c n H ∧ Dp K H v g.D ∧ GrB N g ∧ g.vars ≠ [] ∧ Dp K H u (nsD ks) ∧ ks.length ≤ 10 ∧ (∀ k ∈ ks, k < g.count) ∧
  Dp K H sv (.tuple S) ∧ S.length = cnt g ∧ noLAll S = true ∧ Bw g cl ∧ (pr = .non ∨ ∃ p, pr = .ref p ∧ off d c H p = some (.lst xs) ∧ DpAll K H xs ((apartG g cl).map pD)) ∧
  ∀ z H' S', Deck d c (n + 20) H' → Ext d c H H' → Dp K H' z (.tuple S') → S'.length = cnt g → noLAll S' = true → Q z H'
set_option pp.maxSteps 600 in
theorem c_merged (T : Txt w K mg) : Cal P w K mg base "_law_merged" 7 ["_law_deck_here", "_law_shape", "_law_held", "_law_slots", "_law_pairs_here"] (spMerged K) := by
  obtain ⟨fd, F⟩ := T.d__law_merged
  have C__law_occur := c_occur (P := P) (w := w) (base := base) T
  have C__law_draw := c_draw (P := P) (w := w) (base := base) T
  have C__law_pick := c_pick (P := P) (w := w) (base := base) T
  have C__law_is_valid := c_is_valid (P := P) (w := w) (base := base) T
  refine ⟨⟨fd, F.ok sc__law_merged (fun vs H Q E h => by repeat (first | (obtain ⟨e, _⟩ := h; subst e; rfl) | (obtain ⟨_, h⟩ := h))) (fun cdv A outer s H vs Q E hr h => ?_), F.bindsN fun _ _ _ _ _ _ us hl => match us, hl with | [_, _, _, _, _], _ => rfl⟩, T.g _ (by decide), F.kp⟩
  obtain ⟨d, c, v, u, sv, pr, n, N, g, ks, cl, xs, S, rfl, hn, dk, hv, hg, hne, hu0, hkl, hkc, hsv, hSl, hSn, hbw, hpr, q⟩ := h
  refine ⟨_, PSs.nox (pss_cons (ps_set (i := 5) sc__law_merged.nd rfl (.inl rfl) (pe_cal C__law_occur (hr.mono (by omega)) (by rfl) (pa_cons (pv 1) pa_nil)))
      (pss_cons (ps_for PassesOwn.never rfl (pi_range1 (by rfl) T.n_range (pa_cons (pe_op op_add pe_int (pe_cal C__law_draw (hr.mono (by omega)) (by rfl) (pa_cons (pv 0) (pa_cons pe_int pa_nil)))) pa_nil)) (pg_name (i := 6) sc__law_merged.nd rfl (.inl rfl)) (pss_cons (ps_par (i := 7) (j := 8) rfl sc__law_merged.nd rfl rfl (by decide) rfl rfl (pa_cons (pe_cal C__law_pick (hr.mono (by omega)) (by rfl) (pa_cons (pv 0) (pa_cons (pv 5) pa_nil))) (pa_cons (pe_cal C__law_pick (hr.mono (by omega)) (by rfl) (pa_cons (pv 0) (pa_cons (pv 5) pa_nil))) pa_nil)) (by rfl))
      (pss_cons (ps_set (i := 9) sc__law_merged.nd rfl (.inl rfl) (pe_op (op_catP (K := K) rfl) (pe_op (op_catP (K := K) rfl) (pe_slice (sl_P (K := K) rfl) (pv 3) po_none (po_some (pv 7))) (pe_tup (pa_cons (pe_ix (ix_P (K := K) rfl) (pv 3) (pv 8) (fun _ _ => rfl)) pa_nil))) (pe_slice (sl_P (K := K) rfl) (pv 3) (po_some (pe_op op_add (pv 7) pe_int)) po_none)))
      (pss_one (ps_if (PW.pt (pw_or (pt_cmpR op_isN (pv 4) pe_non (nomark _)) (pw_or1 (pt_val (pe_cal C__law_is_valid (hr.mono (by omega)) (by rfl) (pa_cons (pv 1) (pa_cons (pv 2) (pa_cons (pv 4) (pa_cons (pv 9) pa_nil))))))))) (pss_one (ps_set (i := 3) sc__law_merged.nd rfl (.inl rfl) (pv 9))) pss_nil)))))
      (pss_one (ps_ret (pv 3))))), ?_⟩
  have hol := occ_len g
  have hc := cnt_le hg
  have hone : 0 < (occ g).length := by
    cases hvs : g.vars with
    | nil => exact absurd hvs hne
    | cons y r =>
      have : y ∈ occ g := (mem_srt (lo_vars hg)).mpr (by rw [hvs]; exact List.mem_cons_self)
      exact List.length_pos_of_mem this
  refine ⟨_, rfl, v, N, g, rfl, hv, hg, fun a1 H1 ha1 s1 h1 => ?_⟩
  have na := dk.has ha1
  have dk1 := dk.same s1
  have X1 : Ext d c H H1 := off_same_mono s1
  refine ⟨_, rfl, d, c, _, 4, rfl, by decide, by decide, by omega, dk1, fun r H2 r0 r1 dk2 X2 => ?_⟩
  obtain ⟨r, rfl⟩ := Int.eq_ofNat_of_zero_le r0
  have hr4 : r < 4 := by omega
  refine ⟨_, _, rfl, rfl, _, rfl, by omega, by omega, ?_⟩
  have eR : ((1 : Int) + (r : Int)).toNat = 1 + r := by omega
  refine for_range (lo := 0) (n := ((1 : Int) + (r : Int)).toNat) (fun i σ H3 => ∃ sv S x6 x7 x8 x9, σ = [some (.ref d), some v, some u, some sv, some pr, some (.ref a1), x6, x7, x8, x9] ∧ Dp K H3 sv (.tuple S) ∧ S.length = cnt g ∧ noLAll S = true ∧ Deck d c (n + 1 + 2 * i) H3 ∧ Ext d c H H3 ∧ H3 a1 = some (.lst ((occ g).map nV))) ⟨sv, S, _, _, _, _, rfl, dp_kt (ext_kt dk (X1.trans X2)) _ _ (by simp only [noL]; exact hSn) hsv, hSl, hSn, dk2, X1.trans X2, X2.at na.1 na.2 h1⟩ ?_ ?_
  · rintro i σ H3 hi ⟨sv, S, x6, x7, x8, x9, rfl, hsv, hSl, hSn, dk3, X3, h13⟩
    have hi : i < 4 := by omega
    have nlS : noL (.tuple S) = true := by simp only [noL]; exact hSn
    have sq3 : SqL K (off d c H3) a1 ((occ g).map nV) := .inl (.inl (by rw [off_get na.1 na.2]; exact h13))
    refine ⟨_, rfl, _, rfl, d, c, a1, _, _, rfl, dk3, by omega, sq3, by rw [List.length_map]; exact hone, by rw [List.length_map]; omega, fun j y H4 hy dk4 X4 => ?_⟩
    rw [List.getElem?_map] at hy
    obtain ⟨vi, hvi, rfl⟩ := Option.map_eq_some_iff.mp hy
    have h14 := X4.at na.1 na.2 h13
    have sq4 : SqL K (off d c H4) a1 ((occ g).map nV) := .inl (.inl (by rw [off_get na.1 na.2]; exact h14))
    refine ⟨_, rfl, _, rfl, d, c, a1, _, _, rfl, dk4, by omega, sq4, by rw [List.length_map]; exact hone, by rw [List.length_map]; omega, fun j y H5 hy dk5 X5 => ⟨_, _, rfl, ?_⟩⟩
    rw [List.getElem?_map] at hy
    obtain ⟨wi, hwi, rfl⟩ := Option.map_eq_some_iff.mp hy
    have hvc : vi < S.length := by rw [hSl]; exact cnt_occ (List.mem_of_getElem? hvi)
    have hwc : wi < S.length := by rw [hSl]; exact cnt_occ (List.mem_of_getElem? hwi)
    have X35 := X4.trans X5
    have hs5 := dp_kt (ext_kt dk3 X35) _ _ nlS hsv
    have h15 := X5.at na.1 na.2 h14
    -- other
    refine ⟨_, rfl, _, rfl, (vi : Int), rfl, _, hs5, fun z6 H6 s6 h6 => ?_⟩
    rw [cutP_to] at h6
    refine ⟨_, rfl, _, rfl, _, wi, _, dp_mono s6 _ _ hs5, rfl, List.getElem?_eq_getElem hwc, fun z7 h7 => ⟨(by show 1 ≤ sizeLine; decide), fun p8 hp8 => ?_⟩⟩
    have s8 := same_new (o := .tup [z7]) hp8
    have d8 : Dp K (upd H6 p8 (.tup [z7])) (.ref p8) (.tuple [S[wi]]) := dp_tupN hp8 (.cons h7 .nil)
    refine ⟨_, _, dp_mono s8 _ _ h6, d8, by rw [List.length_take, sizeLine_eq]; show _ + 1 ≤ _; omega, fun z9 H9 s9 h9 => ?_⟩
    have s59 := s6.trans (s8.trans s9)
    refine ⟨_, rfl, _, rfl, _, _, rfl, rfl, (vi : Int) + 1, rfl, _, dp_mono s59 _ _ hs5, fun z10 H10 s10 h10 => ?_⟩
    rw [addI, cutP_from] at h10
    refine ⟨_, _, dp_mono s10 _ _ h9, h10, ?_, fun z11 H11 s11 h11 => ?_⟩
    · rw [List.length_append, List.length_take, List.length_drop, sizeLine_eq]
      show _ + 1 + _ ≤ _
      omega
    have hl' : (S.take vi ++ [S[wi]] ++ S.drop (vi + 1)).length = cnt g := by
      rw [List.length_append, List.length_append, List.length_take, List.length_drop]
      show _ + 1 + _ = _
      omega
    have hn' : noLAll (S.take vi ++ [S[wi]] ++ S.drop (vi + 1)) = true := noLAll_mem.mpr fun e he => by
      have all := noLAll_mem.mp hSn
      rcases List.mem_append.mp he with he | he
      · rcases List.mem_append.mp he with he | he
        · exact all e (List.mem_of_mem_take he)
        · rw [List.mem_singleton.mp he]
          exact all _ (List.getElem_mem hwc)
      · exact all e (List.mem_of_mem_drop he)
    generalize S.take vi ++ [S[wi]] ++ S.drop (vi + 1) = S' at h11 hl' hn'
    have s511 := s59.trans (s10.trans s11)
    have hs11 := dp_mono s511 _ _ hs5
    have dk11 := dk5.same s511
    have X11 : Ext d c H H11 := X3.trans (X35.trans (off_same_mono s511))
    have h111 := s511 _ _ h15
    rcases hpr with rfl | ⟨p, rfl, hp, hd0⟩
    · exact ⟨_, rfl, rfl, _, rfl, iteT (iteT ⟨_, rfl, z11, S', _, _, _, _, rfl, h11, hl', hn', dk11.up (by omega), X11, h111⟩)⟩
    · have np : p ≠ d ∧ p ≠ c := by
        unfold off at hp
        split at hp
        · cases hp
        · rename_i hh
          exact ⟨fun z => hh (.inl z), fun z => hh (.inr z)⟩
      rw [off_get np.1 np.2] at hp
      have kt := ext_kt dk X11
      refine ⟨_, rfl, rfl, _, rfl, iteF ⟨_, rfl, _, rfl, _, rfl, _, rfl, v, u, z11, p, N, g, ks, cl, xs, _, rfl, dp_kt kt _ _ (nlG g) hv, hg, dp_kt kt _ _ (nlNs ks) hu0, hkl, hkc, .inl (.inl (X11.at np.1 np.2 hp)), dpAll_kt kt _ _ (nlP _) hd0, h11, hbw, fun H12 s12 => ⟨_, rfl, ?_⟩⟩⟩
      cases valid g ks (apartG g cl) (.tuple S') with
      | true => exact iteT ⟨_, rfl, z11, S', _, _, _, _, rfl, dp_mono s12 _ _ h11, hl', hn', (dk11.same s12).up (by omega), X11.trans (off_same_mono s12), s12 _ _ h111⟩
      | false => exact iteF ⟨sv, S, _, _, _, _, rfl, dp_mono s12 _ _ hs11, hSl, hSn, (dk11.same s12).up (by omega), X11.trans (off_same_mono s12), s12 _ _ h111⟩
  · rintro σ H3 ⟨sv, S, x6, x7, x8, x9, rfl, hsv, hSl, hSn, dk3, X3, h13⟩
    rw [eR] at dk3
    exact ⟨_, rfl, q _ _ S (dk3.up (by omega)) X3 hsv hSl hSn⟩
end
end K51

set_option maxHeartbeats 4000000
namespace K51
open PySem PySem.Spec PyProof.Rows L2 HG P52 P51
abbrev oddV (p l : Addr) : List V := [.non, .bl true, .bl false, .int (-1), .str "0", .ref p, .ref l, .int 0, .int 1, .int (10 ^ (20 : Int).toNat)]
theorem dpO_get {K : PySem.W.Frag} {H : Hp} {ys : List V} {ds : List PyData} {j : Nat} {y : V} (h : DpAll K H ys ds) (e : ys[j]? = some y) : ∃ D, Dp K H y D := by
  obtain ⟨D, _, h2⟩ := dpAll_get h e
  exact ⟨D, h2⟩
def spBent (K : PySem.W.Frag) : Sp := fun vs H Q _ => ∃ (d c : Addr) (sv : V) (n : Nat) (S : List PyData), vs = [.ref d, sv] ∧ n < 2 ^ 45 ∧ Deck d c n H ∧ Dp K H sv (.tuple S) ∧ 0 < S.length ∧ S.length ≤ 16 ∧ noLAll S = true ∧
  ∀ z H' D, Deck d c (n + 3) H' → Ext d c H H' → Dp K (off d c H') z D → Q z H'
section
variable {P : Program} {w : World} {K : PySem.W.Frag} {mg : Str → Option Value} {base : Heap}
set_option pp.maxSteps 600 in
theorem c_bent (T : Txt w K mg) : Cal P w K mg base "_law_bent" 3 ["_law_deck_here", "_law_slots"] (spBent K) := by
  obtain ⟨fd, F⟩ := T.d__law_bent
  have C__law_pick := c_pick (P := P) (w := w) (base := base) T
  have C__law_draw := c_draw (P := P) (w := w) (base := base) T
  refine ⟨⟨fd, F.ok sc__law_bent (fun vs H Q E h => by repeat (first | (obtain ⟨e, _⟩ := h; subst e; rfl) | (obtain ⟨_, h⟩ := h))) (fun cdv A outer s H vs Q E hr h => ?_), F.bindsN fun _ _ _ _ _ _ us hl => match us, hl with | [_, _], _ => rfl⟩, T.g _ (by decide), F.kp⟩
  obtain ⟨d, c, sv, n, S, rfl, hn, dk, hsv, hS0, hS16, hSn, q⟩ := h
  refine ⟨_, PSs.nox (pss_cons (ps_par (i := 2) (j := 3) rfl sc__law_bent.nd rfl rfl (by decide) rfl rfl (pa_cons (pe_cal C__law_draw (hr.mono (by omega)) (by rfl) (pa_cons (pv 0) (pa_cons (pe_callB (lenK (K := K) rfl) (by rfl) T.n_len (by decide +kernel) (pa_cons (pv 1) pa_nil)) pa_nil))) (pa_cons (pe_cal C__law_draw (hr.mono (by omega)) (by rfl) (pa_cons (pv 0) (pa_cons pe_int pa_nil))) pa_nil)) (by rfl))
      (pss_cons (ps_set (i := 4) sc__law_bent.nd rfl (.inl rfl) (pe_cal C__law_pick (hr.mono (by omega)) (by rfl) (pa_cons (pv 0) (pa_cons (pe_lst (pa_cons pe_non (pa_cons pe_bl (pa_cons pe_bl (pa_cons (pe_un un_neg pe_int) (pa_cons pe_str (pa_cons (pe_tup (pa_cons pe_int pa_nil)) (pa_cons (pe_lst (pa_cons pe_int pa_nil)) (pa_cons pe_int (pa_cons pe_int (pa_cons (pe_op op_pow pe_int pe_int) pa_nil))))))))))) pa_nil))))
      (pss_cons (ps_set (i := 5) sc__law_bent.nd rfl (.inl rfl) (pe_op op_cat (pe_op op_rep (pe_lst (pa_cons (pe_op (op_catO (K := K) rfl) (pe_op (op_catO (K := K) rfl) (pe_slice (sl_O (K := K) rfl) (pv 1) po_none (po_some (pv 2))) (pe_tup (pa_cons (pv 4) pa_nil))) (pe_slice (sl_O (K := K) rfl) (pv 1) (po_some (pe_op op_add (pv 2) pe_int)) po_none)) pa_nil)) pe_int) (pe_lst (pa_cons (pe_op (op_catO (K := K) rfl) (pe_slice (sl_O (K := K) rfl) (pv 1) po_none (po_some (pv 2))) (pe_slice (sl_O (K := K) rfl) (pv 1) (po_some (pe_op op_add (pv 2) pe_int)) po_none)) (pa_cons (pe_op (op_catO (K := K) rfl) (pv 1) (pe_tup (pa_cons (pv 4) pa_nil))) (pa_cons (pe_callTy call_list_of (by rfl) T.n_list (by decide +kernel) (pa_cons (pv 1) pa_nil)) pa_nil))))))
      (pss_one (ps_ret (pe_ix (ix_listK (K := K) rfl) (pe_op op_cat (pv 5) (pe_lst (pa_cons (pe_op (op_catO (K := K) rfl) (pe_op (op_catO (K := K) rfl) (pe_slice (sl_O (K := K) rfl) (pv 1) po_none (po_some (pv 2))) (pe_slice (sl_O (K := K) rfl) (pv 1) (po_some (pv 2)) (po_some (pe_op op_add (pv 2) pe_int)))) (pe_slice (sl_O (K := K) rfl) (pv 1) (po_some (pv 2)) po_none)) pa_nil))) (pv 3) (fun _ _ => rfl))))))), ?_⟩
  have nlS : noL (.tuple S) = true := by simp only [noL]; exact hSn
  have hlv : LenV K sv H S.length := by
    obtain ⟨a, xs, rfl, sq, ha⟩ := dp_seq hsv
    exact .inr ⟨xs, sq, (dpAll_len ha).symm⟩
  refine ⟨_, rfl, _, rfl, sv, S.length, rfl, hlv, d, c, _, (S.length : Int), rfl, by omega, many40 (by omega), by omega, dk, fun r H1 r0 r1 dk1 X1 => ?_⟩
  obtain ⟨at_, rfl⟩ := Int.eq_ofNat_of_zero_le r0
  have hat : at_ < S.length := by omega
  refine ⟨_, rfl, d, c, _, 6, rfl, by decide, by decide, by omega, dk1, fun r H2 r20 r21 dk2 X2 => ⟨_, _, rfl, ?_⟩⟩
  obtain ⟨way, rfl⟩ := Int.eq_ofNat_of_zero_le r20
  have hway : way < 6 := by omega
  have X02 := X1.trans X2
  -- odd
  refine ⟨_, rfl, 1, rfl, (by show 1 ≤ sizeLine; decide), fun p3 hp3 => ⟨(by show 1 ≤ sizeLine; decide), fun l4 hl4 => ⟨_, _, rfl, rfl, ⟨by decide, by decide, by decide⟩, (by show 10 ≤ sizeLine; decide), fun l5 hl5 => ?_⟩⟩⟩
  obtain ⟨nd2, nc2⟩ := dk2.nd
  have d3 : Dp K (off d c (upd H2 p3 (.tup [.int 0]))) (.ref p3) (.tuple [.int 0]) := dp_tupO nd2 nc2 hp3 (.cons (.int _) .nil)
  have s3 := same_new (o := .tup [.int 0]) hp3
  generalize upd H2 p3 (.tup [.int 0]) = H3 at s3 d3 hl4 hl5 ⊢
  have nd3 := same_ne s3 nd2
  have nc3 := same_ne s3 nc2
  have d4 : Dp K (off d c (upd H3 l4 (.lst [.int 0]))) (.ref l4) (.list [.int 0]) := dp_lstO nd3 nc3 hl4 (.cons (.int _) .nil)
  have s4 := same_new (o := .lst [.int 0]) hl4
  have d34 := dp_mono (off_mono (d := d) (c := c) s4) _ _ d3
  generalize upd H3 l4 (.lst [.int 0]) = H4 at s4 d4 d34 hl5 ⊢
  have nd4 := same_ne s4 nd3
  have nc4 := same_ne s4 nc3
  have hall : DpAll K (off d c H4) (oddV p3 l4) [.none, .bool true, .bool false, .int (-1), .str "0", .tuple [.int 0], .list [.int 0], .int 0, .int 1, .int (10 ^ (20 : Int).toNat)] :=
    .cons .non (.cons (.bl _) (.cons (.bl _) (.cons (.int _) (.cons (.str _) (.cons d34 (.cons d4 (.cons (.int _) (.cons (.int _) (.cons (.int _) .nil)))))))))
  have s5 := same_new (o := .lst (oddV p3 l4)) hl5
  have nl5 := dk2.has ((none_same (s3.trans s4) hl5))
  have dk5 := dk2.same (s3.trans (s4.trans s5))
  have sq5 : SqL K (off d c (upd H4 l5 (.lst (oddV p3 l4)))) l5 (oddV p3 l4) := .inl (.inl (by rw [off_get nl5.1 nl5.2, upd_same]))
  have hall5 := dpAll_mono (off_mono (d := d) (c := c) s5) _ _ hall
  refine ⟨d, c, l5, n + 1 + 1, oddV p3 l4, rfl, dk5, by omega, sq5, (by show 0 < 10; decide), (by show 10 ≤ 1000; decide), fun j y H6 hy dk6 X6 => ?_⟩
  obtain ⟨OD, hOD⟩ := dpO_get hall5 hy
  have hOD := X6.dp hOD
  have X06 : Ext d c H H6 := X02.trans ((off_mono (s3.trans (s4.trans s5))).trans X6)
  have hs6 := dp_kt (ext_kt dk X06) _ _ nlS hsv
  have hs6 := dp_kt (off_kt dk6) _ _ nlS hs6
  obtain ⟨nd, nc⟩ := dk6.nd
  clear hall5 hall sq5 d34 d4 d3
  have sz : ∀ m : Nat, m ≤ 100 → m ≤ sizeLine := fun m h => by rw [sizeLine_eq]; omega
  -- A
  refine ⟨_, rfl, _, rfl, (at_ : Int), rfl, d, c, _, hs6, nd, nc, fun za Ha sa ha => ?_⟩
  rw [cutP_to] at ha
  have nda := same_ne sa nd
  have nca := same_ne sa nc
  refine ⟨_, rfl, (by show 1 ≤ sizeLine; decide), fun pb hpb => ?_⟩
  have sb := same_new (o := .tup [y]) hpb
  have hb : Dp K (off d c (upd Ha pb (.tup [y]))) (.ref pb) (.tuple [OD]) := dp_tupO nda nca hpb (.cons (dp_mono (off_mono sa) _ _ hOD) .nil)
  have ha2 := dp_mono (off_mono (d := d) (c := c) sb) _ _ ha
  have s1 := sa.trans sb
  generalize upd Ha pb (.tup [y]) = Hb at sb hb ha2 s1 ⊢
  refine ⟨d, c, _, _, ha2, hb, same_ne s1 nd, same_ne s1 nc, sz _ (by rw [List.length_take]; show _ + 1 ≤ 100; omega), fun zc Hc sc hc => ?_⟩
  have s2 := s1.trans sc
  refine ⟨_, rfl, _, rfl, _, _, rfl, rfl, (at_ : Int) + 1, rfl, d, c, _, dp_mono (off_mono s2) _ _ hs6, same_ne s2 nd, same_ne s2 nc, fun zd Hd sd hd => ?_⟩
  rw [addI, cutP_from] at hd
  have s3' := s2.trans sd
  refine ⟨d, c, _, _, dp_mono (off_mono sd) _ _ hc, hd, same_ne s3' nd, same_ne s3' nc, sz _ (by rw [List.length_append, List.length_take, List.length_drop]; show _ + 1 + _ ≤ 100; omega), fun zA HA sA hA => ?_⟩
  have sA6 := s3'.trans sA
  generalize (S.take at_ ++ [OD] ++ S.drop (at_ + 1)) = DA at hA
  clear hd hc hb ha ha2
  refine ⟨(by show 1 ≤ sizeLine; decide), fun le hle => ?_⟩
  have se := same_new (o := .lst [zA]) hle
  have ee : (upd HA le (.lst [zA])) le = some (.lst [zA]) := upd_same
  have sE6 := sA6.trans se
  have hA := dp_mono (off_mono (d := d) (c := c) se) _ _ hA
  generalize upd HA le (.lst [zA]) = HE at se ee sE6 hA ⊢
  refine ⟨le, 2, _, rfl, rfl, ee, by decide, by decide, (by show 1 * 2 ≤ sizeLine; decide), fun pf hpf => ?_⟩
  have sf := same_new (o := .lst [zA, zA]) hpf
  have ef : (upd HE pf (.lst [zA, zA])) pf = some (.lst [zA, zA]) := upd_same
  have sF6 := sE6.trans sf
  have hA := dp_mono (off_mono (d := d) (c := c) sf) _ _ hA
  show tLst _ _ (upd HE pf (.lst [zA, zA])) _
  generalize upd HE pf (.lst [zA, zA]) = HF at sf ef sF6 hA ⊢
  have hs : ∀ {Hk : Hp}, Same H6 Hk → Dp K (off d c Hk) sv (.tuple S) := fun s => dp_mono (off_mono s) _ _ hs6
  -- B
  refine ⟨_, rfl, _, rfl, (at_ : Int), rfl, d, c, _, hs sF6, same_ne sF6 nd, same_ne sF6 nc, fun z1 G1 t1 g1 => ⟨_, rfl, _, rfl, _, _, rfl, rfl, (at_ : Int) + 1, rfl, d, c, _, hs (sF6.trans t1), same_ne (sF6.trans t1) nd, same_ne (sF6.trans t1) nc, fun z2 G2 t2 g2 => ?_⟩⟩
  have u2 := sF6.trans (t1.trans t2)
  refine ⟨d, c, _, _, dp_mono (off_mono t2) _ _ g1, g2, same_ne u2 nd, same_ne u2 nc, ?_, fun zB GB tB gB => ?_⟩
  · refine sz _ ?_
    have h1 : (cutP S none (some (at_ : Int))).length ≤ 16 := by rw [cutP_to, List.length_take]; omega
    have h2 : (cutP S (some ((at_ : Int) + 1)) none).length ≤ 16 := by rw [addI, cutP_from, List.length_drop]; omega
    omega
  have uB := u2.trans tB
  generalize cutP S none (some (at_ : Int)) ++ cutP S (some ((at_ : Int) + 1)) none = DB at gB
  -- C
  refine ⟨_, rfl, _, rfl, (by show 1 ≤ sizeLine; decide), fun p3 hp3 => ?_⟩
  have t3 := same_new (o := .tup [y]) hp3
  have u3 := uB.trans t3
  have g3 : Dp K (off d c (upd GB p3 (.tup [y]))) (.ref p3) (.tuple [OD]) := dp_tupO (same_ne uB nd) (same_ne uB nc) hp3 (.cons (dp_mono (off_mono uB) _ _ hOD) .nil)
  have gB := dp_mono (off_mono (d := d) (c := c) t3) _ _ gB
  generalize upd GB p3 (.tup [y]) = G3 at t3 u3 g3 gB ⊢
  refine ⟨d, c, _, _, hs u3, g3, same_ne u3 nd, same_ne u3 nc, sz _ (by show S.length + 1 ≤ 100; omega), fun zC GC tC gC => ?_⟩
  have uC := u3.trans tC
  have gB := dp_mono (off_mono (d := d) (c := c) tC) _ _ gB
  -- D
  obtain ⟨as_, xs, esv, sqs, has⟩ := dp_seq (hs uC)
  have hxs := dpAll_len has
  refine ⟨_, rfl, as_, xs, by rw [esv], .inr (sqT_off sqs), fun l4 hl4 => ?_⟩
  have t4 := same_new (o := .lst xs) hl4
  have u4 := uC.trans t4
  have g4 : Dp K (off d c (upd GC l4 (.lst xs))) (.ref l4) (.list S) := dp_lstO (same_ne uC nd) (same_ne uC nc) hl4 has
  have gB := dp_mono (off_mono (d := d) (c := c) t4) _ _ gB
  have gC := dp_mono (off_mono (d := d) (c := c) t4) _ _ gC
  generalize upd GC l4 (.lst xs) = G4 at t4 u4 g4 gB gC ⊢
  refine ⟨(by show 3 ≤ sizeLine; decide), fun l5 hl5 => ?_⟩
  have t5 := same_new (o := .lst [zB, zC, .ref l4]) hl5
  have e5 : (upd G4 l5 (.lst [zB, zC, .ref l4])) l5 = some (.lst [zB, zC, .ref l4]) := upd_same
  have uF5 : Same HF (upd G4 l5 (.lst [zB, zC, .ref l4])) := (((t1.trans t2).trans tB).trans (t3.trans tC)).trans (t4.trans t5)
  have ef5 := uF5 _ _ ef
  have u5 := u4.trans t5
  have all5 : DpAll K (off d c (upd G4 l5 (.lst [zB, zC, .ref l4]))) [zA, zA, zB, zC, .ref l4] [.tuple DA, .tuple DA, .tuple DB, .tuple (S ++ [OD]), .list S] :=
    .cons (dp_mono (off_mono uF5) _ _ hA) (.cons (dp_mono (off_mono uF5) _ _ hA) (.cons (dp_mono (off_mono t5) _ _ gB) (.cons (dp_mono (off_mono t5) _ _ gC) (.cons (dp_mono (off_mono t5) _ _ g4) .nil))))
  generalize upd G4 l5 (.lst [zB, zC, .ref l4]) = G5 at t5 e5 uF5 ef5 u5 all5 ⊢
  refine ⟨pf, l5, _, _, rfl, rfl, ef5, e5, (by show 5 ≤ sizeLine; decide), fun p6 hp6 => ?_⟩
  generalize eG : upd G5 p6 _ = G6
  have t6 : Same G5 G6 := eG ▸ same_new hp6
  have e6 : G6 p6 = some (.lst [zA, zA, zB, zC, .ref l4]) := by rw [← eG, upd_same]; rfl
  have u6 := u5.trans t6
  have all6 := dpAll_mono (off_mono (d := d) (c := c) t6) _ _ all5
  clear eG
  -- E
  refine ⟨_, rfl, _, rfl, _, rfl, (at_ : Int), rfl, d, c, _, hs u6, same_ne u6 nd, same_ne u6 nc, fun z7 G7 t7 g7 => ?_⟩
  have u7 := u6.trans t7
  refine ⟨_, rfl, _, rfl, (at_ : Int), rfl, _, rfl, _, _, rfl, rfl, (at_ : Int) + 1, rfl, d, c, _, hs u7, same_ne u7 nd, same_ne u7 nc, fun z8 G8 t8 g8 => ?_⟩
  have u8 := u7.trans t8
  have len : ∀ lo hi : Option Int, (cutP S lo hi).length ≤ 16 := fun lo hi => by
    unfold cutP
    rw [List.length_take, List.length_drop]
    omega
  refine ⟨d, c, _, _, dp_mono (off_mono t8) _ _ g7, g8, same_ne u8 nd, same_ne u8 nc, sz _ (by have := len none (some (at_ : Int)); have := len (some (at_ : Int)) (some ((at_ : Int) + 1)); omega), fun z9 G9 t9 g9 => ?_⟩
  have u9 := u8.trans t9
  refine ⟨_, rfl, _, rfl, (at_ : Int), rfl, d, c, _, hs u9, same_ne u9 nd, same_ne u9 nc, fun z10 G10 t10 g10 => ?_⟩
  have u10 := u9.trans t10
  refine ⟨d, c, _, _, dp_mono (off_mono t10) _ _ g9, g10, same_ne u10 nd, same_ne u10 nc, sz _ (by rw [List.length_append]; have := len none (some (at_ : Int)); have := len (some (at_ : Int)) (some ((at_ : Int) + 1)); have := len (some (at_ : Int)) none; omega), fun zE GE tE gE => ⟨(by show 1 ≤ sizeLine; decide), fun l11 hl11 => ?_⟩⟩
  have t11 := same_new (o := .lst [zE]) hl11
  have e11 : (upd GE l11 (.lst [zE])) l11 = some (.lst [zE]) := upd_same
  have v11 : Same G6 (upd GE l11 (.lst [zE])) := (((t7.trans t8).trans t9).trans t10).trans (tE.trans t11)
  have all11 := dpAll_app (dpAll_mono (off_mono (d := d) (c := c) v11) _ _ all6) (.cons (dp_mono (off_mono (d := d) (c := c) t11) _ _ gE) .nil)
  have u11 := u6.trans v11
  have e611 := v11 _ _ e6
  generalize upd GE l11 (.lst [zE]) = G11 at t11 e11 v11 all11 u11 e611 ⊢
  refine ⟨p6, l11, _, _, rfl, rfl, e611, e11, (by show 6 ≤ sizeLine; decide), fun p12 hp12 => ?_⟩
  generalize eG12 : upd G11 p12 _ = G12
  have t12 : Same G11 G12 := eG12 ▸ same_new hp12
  have e12 : G12 p12 = some (.lst ([zA, zA, zB, zC, .ref l4] ++ [zE])) := by rw [← eG12, upd_same]
  have all12 := dpAll_mono (off_mono (d := d) (c := c) t12) _ _ all11
  clear eG12
  have hlen : ([zA, zA, zB, zC, .ref l4] ++ [zE] : List V).length = 6 := rfl
  generalize ([zA, zA, zB, zC, .ref l4] ++ [zE] : List V) = L at e12 all12 hlen
  have hw : way < L.length := by omega
  have hz : L[way]? = some L[way] := List.getElem?_eq_getElem hw
  obtain ⟨D, hD⟩ := dpO_get all12 hz
  refine ⟨_, rfl, p12, L, way, _, rfl, rfl, .inl (.inl e12), atI_nat hz, q _ _ D ((dk6.same (u11.trans t12)).up (by omega)) (X06.trans (off_mono (u11.trans t12))) hD⟩
end
end K51

set_option maxHeartbeats 4000000
namespace K51
open PySem PySem.Spec PyProof.Rows L2 HG P52 P51
/-- the heap but for d, c and f -/
def off3 (d c f : Addr) (H : Hp) : Hp := fun b => if b = f then none else off d c H b
theorem off3_mono {d c f : Addr} {H H' : Hp} (s : Same (off d c H) (off d c H')) : Same (off3 d c f H) (off3 d c f H') := fun b o e => by
  unfold off3 at e ⊢
  split at e
  · cases e
  · rename_i n
    rw [if_neg n]
    exact s _ _ e
theorem off3_sub {d c f : Addr} {H : Hp} : Same (off3 d c f H) (off d c H) := fun b o e => by
  unfold off3 at e
  split at e
  · cases e
  · exact e
theorem off3_new {d c p : Addr} {H : Hp} {o : HO} (hd : H d ≠ none) (hc : H c ≠ none) (hp : H p = none) : Same (off d c H) (off3 d c p (upd H p o)) := fun b u e => by
  unfold off3
  have hb := off_same _ _ e
  rw [if_neg (fun z => by rw [z, hp] at hb; cases hb)]
  exact off_new hd hc hp _ _ e
theorem off3_put {d c f : Addr} {H : Hp} {o : HO} : Same (off3 d c f H) (off3 d c f (upd H f o)) := fun b u e => by
  unfold off3 at e ⊢
  split at e
  · cases e
  · rename_i n
    rw [if_neg n]
    unfold off at e ⊢
    split at e
    · cases e
    · rename_i m
      rw [if_neg m, upd_ne n]
      exact e
def spSome (K : PySem.W.Frag) : Sp := fun vs H Q _ => ∃ (d c : Addr) (v u : V) (p : Addr) (n N : Nat) (g : Gr) (ks : List Nat) (cl : List (List Nat)) (xs : List V), vs = [.ref d, v, u, .ref p] ∧ n < 2 ^ 44 ∧ Deck d c n H ∧ Dp K H v g.D ∧ GrB N g ∧ g.vars ≠ [] ∧ Dp K H u (nsD ks) ∧ ks.length ≤ 10 ∧ (∀ k ∈ ks, k < g.count) ∧
  Bw g cl ∧ off d c H p = some (.lst xs) ∧ DpAll K H xs ((apartG g cl).map pD) ∧
  ∀ a ys ds H', Deck d c (n + 100) H' → Ext d c H H' → H' a = some (.lst ys) → DpAll K H' ys ds → ys.length ≤ 40 → Q (.ref a) H'
section
variable {P : Program} {w : World} {K : PySem.W.Frag} {mg : Str → Option Value} {base : Heap}
set_option pp.maxSteps 600 in
theorem c_some (T : Txt w K mg) : Cal P w K mg base "_law_some" 8 ["_law_deck_here", "_law_shape", "_law_held", "_law_pairs_here"] (spSome K) := by
  obtain ⟨fd, F⟩ := T.d__law_some
  have C__law_spread := c_spread (P := P) (w := w) (base := base) T
  have C__law_merged := c_merged (P := P) (w := w) (base := base) T
  have C__law_bent := c_bent (P := P) (w := w) (base := base) T
  refine ⟨⟨fd, F.ok sc__law_some (fun vs H Q E h => by repeat (first | (obtain ⟨e, _⟩ := h; subst e; rfl) | (obtain ⟨_, h⟩ := h))) (fun cdv A outer s H vs Q E hr h => ?_), F.bindsN fun _ _ _ _ _ _ us hl => match us, hl with | [_, _, _, _], _ => rfl⟩, T.g _ (by decide), F.kp⟩
  obtain ⟨d, c, v, u, p, n, N, g, ks, cl, xs, rfl, hn, dk, hv, hg, hne, hu0, hkl, hkc, hbw, hp, hd0, q⟩ := h
  refine ⟨_, PSs.nox (pss_cons (ps_par (i := 4) (j := 5) rfl sc__law_some.nd rfl rfl (by decide) rfl rfl (pa_cons (pe_cal C__law_spread (hr.mono (by omega)) (by rfl) (pa_cons (pv 0) (pa_cons (pv 1) (pa_cons (pv 2) pa_nil)))) (pa_cons (pe_lst pa_nil) pa_nil)) (by rfl))
      (pss_cons (ps_for PassesOwn.never rfl (pi_range1 (by rfl) T.n_range (pa_cons pe_int pa_nil)) (pg_name (i := 6) sc__law_some.nd rfl (.inl rfl)) (pss_cons (ps_set (i := 7) sc__law_some.nd rfl (.inl rfl) (pe_cal C__law_merged (hr.mono (by omega)) (by rfl) (pa_cons (pv 0) (pa_cons (pv 1) (pa_cons (pv 2) (pa_cons (pv 4) (pa_cons (pv 3) pa_nil)))))))
      (pss_cons (ps_set (i := 8) sc__law_some.nd rfl (.inl rfl) (pe_cal C__law_merged (hr.mono (by omega)) (by rfl) (pa_cons (pv 0) (pa_cons (pv 1) (pa_cons (pv 2) (pa_cons (pv 7) (pa_cons pe_non pa_nil)))))))
      (pss_one (ps_set (i := 5) sc__law_some.nd rfl (.inl rfl) (pe_op op_cat (pv 5) (pe_lst (pa_cons (pv 4) (pa_cons (pv 7) (pa_cons (pv 8) (pa_cons (pe_cal C__law_bent (hr.mono (by omega)) (by rfl) (pa_cons (pv 0) (pa_cons (pv 7) pa_nil))) (pa_cons (pe_cal C__law_bent (hr.mono (by omega)) (by rfl) (pa_cons (pv 0) (pa_cons (pv 4) pa_nil))) pa_nil))))))))))))
      (pss_cons (ps_if (pt_cmpR op_gt (pe_callB (lenK (K := K) rfl) (by rfl) T.n_len (by decide +kernel) (pa_cons (pv 2) pa_nil)) pe_int (nomark _)) (pss_one (ps_expr (pe_bm PySem.F.plainAttrs_list PySem.F.slot_list_append PySem.F.type_list_append mt_append (pv 5) (pa_cons (pe_op (op_catP (K := K) rfl) (pe_op (op_catP (K := K) rfl) (pe_slice (sl_P (K := K) rfl) (pv 4) po_none (po_some (pe_ix (ix_P (K := K) rfl) (pv 2) pe_int (fun _ _ => rfl)))) (pe_tup (pa_cons (pe_ix (ix_P (K := K) rfl) (pv 4) (pe_ix (ix_P (K := K) rfl) (pv 2) pe_int (fun _ _ => rfl)) (fun _ _ => rfl)) pa_nil))) (pe_slice (sl_P (K := K) rfl) (pv 4) (po_some (pe_op op_add (pe_ix (ix_P (K := K) rfl) (pv 2) pe_int (fun _ _ => rfl)) pe_int)) po_none)) pa_nil)))) pss_nil)
      (pss_one (ps_ret (pe_op op_cat (pv 5) (pe_lst (pa_cons pe_non (pa_cons pe_int (pa_cons (pe_tup pa_nil) (pa_cons pe_str (pa_cons (pe_lst pa_nil) (pa_cons (pe_tup (pa_cons (pe_tup pa_nil) pa_nil)) pa_nil))))))))))))), ?_⟩
  have hc16 := cnt_le hg
  have hc0 : 0 < cnt g := by
    cases hvs : g.vars with
    | nil => exact absurd hvs hne
    | cons y r =>
      have : y ∈ occ g := (mem_srt (lo_vars hg)).mpr (by rw [hvs]; exact List.mem_cons_self)
      exact Nat.lt_of_le_of_lt (Nat.zero_le _) (cnt_occ this)
  refine ⟨_, rfl, _, rfl, _, rfl, d, c, v, u, n, N, g, ks, rfl, by omega, dk, hv, hg, hu0, fun sv H1 S dk1 X1 hs1 hSl hSn => ⟨Nat.zero_le _, fun fl hfl => ⟨_, _, rfl, ?_⟩⟩⟩
  have nlS : noL (.tuple S) = true := by simp only [noL]; exact hSn
  have nfl := dk1.has hfl
  have hflH := grow X1 dk1 hfl
  have s2 := same_new (o := .lst []) hfl
  have dk2 := dk1.same s2
  have X2 : Ext d c H (upd H1 fl (.lst [])) := X1.trans (off_mono s2)
  have e2 : off d c (upd H1 fl (.lst [])) fl = some (.lst []) := by rw [off_get nfl.1 nfl.2, upd_same]
  have hs2 := dp_mono s2 _ _ hs1
  show tSeq _ _ _ _ (upd H1 fl (.lst []))
  generalize upd H1 fl (.lst []) = H2 at s2 dk2 X2 e2 hs2 ⊢
  have hsl : ∀ {n' : Nat} {Hk : Hp}, Deck d c n' Hk → Ext d c H2 Hk → Dp K Hk sv (.tuple S) := fun _ X => dp_kt (ext_kt dk2 X) _ _ nlS hs2
  have hvl : ∀ {Hk : Hp}, Ext d c H Hk → Dp K Hk v g.D := fun X => dp_kt (ext_kt dk X) _ _ (nlG g) hv
  have hul : ∀ {Hk : Hp}, Ext d c H Hk → Dp K Hk u (nsD ks) := fun X => dp_kt (ext_kt dk X) _ _ (nlNs ks) hu0
  have hpl : ∀ {Hk : Hp}, Ext d c H Hk → off d c Hk p = some (.lst xs) ∧ DpAll K Hk xs ((apartG g cl).map pD) := fun X => ⟨X _ _ hp, dpAll_kt (ext_kt dk X) _ _ (nlP _) hd0⟩
  refine ⟨2, rfl, by decide, by decide, for_range (lo := 0) (n := (2 : Int).toNat) (fun i σ H3 => ∃ fl ys ds x6 x7 x8, σ = [some (.ref d), some v, some u, some (.ref p), some sv, some (.ref fl), x6, x7, x8] ∧ off d c H3 fl = some (.lst ys) ∧ DpAll K (off3 d c fl H3) ys ds ∧ ys.length = 5 * i ∧ Deck d c (n + 2 + 46 * i) H3 ∧ Ext d c H2 H3 ∧ H fl = none) ⟨fl, [], [], _, _, _, rfl, e2, .nil, rfl, dk2, Ext.refl _, hflH⟩ ?_ ?_⟩
  · rintro i σ H3 hi ⟨fl, ys, ds, x6, x7, x8, rfl, e3, hd3, hl3, dk3, X3, hflH⟩
    have hi : i < 2 := hi
    have X03 := X2.trans X3
    have pp3 := hpl X03
    refine ⟨_, rfl, _, rfl, _, rfl, _, rfl, _, rfl, d, c, v, u, sv, _, _, N, g, ks, cl, xs, S, rfl, by omega, dk3, hvl X03, hg, hne, hul X03, hkl, hkc, hsl dk3 X3, hSl, hSn, hbw, .inr ⟨p, rfl, pp3.1, pp3.2⟩, fun z4 H4 S4 dk4 X4 h4 hl4 hn4 => ?_⟩
    have X04 := X03.trans X4
    have nl4 : noL (.tuple S4) = true := by simp only [noL]; exact hn4
    refine ⟨_, rfl, _, rfl, _, rfl, _, rfl, d, c, v, u, z4, _, _, N, g, ks, cl, xs, S4, rfl, by omega, dk4, hvl X04, hg, hne, hul X04, hkl, hkc, h4, hl4, hn4, hbw, .inl rfl, fun z5 H5 S5 dk5 X5 h5 hl5 hn5 => ?_⟩
    have nl5 : noL (.tuple S5) = true := by simp only [noL]; exact hn5
    have X35 := X4.trans X5
    refine ⟨_, rfl, _, rfl, _, rfl, _, rfl, _, rfl, _, rfl, d, c, z4, _, S4, rfl, by omega, dk5, dp_kt (ext_kt dk4 X5) _ _ nl4 h4, by omega, by omega, hn4, fun z6 H6 D6 dk6 X6 h6 => ?_⟩
    have X36 := X35.trans X6
    refine ⟨_, rfl, _, rfl, d, c, sv, _, S, rfl, by omega, dk6, hsl dk6 (X3.trans X36), by omega, by omega, hSn, fun z7 H7 D7 dk7 X7 h7 => ⟨(by show 5 ≤ sizeLine; decide), fun l8 hl8 => ?_⟩⟩
    have X37 := X36.trans X7
    have t8 := same_new (o := .lst [sv, z4, z5, z6, z7]) hl8
    have e8 : (upd H7 l8 (.lst [sv, z4, z5, z6, z7])) l8 = some (.lst [sv, z4, z5, z6, z7]) := upd_same
    have k7 := off_kt dk7
    have i1 := dp_kt k7 _ _ nlS (hsl dk7 (X3.trans X37))
    have i2 := dp_kt k7 _ _ nl4 (dp_kt (ext_kt dk4 (X5.trans (X6.trans X7))) _ _ nl4 h4)
    have i3 := dp_kt k7 _ _ nl5 (dp_kt (ext_kt dk5 (X6.trans X7)) _ _ nl5 h5)
    have i4 := X7.dp h6
    have all8 : DpAll K (off d c (upd H7 l8 (.lst [sv, z4, z5, z6, z7]))) (ys ++ [sv, z4, z5, z6, z7]) (ds ++ [.tuple S, .tuple S4, .tuple S5, D6, D7]) :=
      dpAll_mono (off_mono (d := d) (c := c) t8) _ _ (dpAll_app (dpAll_mono (off3_sub.trans X37) _ _ hd3) (.cons i1 (.cons i2 (.cons i3 (.cons i4 (.cons h7 .nil))))))
    have f3 : fl ≠ d ∧ fl ≠ c := by
      unfold off at e3
      split at e3
      · cases e3
      · rename_i hh
        exact ⟨fun z => hh (.inl z), fun z => hh (.inr z)⟩
    have e38 : (upd H7 l8 (.lst [sv, z4, z5, z6, z7])) fl = some (.lst ys) := by
      refine t8 _ _ ?_
      have := X37 _ _ e3
      rw [off_get f3.1 f3.2] at this
      exact this
    have dk8 := dk7.same t8
    generalize upd H7 l8 (.lst [sv, z4, z5, z6, z7]) = H8 at t8 e8 all8 e38 dk8 ⊢
    refine ⟨fl, l8, ys, _, rfl, rfl, e38, e8, by rw [sizeLine_eq]; show ys.length + 5 ≤ _; omega, fun p9 hp9 => ?_⟩
    obtain ⟨nd8, nc8⟩ := dk8.nd
    have n9 := dk8.has hp9
    have t9 := same_new (o := .lst (ys ++ [sv, z4, z5, z6, z7])) hp9
    refine ⟨p9, _, _, _, _, _, rfl, ?_, dpAll_mono (off3_new nd8 nc8 hp9) _ _ all8, ?_, (dk8.same t9).up (by omega), X3.trans (X37.trans (off_mono (t8.trans t9))), grow (X03.trans (X37.trans (off_mono t8))) dk8 hp9⟩
    · rw [off_get n9.1 n9.2, upd_same]
    · rw [List.length_append, hl3]
      show 5 * i + 5 = _
      omega
  · rintro σ H3 ⟨fl, ys, ds, x6, x7, x8, rfl, e3, hd3, hl3, dk3, X3, hflH⟩
    have hl3 : ys.length = 10 := hl3
    have X03 := X2.trans X3
    have dk3 : Deck d c (n + 94) H3 := dk3
    have f3 : fl ≠ d ∧ fl ≠ c := by
      unfold off at e3
      split at e3
      · cases e3
      · rename_i hh
        exact ⟨fun z => hh (.inl z), fun z => hh (.inr z)⟩
    obtain ⟨au, xu, rfl, squ, hau⟩ := dp_seq (hul X03)
    have eu := dpAll_nV hau
    subst eu
    have hu3 : Dp K H3 (.ref au) (nsD ks) := hul X03
    have e33 : H3 fl = some (.lst ys) := by
      rw [off_get f3.1 f3.2] at e3
      exact e3
    refine ⟨_, rfl, .ref au, ks.length, rfl, .inr ⟨_, squ, by rw [List.length_map]⟩, _, _, rfl, rfl, _, rfl, ?_⟩
    refine if_join (I := fun H4 => ∃ ys ds, off d c H4 fl = some (.lst ys) ∧ DpAll K (off3 d c fl H4) ys ds ∧ ys.length ≤ 20 ∧ Deck d c (n + 94) H4 ∧ Ext d c H H4) (C := fun H8 => _) (fun hb k => k H3 ⟨ys, ds, e3, hd3, by omega, dk3, X03⟩) (fun hb k => ?_) ?_
    · have hk2 : 1 < ks.length := by
        have := of_decide_eq_true hb
        omega
      have k0 : (ks.map nD)[0]? = some (nD ks[0]) := by rw [List.getElem?_map, List.getElem?_eq_getElem (by omega)]; rfl
      have k1 : (ks.map nD)[1]? = some (nD ks[1]) := by rw [List.getElem?_map, List.getElem?_eq_getElem (by omega)]; rfl
      have hc0' : ks[0] < S.length := by
        have h1 := hkc _ (List.getElem_mem (show 0 < ks.length by omega))
        have h2 := cnt_count g
        omega
      generalize ks[0] = ka at k0 hc0'
      generalize ks[1] = kb at k1
      have hs3 := hsl dk3 X3
      refine ⟨_, rfl, .inl ⟨rfl, _, .inl (.inl e33)⟩, _, rfl, _, rfl, _, 1, _, hu3, rfl, k1, fun z hz => ?_⟩
      cases hz
      refine ⟨(kb : Int), rfl, _, hs3, fun z4 H4 t4 h4 => ⟨_, rfl, _, rfl, _, 0, _, dp_mono t4 _ _ hu3, rfl, k0, fun z hz => ?_⟩⟩
      cases hz
      refine ⟨_, ka, _, dp_mono t4 _ _ hs3, rfl, List.getElem?_eq_getElem hc0', fun z5 h5 => ⟨(by show 1 ≤ sizeLine; decide), fun p6 hp6 => ?_⟩⟩
      have t6 := same_new (o := .tup [z5]) hp6
      have h6 : Dp K (upd H4 p6 (.tup [z5])) (.ref p6) (.tuple [S[ka]]) := dp_tupN hp6 (.cons h5 .nil)
      have len : ∀ lo hi : Option Int, (cutP S lo hi).length ≤ 16 := fun lo hi => by
        unfold cutP
        rw [List.length_take, List.length_drop]
        omega
      have nlcut : ∀ lo hi : Option Int, ∀ e ∈ cutP S lo hi, noL e = true := fun lo hi e he => by
        unfold cutP at he
        exact noLAll_mem.mp hSn e (List.mem_of_mem_drop (List.mem_of_mem_take he))
      refine ⟨_, _, dp_mono t6 _ _ h4, h6, by rw [sizeLine_eq]; have := len none (some (kb : Int)); show _ + 1 ≤ _; omega, fun z7 H7 t7 h7 => ?_⟩
      have t37 := t4.trans (t6.trans t7)
      refine ⟨_, rfl, _, rfl, _, 1, _, dp_mono t37 _ _ hu3, rfl, k1, fun z hz => ?_⟩
      cases hz
      refine ⟨_, _, rfl, rfl, (kb : Int) + 1, rfl, _, dp_mono t37 _ _ hs3, fun z8 H8 t8 h8 => ⟨_, _, dp_mono t8 _ _ h7, h8, ?_, fun z9 H9 t9 h9 => ?_⟩⟩
      · rw [List.length_append, sizeLine_eq]
        have := len none (some (kb : Int))
        have := len (some ((kb : Int) + 1)) none
        show _ + 1 + _ ≤ _
        omega
      have nl9 : noL (.tuple (cutP S none (some (kb : Int)) ++ [S[ka]] ++ cutP S (some ((kb : Int) + 1)) none)) = true := noL_tup.mpr fun e he => by
        rcases List.mem_append.mp he with he | he
        · rcases List.mem_append.mp he with he | he
          · exact nlcut _ _ e he
          · rw [List.mem_singleton.mp he]
            exact noLAll_mem.mp hSn _ (List.getElem_mem hc0')
        · exact nlcut _ _ e he
      have t39 := t37.trans (t8.trans t9)
      have dk9 := dk3.same t39
      have e39 := t39 _ _ e33
      have h9o := dp_kt (off_kt dk9) _ _ nl9 h9
      refine ⟨fl, _, _, rfl, rfl, e39, by rw [sizeLine_eq]; omega, k _ ⟨_, _, by rw [off_get f3.1 f3.2, upd_same], dpAll_app (dpAll_mono ((off3_mono (off_mono t39)).trans off3_put) _ _ hd3) (.cons (dp_mono off3_put _ _ (dp_kt (?_ : KT (off d c H9) (off3 d c fl H9)) _ _ nl9 h9o)) .nil), by rw [List.length_append]; show _ + 1 ≤ 20; omega, dk9.upd f3.1 f3.2, ?_⟩⟩
      · refine ⟨fun b xs' e => ?_, fun b o u' e => ?_⟩
        · unfold off3
          rw [if_neg (fun z => by rw [z, off_get f3.1 f3.2, e39] at e; cases e)]
          exact e
        · unfold off3
          rw [if_neg (fun z => by rw [z, off_get f3.1 f3.2, e39] at e; cases e)]
          exact e
      · exact (X03.trans (off_mono t39)).mut hflH
    · rintro H4 ⟨ys, ds, e4, hd4, hl4, dk4, X4⟩
      obtain ⟨nd4, nc4⟩ := dk4.nd
      have e44 : H4 fl = some (.lst ys) := by
        rw [off_get f3.1 f3.2] at e4
        exact e4
      have hd4 := dpAll_mono off3_sub _ _ hd4
      refine ⟨_, rfl, Nat.zero_le _, fun p5 hp5 => ⟨Nat.zero_le _, fun l6 hl6 => ⟨Nat.zero_le _, fun p7 hp7 => ⟨(by show 1 ≤ sizeLine; decide), fun p8 hp8 => ⟨(by show 6 ≤ sizeLine; decide), fun l9 hl9 => ?_⟩⟩⟩⟩⟩
      have t5 := same_new (o := .tup []) hp5
      have h5 : Dp K (off d c (upd H4 p5 (.tup []))) (.ref p5) (.tuple []) := dp_tupO nd4 nc4 hp5 .nil
      generalize upd H4 p5 (.tup []) = H5 at t5 h5 hl6 hp7 hp8 hl9 ⊢
      have t6 := same_new (o := .lst []) hl6
      have h6 : Dp K (off d c (upd H5 l6 (.lst []))) (.ref l6) (.list []) := dp_lstO (same_ne t5 nd4) (same_ne t5 nc4) hl6 .nil
      have u6 := t5.trans t6
      generalize upd H5 l6 (.lst []) = H6 at t6 h6 u6 hp7 hp8 hl9 ⊢
      have t7 := same_new (o := .tup []) hp7
      have h7 : Dp K (off d c (upd H6 p7 (.tup []))) (.ref p7) (.tuple []) := dp_tupO (same_ne u6 nd4) (same_ne u6 nc4) hp7 .nil
      have u7 := u6.trans t7
      generalize upd H6 p7 (.tup []) = H7 at t7 h7 u7 hp8 hl9 ⊢
      have t8 := same_new (o := .tup [.ref p7]) hp8
      have h8 : Dp K (off d c (upd H7 p8 (.tup [.ref p7]))) (.ref p8) (.tuple [.tuple []]) := dp_tupO (same_ne u7 nd4) (same_ne u7 nc4) hp8 (.cons h7 .nil)
      have u8 := u7.trans t8
      generalize upd H7 p8 (.tup [.ref p7]) = H8 at t8 h8 u8 hl9 ⊢
      have t9 := same_new (o := .lst [.non, .int 0, .ref p5, .str "", .ref l6, .ref p8]) hl9
      have e9 : (upd H8 l9 (.lst [.non, .int 0, .ref p5, .str "", .ref l6, .ref p8])) l9 = some (.lst [.non, .int 0, .ref p5, .str "", .ref l6, .ref p8]) := upd_same
      have u9 := u8.trans t9
      have all9 : DpAll K (off d c (upd H8 l9 (.lst [.non, .int 0, .ref p5, .str "", .ref l6, .ref p8]))) (ys ++ [.non, .int 0, .ref p5, .str "", .ref l6, .ref p8]) (ds ++ [.none, .int 0, .tuple [], .str "", .list [], .tuple [.tuple []]]) :=
        dpAll_app (dpAll_mono (off_mono u9) _ _ hd4) (.cons .non (.cons (.int _) (.cons (dp_mono (off_mono (t6.trans (t7.trans (t8.trans t9)))) _ _ h5) (.cons (.str _) (.cons (dp_mono (off_mono (t7.trans (t8.trans t9))) _ _ h6) (.cons (dp_mono (off_mono t9) _ _ h8) .nil))))))
      have e49 := u9 _ _ e44
      refine ⟨fl, l9, ys, _, rfl, rfl, e49, e9, by rw [sizeLine_eq]; show ys.length + 6 ≤ _; omega, fun p10 hp10 => ?_⟩
      have t10 := same_new (o := .lst (ys ++ [.non, .int 0, .ref p5, .str "", .ref l6, .ref p8])) hp10
      exact q p10 _ _ _ ((dk4.same (u9.trans t10)).up (by omega)) (X4.trans (off_mono (u9.trans t10))) upd_same (dpAll_mono ((off_same).trans t10) _ _ all9) (by rw [List.length_append]; show _ + 6 ≤ 40; omega)
end
end K51

set_option maxHeartbeats 4000000
namespace K51
open PySem PySem.Spec PyProof.Rows L2 HG P52
/-! ### _law_long -/
structure RL (K : PySem.W.Frag) (d c : Addr) (H : Hp) (rl x : Addr) (rss : List (List Rw)) : Prop where
  ex : ∃ vs : List V, off d c H rl = some (.lst vs) ∧ vs.length = rss.length ∧ ∀ k (h : k < rss.length), ∃ a us, vs[k]? = some (.ref a) ∧ a ≠ rl ∧ a ≠ x ∧ off d c H a = some (.lst us) ∧ DpAll K (off d c H) us (rss[k].map Rw.D)
theorem RL.ext {K : PySem.W.Frag} {d c rl x : Addr} {H H' : Hp} {rss : List (List Rw)} (h : RL K d c H rl x rss) (e : Ext d c H H') : RL K d c H' rl x rss := by
  obtain ⟨vs, h1, h2, h3⟩ := h.ex
  refine ⟨vs, e _ _ h1, h2, fun k hk => ?_⟩
  obtain ⟨a, us, g1, g2, g2x, g3, g4⟩ := h3 k hk
  exact ⟨a, us, g1, g2, g2x, e _ _ g3, dpAll_mono e _ _ g4⟩
theorem RL.to {K : PySem.W.Frag} {d c rl x y : Addr} {H : Hp} {rss : List (List Rw)} (h : RL K d c H rl x rss) (hy : H y = none) : RL K d c H rl y rss := by
  obtain ⟨vs, h1, h2, h3⟩ := h.ex
  refine ⟨vs, h1, h2, fun k hk => ?_⟩
  obtain ⟨a, us, g1, g2, g2x, g3, g4⟩ := h3 k hk
  exact ⟨a, us, g1, g2, fun z => (by rw [z] at g3; have := off_same _ _ g3; rw [hy] at this; cases this), g3, g4⟩
theorem off_two {d c a : Addr} {H : Hp} {o : HO} (h : off d c H a = some o) : a ≠ d ∧ a ≠ c ∧ H a = some o := by
  unfold off at h
  split at h
  · cases h
  · rename_i n
    exact ⟨fun z => n (.inl z), fun z => n (.inr z), h⟩
theorem off_upd {d c a b : Addr} {H : Hp} {o : HO} (h : b ≠ a) : off d c (upd H a o) b = off d c H b := by
  unfold off
  split
  · rfl
  · rw [upd_ne h]
theorem RL.set {K : PySem.W.Frag} {d c rl x a : Addr} {H : Hp} {rss : List (List Rw)} {vs us : List V} {k : Nat} {l : List Rw} (h1 : off d c H rl = some (.lst vs)) (h2 : vs.length = rss.length)
    (h3 : ∀ k (h : k < rss.length), ∃ a us, vs[k]? = some (.ref a) ∧ a ≠ rl ∧ a ≠ x ∧ off d c H a = some (.lst us) ∧ DpAll K (off d c H) us (rss[k].map Rw.D)) (na : a ≠ rl) (nx : a ≠ x) (ha : off d c H a = some (.lst us)) (hu : DpAll K (off d c H) us (l.map Rw.D)) :
    RL K d c (upd H rl (.lst (vs.set k (.ref a)))) rl x (rss.set k l) := by
  obtain ⟨n1, n2, hr⟩ := off_two h1
  have kt : KT (off d c H) (off d c (upd H rl (.lst (vs.set k (.ref a))))) := by
    refine ⟨fun b xs e => ?_, fun b o u e => ?_⟩
    · rw [off_upd (fun z => by rw [z, h1] at e; cases e)]
      exact e
    · rw [off_upd (fun z => by rw [z, h1] at e; cases e)]
      exact e
  refine ⟨vs.set k (.ref a), by rw [off_get n1 n2, upd_same], by rw [List.length_set, List.length_set, h2], fun j hj => ?_⟩
  have hj' : j < rss.length := by rw [List.length_set] at hj; exact hj
  by_cases e : k = j
  · subst e
    refine ⟨a, us, by rw [List.getElem?_set, if_pos rfl, if_pos (by rw [h2]; exact hj')], na, nx, by rw [off_upd na]; exact ha, ?_⟩
    rw [List.getElem_set_self]
    exact dpAll_kt kt _ _ (nlRs l) hu
  · obtain ⟨b, ub, g1, g2, g2x, g3, g4⟩ := h3 j hj'
    refine ⟨b, ub, by rw [List.getElem?_set, if_neg e]; exact g1, g2, g2x, by rw [off_upd g2]; exact g3, ?_⟩
    rw [List.getElem_set_ne e]
    exact dpAll_kt kt _ _ (nlRs _) g4
def rsum (rss : List (List Rw)) : Nat := (rss.map List.length).sum
theorem rsum_set : ∀ (rss : List (List Rw)) (k : Nat) (h : k < rss.length) (l : List Rw), rsum (rss.set k l) + rss[k].length = rsum rss + l.length
  | r :: rss, 0, _, l => by
    show (l.length + rsum rss) + r.length = (r.length + rsum rss) + l.length
    omega
  | r :: rss, k + 1, h, l => by
    have hk : k < rss.length := Nat.lt_of_succ_lt_succ h
    have := rsum_set rss k hk l
    show (r.length + rsum (rss.set k l)) + (rss[k]'hk).length = (r.length + rsum rss) + l.length
    omega
theorem rowsN_sum : ∀ (bs : List Blk), rowsN bs = rsum (bs.map Blk.rows)
  | [] => rfl
  | b :: bs => by
    have := rowsN_sum bs
    unfold rowsN rsum at *
    rw [List.map_cons, List.sum_cons, List.map_cons, List.map_cons, List.sum_cons, this]
theorem rsum_mem {rss : List (List Rw)} {k : Nat} (h : k < rss.length) : rss[k].length ≤ rsum rss := by
  have := rsum_set rss k h []
  have e : ([] : List Rw).length = 0 := rfl
  omega
def spLong (K : PySem.W.Frag) : Sp := fun vs H Q _ => ∃ (d c wd : Addr) (n : Nat), vs = [.ref d, .ref wd] ∧ n < 2 ^ 46 ∧ Deck d c n H ∧ Wd K (off d c H) wd ∧
  ∀ (v : V) (g : Gr) (H' : Hp), Deck d c (n + 4000) H' → Ext d c H H' → Dp K H' v g.D → GrB 6 g → g.vars ≠ [] → Q v H'
section
variable {P : Program} {w : World} {K : PySem.W.Frag} {mg : Str → Option Value} {base : Heap}
set_option pp.maxSteps 600 in
theorem c_long (T : Txt w K mg) : Cal P w K mg base "_law_long" 5 ["_law_deck_here", "_law_world_here"] (spLong K) := by
  obtain ⟨fd, F⟩ := T.d__law_long
  have C__law_first := c_first (P := P) (w := w) (base := base) T
  have C__law_draw := c_draw (P := P) (w := w) (base := base) T
  have C__law_row := c_row (P := P) (w := w) (base := base) T
  have C__law_operand := c_operand (P := P) (w := w) (base := base) T
  refine ⟨⟨fd, F.ok sc__law_long (fun vs H Q E h => by repeat (first | (obtain ⟨e, _⟩ := h; subst e; rfl) | (obtain ⟨_, h⟩ := h))) (fun cdv A outer s H vs Q E hr h => ?_), F.bindsN fun _ _ _ _ _ _ us hl => match us, hl with | [_, _], _ => rfl⟩, T.g _ (by decide), F.kp⟩
  obtain ⟨d, c, wd, n, rfl, hn, dk, hwd, q⟩ := h
  have hu := hu_of hr
  refine ⟨_, PSs.nox (pss_cons (ps_set (i := 2) sc__law_long.nd rfl (.inl rfl) (pe_disp (pps_cons pe_str pe_int (pps_cons pe_str (pe_lst (pa_cons pe_int (pa_cons pe_int (pa_cons pe_int (pa_cons pe_int pa_nil))))) (pps_cons pe_str (pe_lst (pa_cons pe_int (pa_cons pe_int pa_nil))) pps_nil))) (by rfl) (by rfl) (fun z => by cases z) (by decide)))
      (pss_cons (ps_par (i := 3) (j := 4) rfl sc__law_long.nd rfl rfl (by decide) rfl rfl (pa_cons (pe_op op_cat (pe_lc (own := [("_law_k", 5)]) (by rfl) sc__law_long.nd (pi_range1 (by rfl) T.n_range (pa_cons pe_int pa_nil)) (blkOk_by (own := [("_law_k", 5)]) (N := N__law_long) (sc := defScope s__law_long) (by decide +kernel)) (fun _ _ _ _ _ => (pg_name (i := 5) sc__law_long.nd rfl (.inl rfl))) (fun _ _ _ _ _ => pts_nil) (fun _ _ _ _ _ => (pe_lst pa_nil))) (pe_lst (pa_cons (pe_lst (pa_cons (pe_tup (pa_cons pe_str (pa_cons (pe_tup (pa_cons pe_str (pa_cons pe_int pa_nil))) pa_nil))) pa_nil)) pa_nil))) (pa_cons (pe_lst pa_nil) pa_nil)) (by rfl))
      (pss_cons (ps_asg (pe_cal C__law_first (hr.mono (by omega)) (by rfl) (pa_cons (pv 0) (pa_cons (pv 1) (pa_cons (pv 2) pa_nil)))) (pg_sub (pv 3) pe_int set_list))
      (pss_cons (ps_for PassesOwn.never rfl (pi_range1 (by rfl) T.n_range (pa_cons pe_int pa_nil)) (pg_name (i := 5) sc__law_long.nd rfl (.inl rfl)) (pss_cons (ps_set (i := 6) sc__law_long.nd rfl (.inl rfl) (pe_cal C__law_draw (hr.mono (by omega)) (by rfl) (pa_cons (pv 0) (pa_cons pe_int pa_nil))))
      (pss_one (ps_asg (pe_op op_cat (pe_ix (ix_listK (K := K) rfl) (pv 3) (pv 6) (fun _ _ => rfl)) (pe_lst (pa_cons (pe_cal C__law_row (hr.mono (by omega)) (by rfl) (pa_cons (pv 0) (pa_cons (pv 1) (pa_cons (pv 2) pa_nil)))) pa_nil))) (pg_sub (pv 3) (pv 6) set_list)))))
      (pss_cons (ps_for PassesOwn.never rfl (pi_range1 (by rfl) T.n_range (pa_cons pe_int pa_nil)) (pg_name (i := 5) sc__law_long.nd rfl (.inl rfl)) (pss_cons (ps_set (i := 7) sc__law_long.nd rfl (.inl rfl) (pe_tup (pa_cons pe_str (pa_cons (pe_op op_sub (pe_op op_add (pv 5) pe_int) (pe_op op_mod (pv 5) pe_int)) pa_nil))))
      (pss_cons (ps_if (pt_cmpR op_eq (pe_op op_mod (pv 5) pe_int) pe_int (nomark _)) (pss_one (ps_set (i := 7) sc__law_long.nd rfl (.inl rfl) (pe_tup (pa_cons pe_str (pa_cons (pe_cal C__law_operand (hr.mono (by omega)) (by rfl) (pa_cons (pv 0) (pa_cons (pv 2) pa_nil))) (pa_cons (pe_op op_add (pv 5) pe_int) (pa_cons (pe_op op_add (pv 5) pe_int) pa_nil))))))) pss_nil)
      (pss_one (ps_expr (pe_bm PySem.F.plainAttrs_list PySem.F.slot_list_append PySem.F.type_list_append mt_append (pv 4) (pa_cons (pe_tup (pa_cons (pe_callTy call_tuple_of (by rfl) T.n_tuple (by decide +kernel) (pa_cons (pe_ix (ix_listK (K := K) rfl) (pv 3) (pv 5) (fun _ _ => rfl)) pa_nil)) (pa_cons (pv 7) pa_nil))) pa_nil)))))))
      (pss_one (ps_ret (pe_tup (pa_cons pe_int (pa_cons (pe_op (op_catP (K := K) rfl) (pe_callTy call_tuple_of (by rfl) T.n_tuple (by decide +kernel) (pa_cons (pv 4) pa_nil)) (pe_tup (pa_cons (pe_tup (pa_cons (pe_callTy call_tuple_of (by rfl) T.n_tuple (by decide +kernel) (pa_cons (pe_ix (ix_listK (K := K) rfl) (pv 3) pe_int (fun _ _ => rfl)) pa_nil)) (pa_cons (pe_tup (pa_cons pe_str (pa_cons (pe_tup (pa_cons pe_str (pa_cons pe_int pa_nil))) pa_nil))) pa_nil))) pa_nil))) pa_nil)))))))))), ?_⟩
  intro kt hkt
  have nkt := dk.has hkt
  have s1 := same_new (o := .dK []) hkt
  have e1 : (upd H kt (.dK [])) kt = some (.dK []) := upd_same
  generalize upd H kt (.dK []) = H1 at s1 e1 ⊢
  refine ⟨(by show 4 ≤ sizeLine; decide), fun wa hwa => ?_⟩
  have s2 := same_new (o := .lst [.int 0, .int 1, .int 2, .int 3]) hwa
  have e2 : (upd H1 wa (.lst [.int 0, .int 1, .int 2, .int 3])) wa = some (.lst [.int 0, .int 1, .int 2, .int 3]) := upd_same
  have dk1 := dk.same s1
  have nwa := dk1.has hwa
  have nwk : wa ≠ kt := fun z => by rw [z, e1] at hwa; cases hwa
  generalize upd H1 wa (.lst [.int 0, .int 1, .int 2, .int 3]) = H2 at s2 e2 ⊢
  refine ⟨(by show 2 ≤ sizeLine; decide), fun fa hfa => ?_⟩
  have s3 := same_new (o := .lst [.int 4, .int 5]) hfa
  have e3 : (upd H2 fa (.lst [.int 4, .int 5])) fa = some (.lst [.int 4, .int 5]) := upd_same
  have nfa := (dk1.same s2).has hfa
  have nfk : fa ≠ kt := fun z => by
    have := s2 _ _ e1
    rw [← z, hfa] at this
    cases this
  generalize upd H2 fa (.lst [.int 4, .int 5]) = H3 at s3 e3 ⊢
  have e13 := (s2.trans s3) _ _ e1
  have e23 := s3 _ _ e2
  have s13 := s1.trans (s2.trans s3)
  refine ⟨e13, [(Sum.inr "count", .int 1), (Sum.inr "words", .ref wa), (Sum.inr "funcs", .ref fa)], rfl, (by show 3 ≤ 15; decide), ?_⟩
  generalize eH4 : upd H3 kt _ = H4
  have eH4 : H4 = upd H3 kt (.dK [(Sum.inr "count", .int 1), (Sum.inr "words", .ref wa), (Sum.inr "funcs", .ref fa)]) := eH4.symm
  have s04 : Same H H4 := fun b o e => by
    rw [eH4, upd_ne (ne_of_none e hkt)]
    exact s13 _ _ e
  have dk4 := dk.same s04
  have hk4 : Kt (off d c H4) kt 1 4 2 := by
    refine ⟨⟨wa, fa, ?_, ?_, ?_⟩, by decide, by decide, by decide, by decide, by decide⟩
    · rw [off_get nkt.1 nkt.2, eH4]; exact upd_same
    · rw [off_get nwa.1 nwa.2, eH4, upd_ne nwk]; exact e23
    · rw [off_get nfa.1 nfa.2, eH4, upd_ne nfk]; exact e3
  have S4 : S52 K d c wd kt 1 4 2 n H4 H4 := ⟨dk4, Ext.refl _, hwd.mono (off_same_mono s04), hk4⟩
  clear eH4 e1 e2 e3 e13 e23
  -- rows
  refine ⟨_, rfl, by decide, by decide, fun D5 hD5 => ?_⟩
  have n5 := dk4.has hD5
  refine lc_range (lo := 0) (n := (120 : Int).toNat) (fun i H5 => ∃ vs, H5 D5 = some (.lst vs) ∧ vs.length = i ∧ (∀ k, k < i → ∃ a, vs[k]? = some (.ref a) ∧ a ≠ D5 ∧ a ≠ d ∧ a ≠ c ∧ H5 a = some (.lst [])) ∧ Same H4 H5) ⟨[], upd_same, rfl, fun k hk => absurd hk (Nat.not_lt_zero _), same_new hD5⟩ ?_ ?_
  · rintro i H5 hi ⟨vs, h5, hl5, hall, s5⟩
    have hi : i < 120 := hi
    refine ⟨rfl, tyes ⟨Nat.zero_le _, fun l hl => ⟨_, upd_get hl h5, small_line (by omega), _, upd_same, by rw [List.length_append, hl5]; rfl, fun k hk => ?_, fun b' o' e' => ?_⟩⟩⟩
    · have nl : l ≠ D5 := fun z => by rw [z, h5] at hl; cases hl
      have nl2 := (dk4.same s5).has hl
      by_cases hki : k < i
      · obtain ⟨a, g1, g2, g3, g4, g5⟩ := hall k hki
        exact ⟨a, by rw [List.getElem?_append_left (by omega)]; exact g1, g2, g3, g4, by rw [upd_ne g2]; exact upd_get hl g5⟩
      · have : k = i := by omega
        subst this
        exact ⟨l, by rw [← hl5, List.getElem?_append_right (Nat.le_refl _), Nat.sub_self]; rfl, nl, nl2.1, nl2.2, by rw [upd_ne nl, upd_same]⟩
    · rw [upd_ne (ne_of_none e' hD5)]
      exact upd_get hl (s5 _ _ e')
  rintro H5 ⟨vs, h5, hl5, hall, s5⟩
  have hl5 : vs.length = 120 := hl5
  have hall : ∀ k, k < 120 → _ := hall
  refine ⟨(by show 2 ≤ sizeLine; decide), fun p6 hp6 => ⟨(by show 2 ≤ sizeLine; decide), fun p7 hp7 => ⟨(by show 1 ≤ sizeLine; decide), fun l8 hl8 => ⟨(by show 1 ≤ sizeLine; decide), fun l9 hl9 => ?_⟩⟩⟩⟩
  have t6 := same_new (o := .tup [.str "var", .int 3]) hp6
  have g6 : Dp K (upd H5 p6 (.tup [.str "var", .int 3])) (.ref p6) (vD 3) := dp_tupN hp6 (.cons (.str _) (.cons (.int _) .nil))
  generalize upd H5 p6 (.tup [.str "var", .int 3]) = H6 at t6 g6 hp7 hl8 hl9 ⊢
  have t7 := same_new (o := .tup [.str "print", .ref p6]) hp7
  have g7 : Dp K (upd H6 p7 (.tup [.str "print", .ref p6])) (.ref p7) (Rw.pr (.v 3)).D := dp_tupN hp7 (.cons (.str _) (.cons g6 .nil))
  generalize upd H6 p7 (.tup [.str "print", .ref p6]) = H7 at t7 g7 hl8 hl9 ⊢
  have t8 := same_new (o := .lst [.ref p7]) hl8
  have e8 : (upd H7 l8 (.lst [.ref p7])) l8 = some (.lst [.ref p7]) := upd_same
  have u7 := t6.trans t7
  have dk7 := (dk4.same s5).same u7
  have nl8 := dk7.has hl8
  have g7 := dp_mono t8 _ _ g7
  generalize upd H7 l8 (.lst [.ref p7]) = H8 at t8 e8 g7 hl9 ⊢
  have t9 := same_new (o := .lst [.ref l8]) hl9
  have e9 : (upd H8 l9 (.lst [.ref l8])) l9 = some (.lst [.ref l8]) := upd_same
  have g7 := dp_mono t9 _ _ g7
  have e89 := t9 _ _ e8
  have u9 := u7.trans (t8.trans t9)
  generalize upd H8 l9 (.lst [.ref l8]) = H9 at t9 e9 g7 e89 u9 ⊢
  have e59 := u9 _ _ h5
  refine ⟨D5, l9, _, _, rfl, rfl, e59, e9, by rw [hl5, sizeLine_eq]; show 120 + 1 ≤ _; omega, fun rl hrl => ?_⟩
  have t10 := same_new (o := .lst (vs ++ [.ref l8])) hrl
  have e10 : (upd H9 rl (.lst (vs ++ [.ref l8]))) rl = some (.lst (vs ++ [.ref l8])) := upd_same
  have dk9 := (dk4.same s5).same u9
  have nrl := dk9.has hrl
  have u10 := u9.trans t10
  have g7 := dp_mono t10 _ _ g7
  have e810 := t10 _ _ e89
  have hne : ∀ a o, H9 a = some o → a ≠ rl := fun a o e z => by rw [z, hrl] at e; cases e
  have n8rl := hne _ _ e89
  have R0 : RL K d c (upd H9 rl (.lst (vs ++ [.ref l8]))) rl rl (List.replicate 120 [] ++ [[Rw.pr (.v 3)]]) := by
    refine ⟨_, by rw [off_get nrl.1 nrl.2]; exact e10, by rw [List.length_append, List.length_append, List.length_replicate, hl5]; rfl, fun k hk => ?_⟩
    by_cases hk2 : k < 120
    · obtain ⟨a, g1, g2, g3, g4, g5⟩ := hall k hk2
      have g59 := u9 _ _ g5
      refine ⟨a, [], by rw [List.getElem?_append_left (by omega)]; exact g1, hne _ _ g59, hne _ _ g59, by rw [off_get g3 g4]; exact t10 _ _ g59, ?_⟩
      rw [List.getElem_append_left (by rw [List.length_replicate]; exact hk2), List.getElem_replicate]
      exact .nil
    · have hk3 : k = 120 := by
        rw [List.length_append, List.length_replicate] at hk
        have : k < 120 + 1 := hk
        omega
      subst hk3
      refine ⟨l8, [.ref p7], by rw [List.getElem?_append_right (by omega), hl5]; rfl, n8rl, n8rl, by rw [off_get nl8.1 nl8.2]; exact e810, ?_⟩
      rw [List.getElem_append_right (by rw [List.length_replicate]; exact Nat.le_refl _)]
      simp only [List.length_replicate, Nat.sub_self, List.getElem_cons_zero]
      have dk10 := dk9.same t10
      exact .cons (dp_kt (off_kt dk10) _ _ (nlR _) g7) .nil
  have r0 : rsum (List.replicate 120 [] ++ [[Rw.pr (.v 3)]]) ≤ 1 := by decide +kernel
  have l0 : (List.replicate 120 ([] : List Rw) ++ [[Rw.pr (.v 3)]]).length = 121 := by decide +kernel
  have o0 : ∀ l ∈ List.replicate 120 ([] : List Rw) ++ [[Rw.pr (.v 3)]], ∀ R ∈ l, RwOk 6 R := fun l hl R hR => by
    rcases List.mem_append.mp hl with hl | hl
    · rw [List.eq_of_mem_replicate hl] at hR; cases hR
    · rw [List.mem_singleton.mp hl] at hR
      rw [List.mem_singleton.mp hR]
      show 3 < 6
      decide
  generalize List.replicate 120 ([] : List Rw) ++ [[Rw.pr (.v 3)]] = rss at R0 r0 l0 o0
  have hrl4 := none_same (s5.trans u9) hrl
  have X10 : Ext d c H4 (upd H9 rl (.lst (vs ++ [.ref l8]))) := off_same_mono (s5.trans u10)
  have dk10 := dk9.same t10
  show tCons _ _ _ (upd H9 rl (.lst (vs ++ [.ref l8]))) _
  generalize upd H9 rl (.lst (vs ++ [.ref l8])) = H10 at R0 X10 dk10 ⊢
  clear e10 e810 g7 e89 e9 e8 t10 u10 t6 t7 t8 t9 hall h5 hrl hne e59
  refine ⟨Nat.zero_le _, fun bl hbl => ⟨_, _, rfl, ?_⟩⟩
  have nbl := dk10.has hbl
  have tb := same_new (o := .lst []) hbl
  have eb : off d c (upd H10 bl (.lst [])) bl = some (.lst []) := by rw [off_get nbl.1 nbl.2, upd_same]
  have hbl4 := grow X10 dk10 hbl
  have X11 := X10.trans (off_same_mono (d := d) (c := c) tb)
  have dk11 := dk10.same tb
  have R1 := (R0.to hbl).ext (off_same_mono (d := d) (c := c) tb)
  have nbr : bl ≠ rl := fun z => by
    obtain ⟨v1, h1, _⟩ := R0.ex
    rw [z, (off_two h1).2.2] at hbl
    cases hbl
  show tSeq _ _ _ _ (upd H10 bl (.lst []))
  generalize upd H10 bl (.lst []) = H11 at eb X11 dk11 R1 ⊢
  -- rows[0] = first
  have S11 := S4.step dk11 X11
  refine ⟨_, rfl, _, rfl, _, rfl, d, c, wd, kt, n, 1, 4, 2, rfl, by omega, ⟨dk11, Ext.refl _, S11.wd, S11.kt⟩, fun a us rows H12 S12 ha ea hU hrl10 hok _ => ?_⟩
  have X12 := X11.trans S12.X
  have R2 := R1.ext S12.X
  obtain ⟨v2, f1, f2, f3⟩ := R2.ex
  obtain ⟨nr1, nr2, hr12⟩ := off_two f1
  have na := dk11.has ha
  have nar : a ≠ rl := fun z => by
    obtain ⟨v1, h1, _⟩ := R1.ex
    rw [z, (off_two h1).2.2] at ha
    cases ha
  have nab : a ≠ bl := fun z => by
    rw [z, (off_two eb).2.2] at ha
    cases ha
  have R3 := RL.set (x := bl) (k := 0) (l := rows) f1 f2 f3 nar nab (by rw [off_get na.1 na.2]; exact ea) (dpAll_kt (off_kt S12.dk) _ _ (nlRs rows) hU)
  refine ⟨_, rfl, rl, v2, 0, 0, rfl, rfl, hr12, Evl.ixN_nat (n := v2.length) (j := 0) (by omega), ?_⟩
  have r3 : rsum (rss.set 0 rows) ≤ 11 := by
    have := rsum_set rss 0 (by omega) rows
    omega
  have l3 : (rss.set 0 rows).length = 121 := by rw [List.length_set]; exact l0
  have o3 : ∀ l ∈ rss.set 0 rows, ∀ R ∈ l, RwOk 6 R := fun l hl => (List.mem_or_eq_of_mem_set hl).elim (o0 l) fun e => by rw [e]; exact hok
  have eb3 : off d c (upd H12 rl (.lst (v2.set 0 (.ref a)))) bl = some (.lst []) := by rw [off_upd nbr]; exact S12.X _ _ eb
  have dk13 : Deck d c (n + 20) (upd H12 rl (.lst (v2.set 0 (.ref a)))) := S12.dk.upd nr1 nr2
  have X13 : Ext d c H4 (upd H12 rl (.lst (v2.set 0 (.ref a)))) := X12.mut hrl4
  show tSeq _ _ _ _ (upd H12 rl (.lst (v2.set 0 (.ref a))))
  generalize upd H12 rl (.lst (v2.set 0 (.ref a))) = H13 at R3 eb3 dk13 X13 ⊢
  generalize rss.set 0 rows = rss3 at R3 r3 l3 o3
  clear f1 f2 f3 R2 R1 R0 hU
  refine ⟨30, rfl, by decide, by decide, for_range (lo := 0) (n := (30 : Int).toNat) (fun i σ H => ∃ rss x5 x6 x7, σ = [some (.ref d), some (.ref wd), some (.ref kt), some (.ref rl), some (.ref bl), x5, x6, x7] ∧ RL K d c H rl bl rss ∧ rss.length = 121 ∧ rsum rss ≤ 11 + i ∧ (∀ l ∈ rss, ∀ R ∈ l, RwOk 6 R) ∧ off d c H bl = some (.lst []) ∧ Deck d c (n + 20 + 41 * i) H ∧ Ext d c H4 H) ⟨rss3, _, _, _, rfl, R3, l3, r3, o3, eb3, dk13, X13⟩ ?_ ?_⟩
  · rintro i σ H14 hi ⟨rss, x5, x6, x7, rfl, R14, l14, r14, o14, eb14, dk14, X14⟩
    have hi : i < 30 := hi
    refine ⟨_, rfl, d, c, _, 121, rfl, by decide, by decide, by omega, dk14, fun r H15 r0 r1 dk15 X15 => ?_⟩
    obtain ⟨at_, rfl⟩ := Int.eq_ofNat_of_zero_le r0
    have hat : at_ < rss.length := by omega
    have R15 := R14.ext X15
    obtain ⟨v5, f1, f2, f3⟩ := R15.ex
    obtain ⟨a, us, g1, g2, g2x, g3, g4⟩ := f3 at_ hat
    have S15 := S4.step dk15 (X14.trans X15)
    refine ⟨_, rfl, _, rfl, rl, v5, (at_ : Int), .ref a, rfl, rfl, .inl (.inl (off_two f1).2.2), atI_nat g1, _, rfl, _, rfl, _, rfl, d, c, wd, kt, _, 1, 4, 2, rfl, by omega, ⟨dk15, Ext.refl _, S15.wd, S15.kt⟩, fun v R H16 S16 hv hR => ⟨(by show 1 ≤ sizeLine; decide), fun l hl => ?_⟩⟩
    have hul := dpAll_len g4
    rw [List.length_map] at hul
    have hus := rsum_mem hat
    have tl := same_new (o := .lst [v]) hl
    have el : (upd H16 l (.lst [v])) l = some (.lst [v]) := upd_same
    have X17 := S16.X.trans (off_same_mono (d := d) (c := c) tl)
    have dk17 := S16.dk.same tl
    have hv7 := dp_mono tl _ _ hv
    generalize upd H16 l (.lst [v]) = H17 at tl el X17 dk17 hv7 ⊢
    refine ⟨a, l, us, [v], rfl, rfl, (off_two (X17 _ _ g3)).2.2, el, by rw [sizeLine_eq]; show us.length + 1 ≤ _; omega, fun p hp => ?_⟩
    have tp := same_new (o := .lst (us ++ [v])) hp
    have ep : (upd H17 p (.lst (us ++ [v]))) p = some (.lst (us ++ [v])) := upd_same
    have np := dk17.has hp
    have X18 := X17.trans (off_same_mono (d := d) (c := c) tp)
    have dk18 := dk17.same tp
    have hv8 := dp_mono tp _ _ hv7
    have npr : p ≠ rl := fun z => by
      have := (off_two (X17 _ _ f1)).2.2
      rw [← z, hp] at this
      cases this
    generalize upd H17 p (.lst (us ++ [v])) = H18 at tp ep X18 dk18 hv8 ⊢
    have R18 := R15.ext X18
    obtain ⟨v8, k1, k2, k3⟩ := R18.ex
    obtain ⟨nr1, nr2, hr18⟩ := off_two k1
    have npb : p ≠ bl := fun z => by
      have := (off_two ((X15.trans X17) _ _ eb14)).2.2
      rw [← z, hp] at this
      cases this
    have R19 := RL.set (x := bl) (k := at_) (l := rss[at_] ++ [R]) k1 k2 k3 npr npb (by rw [off_get np.1 np.2]; exact ep) (by
      rw [List.map_append]
      exact dpAll_app (dpAll_mono X18 _ _ g4) (.cons (dp_kt (off_kt dk18) _ _ (nlR R) hv8) .nil))
    refine ⟨_, rfl, _, rfl, rl, v8, (at_ : Int), at_, rfl, rfl, hr18, Evl.ixN_nat (by omega), _, _, _, _, rfl, R19, by rw [List.length_set]; exact l14, ?_, fun l' hl' => (List.mem_or_eq_of_mem_set hl').elim (o14 l') fun e => ?_, by rw [off_upd nbr]; exact X18 _ _ (X15 _ _ eb14), (dk18.upd nr1 nr2).up (by omega), (X14.trans (X15.trans X18)).mut hrl4⟩
    · have := rsum_set rss at_ hat (rss[at_] ++ [R])
      rw [List.length_append, List.length_singleton] at this
      omega
    · rw [e]
      intro Q hQ
      rcases List.mem_append.mp hQ with z | z
      · exact o14 _ (List.getElem_mem hat) Q z
      · rw [List.mem_singleton.mp z]
        exact hR
  rintro σ H14 ⟨rss, x5, x6, x7, rfl, R14, l14, r14, o14, eb14, dk14, X14⟩
  have r14 : rsum rss ≤ 41 := r14
  have dk14 : Deck d c (n + 1250) H14 := dk14
  clear R3 dk13 X13 r3 l3 o3 eb3
  refine ⟨120, rfl, by decide, by decide, for_range (lo := 0) (n := (120 : Int).toNat) (fun i σ H => ∃ bvs bs x5 x6 x7, σ = [some (.ref d), some (.ref wd), some (.ref kt), some (.ref rl), some (.ref bl), x5, x6, x7] ∧ RL K d c H rl bl rss ∧ off d c H bl = some (.lst bvs) ∧ DpAll K H bvs (bs.map Blk.D) ∧ bs.map Blk.rows = rss.take i ∧ (∀ b ∈ bs, StpOk 6 121 b.stop) ∧ Deck d c (n + 1250 + 3 * i) H ∧ Ext d c H4 H) ⟨[], [], _, _, _, rfl, R14, eb14, .nil, rfl, (fun _ h => nomatch h), dk14, X14⟩ ?_ ?_⟩
  · rintro i σ H15 hi ⟨bvs, bs, x5, x6, x7, rfl, R15, eb15, hB, hbr, hbs, dk15, X15⟩
    have hi : i < 120 := hi
    have hil : i < rss.length := by omega
    have hbl : bs.length = i := by
      have := congrArg List.length hbr
      rw [List.length_map, List.length_take] at this
      omega
    -- the row and the end put together
    have fin : ∀ (H16 : Hp) (ve : V) (E1 : Stp) (m : Nat), Deck d c m H16 → m ≤ n + 1250 + 3 * (i + 1) → Ext d c H15 H16 → Dp K H16 ve E1.D → StpOk 6 121 E1 →
        ∃ vs a us, off d c H16 rl = some (.lst vs) ∧ vs[i]? = some (.ref a) ∧ H16 a = some (.lst us) ∧ ∀ t, H16 t = none → ∀ t2, (upd H16 t (.tup us)) t2 = none → (upd (upd H16 t (.tup us)) t2 (.tup [.ref t, ve])) bl = some (.lst bvs) ∧ bvs.length < sizeLine ∧ ∀ x5 x6 x7 : Option V,
          ∃ (bvs' : List V) (bs' : List Blk) (x5' x6' x7' : Option V), [some (.ref d), some (.ref wd), some (.ref kt), some (.ref rl), some (.ref bl), x5, x6, x7] = [some (.ref d), some (.ref wd), some (.ref kt), some (.ref rl), some (.ref bl), x5', x6', x7'] ∧ RL K d c (upd (upd (upd H16 t (.tup us)) t2 (.tup [.ref t, ve])) bl (.lst (bvs ++ [.ref t2]))) rl bl rss ∧ off d c (upd (upd (upd H16 t (.tup us)) t2 (.tup [.ref t, ve])) bl (.lst (bvs ++ [.ref t2]))) bl = some (.lst bvs') ∧
            DpAll K (upd (upd (upd H16 t (.tup us)) t2 (.tup [.ref t, ve])) bl (.lst (bvs ++ [.ref t2]))) bvs' (bs'.map Blk.D) ∧ bs'.map Blk.rows = rss.take (i + 1) ∧ (∀ b ∈ bs', StpOk 6 121 b.stop) ∧ Deck d c (n + 1250 + 3 * (i + 1)) (upd (upd (upd H16 t (.tup us)) t2 (.tup [.ref t, ve])) bl (.lst (bvs ++ [.ref t2]))) ∧ Ext d c H4 (upd (upd (upd H16 t (.tup us)) t2 (.tup [.ref t, ve])) bl (.lst (bvs ++ [.ref t2]))) := by
      intro H16 ve E1 m dk16 hm X16 hve hE
      have R16 := R15.ext X16
      obtain ⟨vs, f1, f2, f3⟩ := R16.ex
      obtain ⟨a, us, g1, g2, g2x, g3, g4⟩ := f3 i hil
      refine ⟨vs, a, us, f1, g1, (off_two g3).2.2, fun t ht t2 ht2 => ?_⟩
      have s1 := same_new (o := .tup us) ht
      have s2 := same_new (o := .tup [.ref t, ve]) ht2
      have s12 := s1.trans s2
      have gt : Dp K (upd H16 t (.tup us)) (.ref t) (.tuple (rss[i].map Rw.D)) := dp_tupN ht (dpAll_mono off_same _ _ g4)
      have gb : Dp K (upd (upd H16 t (.tup us)) t2 (.tup [.ref t, ve])) (.ref t2) (Blk.D ⟨rss[i], E1⟩) := dp_tupN ht2 (.cons gt (.cons (dp_mono s1 _ _ hve) .nil))
      have eb16 := X16 _ _ eb15
      obtain ⟨nb1, nb2, eb16'⟩ := off_two eb16
      have eb17 := s12 _ _ eb16'
      have hB16 := dpAll_kt (ext_kt dk15 X16) _ _ (noLAll_map fun b _ => nlB b) hB
      have hB17 := dpAll_mono s12 _ _ hB16
      have dk17 := dk16.same s12
      have X17 : Ext d c H15 (upd (upd H16 t (.tup us)) t2 (.tup [.ref t, ve])) := X16.trans (off_same_mono s12)
      have R17 := R15.ext X17
      generalize upd (upd H16 t (.tup us)) t2 (.tup [.ref t, ve]) = H17 at gb eb17 hB17 dk17 X17 R17 ⊢
      have hbvl := dpAll_len hB17
      rw [List.length_map] at hbvl
      refine ⟨eb17, small_line (by omega), fun x5 x6 x7 => ⟨_, bs ++ [⟨rss[i], E1⟩], _, _, _, rfl, ?_, by rw [off_get nb1 nb2, upd_same], ?_, ?_, fun b hb => ?_, (dk17.upd nb1 nb2).up hm, (X15.trans X17).mut hbl4⟩⟩
      · obtain ⟨v7, k1, k2, k3⟩ := R17.ex
        refine ⟨v7, by rw [off_upd nbr.symm]; exact k1, k2, fun k hk => ?_⟩
        obtain ⟨b, ub, j1, j2, nbb, j3, j4⟩ := k3 k hk
        refine ⟨b, ub, j1, j2, nbb, by rw [off_upd nbb]; exact j3, ?_⟩
        refine dpAll_kt ?_ _ _ (nlRs _) j4
        have ebo : off d c H17 bl = some (.lst bvs) := by rw [off_get nb1 nb2]; exact eb17
        refine ⟨fun b xs e => ?_, fun b o u e => ?_⟩
        · rw [off_upd (fun z => by rw [z, ebo] at e; cases e)]
          exact e
        · rw [off_upd (fun z => by rw [z, ebo] at e; cases e)]
          exact e
      · have ke := KT.lst (o := .lst (bvs ++ [.ref t2])) eb17
        rw [List.map_append]
        exact dpAll_app (dpAll_kt ke _ _ (noLAll_map fun b _ => nlB b) hB17) (.cons (dp_kt ke _ _ (nlB _) gb) .nil)
      · rw [List.map_append, hbr, List.take_add_one, List.getElem?_eq_getElem hil]
        rfl
      · rcases List.mem_append.mp hb with z | z
        · exact hbs b z
        · rw [List.mem_singleton.mp z]
          exact hE
    obtain ⟨nb1, nb2, eb15'⟩ := off_two eb15
    have ej : (0 + (i : Int)) + 3 - (0 + (i : Int)) % 3 = ((i + 3 - i % 3 : Nat) : Int) := by omega
    have ei1 : (0 + (i : Int)) + 1 = ((i + 1 : Nat) : Int) := by omega
    have ei2 : (0 + (i : Int)) + 2 = ((i + 2 : Nat) : Int) := by omega
    refine ⟨_, rfl, _, _, rfl, rfl, _, rfl, _, _, rfl, rfl, (by decide : (0 : Int) < 3), _, _, rfl, rfl, (by show 2 ≤ sizeLine; decide), fun p16 hp16 => ?_⟩
    generalize eHH : upd H15 p16 _ = H16
    have eHH : H16 = upd H15 p16 (.tup [.str "jump", .int ((i + 3 - i % 3 : Nat) : Int)]) := by rw [← eHH, ← ej]
    have s16 : Same H15 H16 := by rw [eHH]; exact same_new hp16
    have g16 : Dp K H16 (.ref p16) (Stp.jp (i + 3 - i % 3)).D := by rw [eHH]; exact dp_tupN hp16 (.cons (.str _) (.cons (.int _) .nil))
    have dk16 := dk15.same s16
    have X16 : Ext d c H15 H16 := off_same_mono s16
    have eb16 := s16 _ _ eb15'
    clear eHH
    refine ⟨_, rfl, _, _, rfl, rfl, (by decide : (0 : Int) < 3), rfl, _, rfl, ?_⟩
    by_cases h3 : i % 3 = 0
    · rw [show decide (V.int ((0 + (i : Int)) % 3) = V.int 0) = true from decide_eq_true (by congr 1; omega)]
      have S16 := S4.step dk16 (X15.trans X16)
      refine iteT ⟨_, rfl, _, rfl, d, c, kt, _, 1, 4, 2, rfl, by omega, dk16, S16.kt, fun va a H17 dk17 X17 ga oa => ⟨_, rfl, _, _, rfl, rfl, _, rfl, _, _, rfl, rfl, (by show 4 ≤ sizeLine; decide), fun p18 hp18 => ?_⟩⟩
      generalize eHH : upd H17 p18 _ = H18
      have eHH : H18 = upd H17 p18 (.tup [.str "branch", va, .int ((i + 1 : Nat) : Int), .int ((i + 2 : Nat) : Int)]) := by rw [← eHH, ← ei1, ← ei2]
      have s18 : Same H17 H18 := by rw [eHH]; exact same_new hp18
      have g18 : Dp K H18 (.ref p18) (Stp.br a (i + 1) (i + 2)).D := by rw [eHH]; exact dp_tupN hp18 (.cons (.str _) (.cons ga (.cons (.int _) (.cons (.int _) .nil))))
      have X18 : Ext d c H15 H18 := X16.trans (X17.trans (off_same_mono s18))
      have dk18 := dk17.same s18
      clear eHH
      obtain ⟨vs, b, us, f1, f2, f3, f4⟩ := fin _ _ _ _ dk18 (by omega) X18 g18 ⟨opd_up oa (by decide), by omega, by omega⟩
      have eb18 := (off_two (X18 _ _ eb15)).2.2
      refine ⟨_, rfl, .inl ⟨rfl, _, .inl (.inl eb18)⟩, _, rfl, _, rfl, rl, vs, (0 + (i : Int)), .ref b, rfl, rfl, .inl (.inl (off_two f1).2.2), by rw [Int.zero_add]; exact atI_nat f2, b, us, rfl, .inl ⟨.inl (.inl f3), fun t ht => ⟨_, rfl, (by show 2 ≤ sizeLine; decide), fun t2 ht2 => ?_⟩⟩⟩
      obtain ⟨k1, k2, k3⟩ := f4 t ht t2 ht2
      exact ⟨bl, bvs, _, rfl, rfl, k1, k2, k3 _ _ _⟩
    · rw [show decide (V.int ((0 + (i : Int)) % 3) = V.int 0) = false from decide_eq_false (fun e => by injection e with e; omega)]
      obtain ⟨vs, b, us, f1, f2, f3, f4⟩ := fin H16 _ _ _ dk16 (by omega) X16 g16 (by show i + 3 - i % 3 < 121; omega)
      refine iteF ⟨_, rfl, .inl ⟨rfl, _, .inl (.inl eb16)⟩, _, rfl, _, rfl, rl, vs, (0 + (i : Int)), .ref b, rfl, rfl, .inl (.inl (off_two f1).2.2), by rw [Int.zero_add]; exact atI_nat f2, b, us, rfl, .inl ⟨.inl (.inl f3), fun t ht => ⟨_, rfl, (by show 2 ≤ sizeLine; decide), fun t2 ht2 => ?_⟩⟩⟩
      obtain ⟨k1, k2, k3⟩ := f4 t ht t2 ht2
      exact ⟨bl, bvs, _, rfl, rfl, k1, k2, k3 _ _ _⟩
  · rintro σ H15 ⟨bvs, bs, x5, x6, x7, rfl, R15, eb15, hB, hbr, hbs, dk15, X15⟩
    have hbr : bs.map Blk.rows = rss.take 120 := hbr
    have dk15 : Deck d c (n + 1610) H15 := dk15
    have hbl : bs.length = 120 := by
      have := congrArg List.length hbr
      rw [List.length_map, List.length_take] at this
      omega
    obtain ⟨nb1, nb2, eb15'⟩ := off_two eb15
    obtain ⟨vs, f1, f2, f3⟩ := R15.ex
    obtain ⟨a, us, g1, g2, g2x, g3, g4⟩ := f3 120 (by omega)
    have hlast : rss[120]? = some (rss[120]'(by omega)) := List.getElem?_eq_getElem (by omega)
    have hlm := List.getElem_mem (show 120 < rss.length by omega)
    generalize rss[120]'(by omega) = last at g4 hlast hlm
    refine ⟨_, rfl, bl, bvs, rfl, .inl ⟨.inl (.inl eb15'), fun t1 ht1 => ?_⟩⟩
    have s1 := same_new (o := .tup bvs) ht1
    have h1 : Dp K (upd H15 t1 (.tup bvs)) (.ref t1) (.tuple (bs.map Blk.D)) := dp_tupN ht1 hB
    generalize upd H15 t1 (.tup bvs) = H16 at s1 h1 ⊢
    refine ⟨_, rfl, rl, vs, 120, .ref a, rfl, rfl, .inl (.inl (s1 _ _ (off_two f1).2.2)), atI_nat (j := 120) g1, a, us, rfl, .inl ⟨.inl (.inl (s1 _ _ (off_two g3).2.2)), fun t2 ht2 => ?_⟩⟩
    have s2 := same_new (o := .tup us) ht2
    have h2 : Dp K (upd H16 t2 (.tup us)) (.ref t2) (.tuple (last.map Rw.D)) := dp_tupN ht2 (dpAll_mono (off_same.trans s1) _ _ g4)
    have s12 := s1.trans s2
    have h1 := dp_mono s2 _ _ h1
    generalize upd H16 t2 (.tup us) = H17 at s2 h2 s12 h1 ⊢
    refine ⟨(by show 2 ≤ sizeLine; decide), fun t3 ht3 => ⟨(by show 2 ≤ sizeLine; decide), fun t4 ht4 => ⟨(by show 2 ≤ sizeLine; decide), fun t5 ht5 => ⟨(by show 1 ≤ sizeLine; decide), fun t6 ht6 => ?_⟩⟩⟩⟩
    have s3 := same_new (o := .tup [.str "var", .int 2]) ht3
    have h3 : Dp K (upd H17 t3 (.tup [.str "var", .int 2])) (.ref t3) (vD 2) := dp_tupN ht3 (.cons (.str _) (.cons (.int _) .nil))
    generalize upd H17 t3 (.tup [.str "var", .int 2]) = H18 at s3 h3 ht4 ht5 ht6 ⊢
    have s4 := same_new (o := .tup [.str "return", .ref t3]) ht4
    have h4 : Dp K (upd H18 t4 (.tup [.str "return", .ref t3])) (.ref t4) (Stp.rt (some (.v 2))).D := dp_tupN ht4 (.cons (.str _) (.cons h3 .nil))
    generalize upd H18 t4 (.tup [.str "return", .ref t3]) = H19 at s4 h4 ht5 ht6 ⊢
    have s5 := same_new (o := .tup [.ref t2, .ref t4]) ht5
    have h5 : Dp K (upd H19 t5 (.tup [.ref t2, .ref t4])) (.ref t5) (Blk.D ⟨last, .rt (some (.v 2))⟩) := dp_tupN ht5 (.cons (dp_mono (s3.trans s4) _ _ h2) (.cons h4 .nil))
    generalize upd H19 t5 (.tup [.ref t2, .ref t4]) = H20 at s5 h5 ht6 ⊢
    have s6 := same_new (o := .tup [.ref t5]) ht6
    have h6 : Dp K (upd H20 t6 (.tup [.ref t5])) (.ref t6) (.tuple ([Blk.mk last (.rt (some (.v 2)))].map Blk.D)) := dp_tupN ht6 (.cons h5 .nil)
    have s26 := s3.trans (s4.trans (s5.trans s6))
    generalize upd H20 t6 (.tup [.ref t5]) = H21 at s6 h6 s26 ⊢
    refine ⟨_, _, dp_mono s26 _ _ h1, h6, by rw [List.length_map, hbl, sizeLine_eq]; show 120 + 1 ≤ _; omega, fun z7 H22 s7 h7 => ⟨(by show 2 ≤ sizeLine; decide), fun t8 ht8 => ?_⟩⟩
    have s8 := same_new (o := .tup [.int 1, z7]) ht8
    have sA := (s12.trans s26).trans (s7.trans s8)
    have h8 : Dp K (upd H22 t8 (.tup [.int 1, z7])) (.ref t8) (Gr.D ⟨1, bs ++ [⟨last, .rt (some (.v 2))⟩]⟩) := dp_tupN ht8 (.cons (.int _) (.cons (by rw [List.map_append]; exact h7) .nil))
    have hlen : (bs ++ [Blk.mk last (.rt (some (.v 2)))]).length = 121 := by
      rw [List.length_append, hbl]
      rfl
    have hrows : rowsN (bs ++ [Blk.mk last (.rt (some (.v 2)))]) ≤ 41 := by
      rw [rowsN_sum, List.map_append, hbr]
      have e : rss.take 120 ++ [last] = rss := by
        have e1 : rss.take 121 = rss.take 120 ++ [last] := by rw [List.take_add_one, hlast]; rfl
        rw [← e1, List.take_of_length_le (by omega)]
      show rsum (rss.take 120 ++ [last]) ≤ 41
      rw [e]
      exact r14
    refine q _ ⟨1, bs ++ [⟨last, .rt (some (.v 2))⟩]⟩ _ ((dk15.same sA).up (by omega)) ((off_same_mono (s04 : Same H H4)).trans (X15.trans (off_same_mono sA))) h8 ⟨by show 1 ≤ 3; decide, by show 1 ≤ 6; decide, by decide, by show 0 < (bs ++ [Blk.mk last (.rt (some (.v 2)))]).length; omega, by show (bs ++ [Blk.mk last (.rt (some (.v 2)))]).length ≤ 130; omega, Nat.le_trans hrows (by decide), fun b hb => ?_⟩ ?_
    · show BlkB 6 (bs ++ [Blk.mk last (.rt (some (.v 2)))]).length b
      rw [hlen]
      rcases List.mem_append.mp hb with z | z
      · refine ⟨fun R hR => ?_, hbs b z⟩
        have : b.rows ∈ rss := List.mem_of_mem_take (by rw [← hbr]; exact List.mem_map.mpr ⟨b, z, rfl⟩)
        exact o14 _ this R hR
      · rw [List.mem_singleton.mp z]
        refine ⟨fun R hR => o14 _ hlm R hR, fun o ho => ?_⟩
        cases ho
        show 2 < 6
        decide
    · intro z
      have : 2 ∈ Gr.vars ⟨1, bs ++ [⟨last, .rt (some (.v 2))⟩]⟩ := List.mem_flatMap.mpr ⟨⟨last, .rt (some (.v 2))⟩, List.mem_append.mpr (.inr List.mem_cons_self), List.mem_append.mpr (.inl (List.mem_cons_self))⟩
      rw [z] at this
      cases this
end
end K51

set_option maxHeartbeats 4000000
/-! P51C: the best slots are valid: plain. -/
namespace P51
open PySem HG P52
def clash (ps : List (Nat × Nat)) (ks : List Nat) (a b : Nat) : Prop := (a, b) ∈ ps ∨ (b, a) ∈ ps ∨ (a ∈ ks ∧ b ∈ ks)
theorem clash_symm {ps : List (Nat × Nat)} {ks : List Nat} {a b : Nat} (h : clash ps ks a b) : clash ps ks b a := by
  rcases h with h | h | h
  · exact .inr (.inl h)
  · exact .inl h
  · exact .inr (.inr ⟨h.2, h.1⟩)
def Apart (ps : List (Nat × Nat)) (ks : List Nat) (sl : List (Nat × Nat)) : Prop := ∀ a x b y, (a, x) ∈ sl → (b, y) ∈ sl → a ≠ b → clash ps ks a b → x ≠ y
theorem mem_others {ps : List (Nat × Nat)} {v b : Nat} : b ∈ others ps v ↔ (v, b) ∈ ps ∨ (b, v) ∈ ps := by
  unfold others
  rw [List.mem_append, List.mem_map, List.mem_map]
  constructor
  · rintro (⟨p, hp, rfl⟩ | ⟨p, hp, rfl⟩)
    · obtain ⟨h1, h2⟩ := List.mem_filter.mp hp
      have := of_decide_eq_true h2
      exact .inl (by rw [← this]; exact h1)
    · obtain ⟨h1, h2⟩ := List.mem_filter.mp hp
      have := of_decide_eq_true h2
      exact .inr (by rw [← this]; exact h1)
  · rintro (h | h)
    · exact .inl ⟨_, List.mem_filter.mpr ⟨h, decide_eq_true rfl⟩, rfl⟩
    · exact .inr ⟨_, List.mem_filter.mpr ⟨h, decide_eq_true rfl⟩, rfl⟩
theorem taken_of {ps : List (Nat × Nat)} {ks : List Nat} {v b y : Nat} {sl : List (Nat × Nat)} (hn : (sl.map (·.1)).Nodup) (hb : (b, y) ∈ sl) (hc : clash ps ks v b) : y ∈ takenP ps ks v sl := by
  rw [taken_same hn]
  unfold takenL
  refine List.mem_map.mpr ⟨(b, y), List.mem_filter.mpr ⟨hb, ?_⟩, rfl⟩
  show (decide (b ∈ others ps v) || (decide (v ∈ ks) && decide (b ∈ ks))) = true
  rcases hc with h | h | h
  · rw [decide_eq_true (mem_others.mpr (.inl h))]; rfl
  · rw [decide_eq_true (mem_others.mpr (.inr h))]; rfl
  · rw [decide_eq_true h.1, decide_eq_true h.2]; simp
theorem apart_step {ps : List (Nat × Nat)} {ks : List Nat} {sl : List (Nat × Nat)} {v : Nat} (hn : (sl.map (·.1)).Nodup) (h : Apart ps ks sl) : Apart ps ks (step ps ks sl v) := by
  intro a x b y ha hb hne hc
  have hm := (mex_first (takenP ps ks v sl)).2.1
  rcases List.mem_append.mp ha with ha1 | ha1
  · rcases List.mem_append.mp hb with hb1 | hb1
    · exact h a x b y ha1 hb1 hne hc
    · have e := List.mem_singleton.mp hb1
      injection e with e1 e2
      intro z
      rw [z, e2] at ha1
      rw [e1] at hc
      exact hm (taken_of hn ha1 (clash_symm hc))
  · have e := List.mem_singleton.mp ha1
    injection e with e1 e2
    rcases List.mem_append.mp hb with hb1 | hb1
    · intro z
      rw [← z, e2] at hb1
      rw [e1] at hc
      exact hm (taken_of hn hb1 hc)
    · have e' := List.mem_singleton.mp hb1
      injection e' with e3 e4
      exact absurd (e1.trans e3.symm) hne
theorem nodup_on {f : Nat → Int} : ∀ {l : List Nat}, (∀ a ∈ l, ∀ b ∈ l, f a = f b → a = b) → l.Nodup → (l.map f).Nodup
  | [], _, _ => .nil
  | x :: l, h, hn => by
    have hn := List.nodup_cons.mp hn
    rw [List.map_cons, List.nodup_cons]
    refine ⟨fun hm => ?_, nodup_on (fun a ha b hb => h a (List.mem_cons_of_mem _ ha) b (List.mem_cons_of_mem _ hb)) hn.2⟩
    obtain ⟨y, hy, e⟩ := List.mem_map.mp hm
    have := h y (List.mem_cons_of_mem _ hy) x List.mem_cons_self e
    rw [this] at hy
    exact hn.1 hy
theorem apart_fold {ps : List (Nat × Nat)} {ks : List Nat} : ∀ (ns : List Nat) (sl : List (Nat × Nat)), (sl.map (·.1) ++ ns).Nodup → Apart ps ks sl → Apart ps ks (ns.foldl (step ps ks) sl)
  | [], _, _, h => h
  | v :: ns, sl, hn, h => by
    rw [List.foldl_cons]
    refine apart_fold ns _ ?_ (apart_step ?_ h)
    · unfold step
      rw [List.map_append, List.append_assoc]
      exact hn
    · rw [List.nodup_append] at hn
      exact hn.1
theorem best_apart {ps : List (Nat × Nat)} {ks ns : List Nat} (hn : ns.Nodup) : Apart ps ks (best ps ks ns) := apart_fold ns [] (by simpa using hn) fun _ _ _ _ h => nomatch h
theorem best_look {ps : List (Nat × Nat)} {ks ns : List Nat} (hn : ns.Nodup) (v : Nat) : (v ∈ ns → ∃ x, look (best ps ks ns) v = some x ∧ (v, x) ∈ best ps ks ns) ∧ (v ∉ ns → look (best ps ks ns) v = none) := by
  have hk : (best ps ks ns).map (·.1) = ns := by
    have := best_keys ps ks ns []
    unfold best
    rw [this]
    rfl
  have hnd : ((best ps ks ns).map (·.1)).Nodup := by rw [hk]; exact hn
  constructor
  · intro h
    rw [← hk] at h
    obtain ⟨⟨a, x⟩, hm, rfl⟩ := List.mem_map.mp h
    exact ⟨x, (look_mem hnd).mpr hm, hm⟩
  · intro h
    cases hl : look (best ps ks ns) v with
    | none => rfl
    | some x =>
      refine absurd ?_ h
      rw [← hk]
      exact List.mem_map.mpr ⟨(v, x), (look_mem hnd).mp hl, rfl⟩
theorem prsB_ne : ∀ (r : List Rw) (u : List Nat), ∀ p ∈ prsB r u, p.1 ≠ p.2
  | [], _, _, h => nomatch h
  | R :: r, u, p, h => by
    rcases List.mem_append.mp h with h | h
    · unfold prs at h
      cases hs : R.set with
      | none => rw [hs] at h; cases h
      | some v =>
        rw [hs] at h
        obtain ⟨x, hx, rfl⟩ := List.mem_map.mp h
        have h2 := (List.mem_filter.mp hx).2
        intro z
        have z : v = x := z
        subst z
        rw [decide_eq_true (show v ∈ frees R v from List.mem_cons_self)] at h2
        cases h2
    · exact prsB_ne r (bef R u) p h
theorem apart_ne {g : Gr} {cl : List (List Nat)} : ∀ p ∈ apartG g cl, p.1 ≠ p.2 := fun p hp => by
  obtain ⟨b, _, hp⟩ := List.mem_flatMap.mp hp
  exact prsB_ne _ _ p hp
def bestS (g : Gr) (ks : List Nat) (ps : List (Nat × Nat)) : List PyData := (List.range (cnt g)).map fun i => ovD (look (best ps ks (nd ks (occ g))) i)
theorem bestS_at {g : Gr} {ks : List Nat} {ps : List (Nat × Nat)} {i : Nat} (h : i < cnt g) : (bestS g ks ps).getD i .none = ovD (look (best ps ks (nd ks (occ g))) i) := by
  unfold bestS
  rw [List.getD_eq_getElem?_getD, List.getElem?_map, List.getElem?_range h]
  rfl
theorem best_valid {g : Gr} {ks : List Nat} {cl : List (List Nat)} (hk : ks.Nodup) (hkc : ∀ k ∈ ks, k < g.count) (hlo : Lo g.vars) (B : Bw g cl) : valid g ks (apartG g cl) (.tuple (bestS g ks (apartG g cl))) = true := by
  have hn : (nd ks (occ g)).Nodup := nd_nodup hk (pw_nodup (pw_srt _))
  have hlen : (bestS g ks (apartG g cl)).length = cnt g := by unfold bestS; rw [List.length_map, List.length_range]
  have at1 : ∀ v, v < cnt g → v ∈ nd ks (occ g) → ∃ x : Nat, (v, x) ∈ best (apartG g cl) ks (nd ks (occ g)) ∧ sI (bestS g ks (apartG g cl)) v = (x : Int) := fun v hv hm => by
    obtain ⟨x, h1, h2⟩ := (best_look (ps := apartG g cl) (ks := ks) hn v).1 hm
    refine ⟨x, h2, ?_⟩
    unfold sI
    rw [bestS_at hv, h1]
    rfl
  have kc : ∀ k ∈ ks, k < cnt g := fun k h => Nat.lt_of_lt_of_le (hkc k h) (cnt_count g)
  have a1 : allS ks (occ g) (bestS g ks (apartG g cl)) = true := by
    unfold allS
    rw [List.all_eq_true]
    intro i hi
    have hi : i < cnt g := by rw [← hlen]; exact List.mem_range.mp hi
    rw [bestS_at hi]
    have hl := best_look (ps := apartG g cl) (ks := ks) hn i
    unfold okS
    cases hne : need ks (occ g) i with
    | true =>
      have hm : i ∈ nd ks (occ g) := mem_nd.mpr (by
        unfold need at hne
        rw [Bool.or_eq_true, decide_eq_true_eq, decide_eq_true_eq] at hne
        exact hne)
      obtain ⟨x, h1, _⟩ := hl.1 hm
      rw [h1, if_pos rfl]
      show decide ((0 : Int) ≤ (x : Int)) = true
      exact decide_eq_true (by omega)
    | false =>
      have hm : i ∉ nd ks (occ g) := fun h => by
        have h := mem_nd.mp h
        unfold need at hne
        rcases h with h | h
        · rw [decide_eq_true h] at hne; cases hne
        · rw [decide_eq_true h, Bool.or_true] at hne; cases hne
      rw [hl.2 hm, if_neg Bool.false_ne_true]
      rfl
  have a2 : ownS ks (bestS g ks (apartG g cl)) = true := by
    refine decide_eq_true ?_
    refine nodup_on (fun a ha b hb e => ?_) hk
    obtain ⟨x, hx, ex⟩ := at1 a (kc a ha) (mem_nd.mpr (.inl ha))
    obtain ⟨y, hy, ey⟩ := at1 b (kc b hb) (mem_nd.mpr (.inl hb))
    refine Classical.byContradiction fun hne => ?_
    refine best_apart hn a x b y hx hy hne (.inr (.inr ⟨ha, hb⟩)) ?_
    rw [ex, ey] at e
    omega
  have a3 : prsS (apartG g cl) (bestS g ks (apartG g cl)) = true := by
    unfold prsS
    rw [List.all_eq_true]
    intro p hp
    obtain ⟨v1, v2⟩ := apart_vs B p hp
    have o1 : p.1 ∈ occ g := (mem_srt hlo).mpr v1
    have o2 : p.2 ∈ occ g := (mem_srt hlo).mpr v2
    obtain ⟨x, hx, ex⟩ := at1 p.1 (cnt_occ o1) (mem_nd.mpr (.inr o1))
    obtain ⟨y, hy, ey⟩ := at1 p.2 (cnt_occ o2) (mem_nd.mpr (.inr o2))
    have hne := best_apart hn p.1 x p.2 y hx hy (apart_ne p hp) (.inl hp)
    rw [ex, ey, decide_eq_false (by omega)]
    rfl
  show (decide ((bestS g ks (apartG g cl)).length = cnt g) && (allS ks (occ g) _ && (ownS ks _ && prsS _ _))) = true
  rw [decide_eq_true hlen, a1, a2, a3]
  rfl
end P51

set_option maxHeartbeats 4000000
namespace K51
open PySem PySem.Spec PyProof.Rows L2 HG P52 P51
theorem ov_lay {α : Type} (f : α → Option Nat) : ∀ l : List α, PyData.canLayAll0 (l.map fun x => ovD (f x)) = true ∧ PyData.depthAll (l.map fun x => ovD (f x)) ≤ 1
  | [] => ⟨by simp only [List.map_nil, PyData.canLayAll0], by simp only [List.map_nil, PyData.depthAll]; omega⟩
  | x :: l => by
    obtain ⟨h1, h2⟩ := ov_lay f l
    refine ⟨?_, ?_⟩
    · simp only [List.map_cons, PyData.canLayAll0, h1, Bool.and_true]
      cases f x <;> simp [ovD, PyData.canLay0]
    · have hd : PyData.depth (ovD (f x)) ≤ 1 := by cases f x <;> simp only [ovD, PyData.depth] <;> omega
      simp only [List.map_cons, PyData.depthAll]
      omega
theorem shaped_best (g : Gr) (ks : List Nat) (ps : List (Nat × Nat)) : SeqAt.shaped (.tuple (bestD g ks ps)) = true := by
  obtain ⟨h1, h2⟩ := ov_lay (fun i => look (bestL g ks ps) i) (List.range (cnt g))
  have h3 : (PyData.tuple (bestD g ks ps)).depth ≤ 64 := by
    simp only [PyData.depth]
    exact Nat.le_trans (Nat.add_le_add_right h2 1) (by decide)
  unfold SeqAt.shaped
  have h1 : PyData.canLayAll0 (bestD g ks ps) = true := h1
  simp only [PyData.canLay0, h1, Bool.true_and]
  exact decide_eq_true h3
theorem nlBest (g : Gr) (ks : List Nat) (ps : List (Nat × Nat)) : noL (.tuple (bestD g ks ps)) = true := by
  simp only [noL]
  exact noLAll_map fun i _ => by cases look (bestL g ks ps) i <;> rfl
theorem best_isB {g : Gr} {ks : List Nat} {ps : List (Nat × Nat)} {i : Nat} {D : PyData} (h : (bestD g ks ps)[i]? = some D) : isB D = false := by
  unfold bestD at h
  rw [List.getElem?_map] at h
  obtain ⟨j, _, rfl⟩ := Option.map_eq_some_iff.mp h
  cases look (bestL g ks ps) j <;> rfl
theorem eqv_self {D : PyData} (h : SeqAt.shaped D = true) : PyData.eqv D D = true := SeqAt.eqv_refl _ (SeqAt.canLay_of_shaped h)
def spRight (K : PySem.W.Frag) : Sp := fun vs H Q _ => ∃ (d c : Addr) (v u : V) (n N : Nat) (g : Gr) (ks : List Nat), vs = [.ref d, v, u] ∧ n < 2 ^ 44 ∧ Deck d c n H ∧ Dp K H v g.D ∧ GrB N g ∧ g.vars ≠ [] ∧ Dp K H u (nsD ks) ∧ ks.length ≤ 10 ∧ (∀ k ∈ ks, k < g.count) ∧ ks.Nodup ∧
  ∀ H', Deck d c (n + 100) H' → Ext d c H H' → Q (.bl true) H'
section
variable {P : Program} {w : World} {K : PySem.W.Frag} {mg : Str → Option Value} {base : Heap}
set_option pp.maxSteps 600 in
theorem c_right (T : Txt w K mg) : CalG P w K mg base "_law_right" 10 ["_law_deck_here", "_law_shape", "_law_held"] (spRight K) := by
  obtain ⟨fd, F⟩ := T.d__law_right
  have C__law_pairs := c_pairs (P := P) (w := w) (base := base) T
  have C__law_best := c_best (P := P) (w := w) (base := base) T
  have C__law_some := c_some (P := P) (w := w) (base := base) T
  have C_is_assignment := c_is_assignment (P := P) (w := w) (base := base) T
  have C_best_slots := c_best_slots (P := P) (w := w) (base := base) T
  have C__law_is_valid := c_is_valid (P := P) (w := w) (base := base) T
  have C_best_slots_graph_kept := c_best_slots_graph_kept (P := P) (w := w) (base := base) T
  refine ⟨⟨fd, fng_of (k := 9) F sc__law_right (fun vs H Q E h => by repeat (first | (obtain ⟨e, _⟩ := h; subst e; rfl) | (obtain ⟨_, h⟩ := h))) (fun cdv A outer s H vs Q E hr hgd h => ?_), F.bindsN fun _ _ _ _ _ _ us hl => match us, hl with | [_, _, _], _ => rfl⟩, T.g _ (by decide), F.kp⟩
  obtain ⟨d, c, v, u, n, N, g, ks, rfl, hn, dk, hv, hg, hne, hu0, hkl, hkc, hkn, q⟩ := h
  have hu := hu_of hr
  refine ⟨_, PSs.nox (pss_cons (ps_par (i := 3) (j := 4) rfl sc__law_right.nd rfl rfl (by decide) rfl rfl (pa_cons (pe_cal C__law_pairs (hr.mono (by omega)) (by rfl) (pa_cons (pv 1) pa_nil)) (pa_cons (pe_callB (id := "repr") (call_reprK (K := K) rfl hgd (hr.mono (Nat.zero_le _))) (by rfl) T.n_repr (by decide +kernel) (pa_cons (pv 1) pa_nil)) pa_nil)) (by rfl))
      (pss_cons (ps_set (i := 5) sc__law_right.nd rfl (.inl rfl) (pe_cal C__law_best (hr.mono (by omega)) (by rfl) (pa_cons (pv 1) (pa_cons (pv 2) (pa_cons (pv 3) pa_nil)))))
      (pss_cons (ps_set (i := 6) sc__law_right.nd rfl (.inl rfl) (pe_calK C_best_slots_graph_kept (hr.mono (by omega)) (by rfl) (pk_cons (pv 1) (pk_cons (pv 2) pk_nil))))
      (pss_cons (ps_if (PW.pt (pw_or (pt_not (pt_val (pe_callB (isiK (K := K) rfl) (by rfl) T.n_isinstance (by decide +kernel) (pa_cons (pv 6) (pa_cons (pe_bltn (v := .ty "tuple") (u := .type "tuple") (by rfl) T.n_tuple (by decide +kernel) rfl) pa_nil))))) (pw_or (pt_cmpR (op_neDK (K := K) rfl hr.units) (pv 6) (pv 5) (nomark _)) (pw_or1 (pt_cmpR (op_neDK (K := K) rfl hr.units) (pe_lc (own := [("_law_one", 9)]) (by rfl) sc__law_right.nd (pi_tup (pv 6)) (blkOk_by (own := [("_law_one", 9)]) (N := N__law_right) (sc := defScope s__law_right) (by decide +kernel)) (fun _ _ _ _ _ => (pg_name (i := 9) sc__law_right.nd rfl (.inl rfl))) (fun _ _ _ _ _ => pts_one (pt_val (pe_callB (isiK (K := K) rfl) (by rfl) T.n_isinstance (by decide +kernel) (pa_cons (pv 9) (pa_cons (pe_bltn (v := .ty "bool") (u := .type "bool") (by rfl) T.n_bool (by decide +kernel) rfl) pa_nil))))) (fun _ _ _ _ _ => (pv 9))) (pe_lst pa_nil) (nomark _)))))) (pss_one (ps_ret pe_bl)) pss_nil)
      (pss_cons (ps_if (PW.pt (pw_or (pt_cmpR op_isnot_bl (pe_cal C_is_assignment (hr.mono (by omega)) (by rfl) (pa_cons (pv 1) (pa_cons (pv 2) (pa_cons (pv 6) pa_nil)))) pe_bl (nomark _)) (pw_or1 (pt_cmpR (op_neDK (K := K) rfl hr.units) (pe_cal C_best_slots (hr.mono (by omega)) (by rfl) (pa_cons (pv 1) (pa_cons (pv 2) pa_nil))) (pv 5) (nomark _))))) (pss_one (ps_ret pe_bl)) pss_nil)
      (pss_cons (ps_for PassesOwn.never rfl (pi_list (pe_cal C__law_some (hr.mono (by omega)) (by rfl) (pa_cons (pv 0) (pa_cons (pv 1) (pa_cons (pv 2) (pa_cons (pv 3) pa_nil)))))) (pg_name (i := 7) sc__law_right.nd rfl (.inl rfl)) (pss_cons (ps_set (i := 8) sc__law_right.nd rfl (.inl rfl) (pe_cal C_is_assignment (hr.mono (by omega)) (by rfl) (pa_cons (pv 1) (pa_cons (pv 2) (pa_cons (pv 7) pa_nil)))))
      (pss_one (ps_if (PW.pt (pw_or (pt_not (pt_val (pe_callB (isiK (K := K) rfl) (by rfl) T.n_isinstance (by decide +kernel) (pa_cons (pv 8) (pa_cons (pe_bltn (v := .ty "bool") (u := .type "bool") (by rfl) T.n_bool (by decide +kernel) rfl) pa_nil))))) (pw_or1 (pt_cmpR op_ne (pv 8) (pe_cal C__law_is_valid (hr.mono (by omega)) (by rfl) (pa_cons (pv 1) (pa_cons (pv 2) (pa_cons (pv 3) (pa_cons (pv 7) pa_nil))))) (nomark _))))) (pss_one (ps_ret pe_bl)) pss_nil))))
      (pss_one (ps_ret (pe_and (pe_cmpR op_eq (pe_callB (id := "repr") (call_reprK (K := K) rfl hgd (hr.mono (Nat.zero_le _))) (by rfl) T.n_repr (by decide +kernel) (pa_cons (pv 1) pa_nil)) (pv 4) (nomark _)) (pe_one (pe_cmpR op_isTF (pe_cal C_is_assignment (hr.mono (by omega)) (by rfl) (pa_cons (pv 1) (pa_cons (pv 2) (pa_cons (pv 6) pa_nil)))) pe_bl (nomark _)))))))))))), ?_⟩
  have fS := fnGB hg
  have sh := P54.shown_len (by decide) fS.sm
  have shl : g.D.shown.length ≤ sizeLine := by
    have h1 := sh.2
    have h2 := fS.wt
    rw [sizeLine_eq]
    omega
  have shd : g.D.depth ≤ 150 := by
    have := fS.dp
    omega
  refine ⟨_, rfl, v, N, g, rfl, hv, hg, fun p H1 cl xs hp s1 hfx hbw e1 hd1 => ?_⟩
  have hv1 := dp_mono s1 _ _ hv
  have hu1 := dp_mono s1 _ _ hu0
  refine ⟨_, rfl, _, _, rfl, hv1, sh.1, shd, shl, _, _, rfl, ?_⟩
  have hb := best_valid (cl := cl) hkn hkc (lo_vars hg) hbw
  refine ⟨_, rfl, _, rfl, _, rfl, v, u, p, N, g, ks, cl, xs, rfl, hv1, hg, hu1, hkl, hkn, e1, hd1, fun z2 H2 s2 h2 => ?_⟩
  have s02 := s1.trans s2
  refine ⟨_, rfl, _, rfl, rfl, v, u, N, g, ks, rfl, dp_mono s02 _ _ hv, hg, dp_mono s02 _ _ hu0, hkl, hkn, fun z3 H3 cl3 s3 hfx3 hbw3 h3 => ?_⟩
  have ecl := fx_one hfx3 hfx hbw3 hbw
  subst ecl
  have s03 := s02.trans s3
  have h23 := dp_mono s3 _ _ h2
  have hsp := shaped_best g ks (apartG g cl3)
  refine ⟨_, rfl, z3, .ty "tuple", _, _, _, rfl, .ty _, dp_ty h3, kit_ty (kit_tuple _), _, rfl, iteF ⟨_, rfl, _, rfl, _, _, h3, h23, hsp, hsp, _, rfl, ?_⟩⟩
  rw [eqv_self hsp]
  obtain ⟨a3, x3, rfl, sq3, ha3⟩ := dp_seq h3
  refine iteF ⟨_, rfl, a3, rfl, ⟨_, sq3⟩, fun D4 hD4 => ?_⟩
  refine lc_tup (xs := x3) (fun i H4 => H4 D4 = some (.lst []) ∧ Same H3 H4) ⟨upd_same, same_new hD4⟩ ?_ ?_ ?_
  · rintro i H4 _ ⟨_, s4⟩
    exact sqT_same s4 sq3
  · rintro i x H4 hi ⟨h4, s4⟩
    obtain ⟨D, hD, hx⟩ := dpAll_get ha3 hi
    have hx := dp_mono s4 _ _ hx
    refine ⟨rfl, _, rfl, x, .ty "bool", _, _, _, rfl, .ty _, dp_ty hx, kit_ty (kit_bool _), _, rfl, ?_⟩
    rw [best_isB hD]
    exact iteF ⟨h4, s4⟩
  rintro H4 ⟨h4, s4⟩
  refine ⟨Nat.zero_le _, fun l5 hl5 => ⟨.list [], .list [], .lst (.inl (.inl (upd_get hl5 h4))) .nil, .lst (.inl (.inl upd_same)) .nil, (by decide), (by decide), _, rfl, iteF ?_⟩⟩
  have s5 := s03.trans (s4.trans (same_new (o := .lst []) hl5))
  have t5 := s4.trans (same_new (o := .lst []) hl5)
  generalize upd H4 l5 (.lst []) = H5 at s5 t5 ⊢
  have h35 : Dp K H5 (.ref a3) (.tuple (bestD g ks (apartG g cl3))) := dp_mono t5 _ _ (.tup sq3 ha3)
  refine ⟨_, rfl, _, rfl, _, rfl, v, u, _, N, g, ks, cl3, _, rfl, dp_mono s5 _ _ hv, hg, dp_mono s5 _ _ hu0, hkl, hkc, h35, hfx, hbw, fun H6 s6 => ⟨_, _, rfl, rfl, _, rfl, ?_⟩⟩
  rw [show valid g ks (apartG g cl3) (.tuple (bestD g ks (apartG g cl3))) = true from hb]
  have s06 := s5.trans s6
  refine iteF ⟨_, rfl, _, rfl, v, u, N, g, ks, rfl, dp_mono s06 _ _ hv, hg, dp_mono s06 _ _ hu0, hkl, hkn, fun z7 H7 cl7 s7 hfx7 hbw7 h7 => ?_⟩
  have ecl := fx_one hfx7 hfx hbw7 hbw
  subst ecl
  have s37 := t5.trans (s6.trans s7)
  refine ⟨_, rfl, _, _, h7, dp_mono s37 _ _ h23, hsp, hsp, _, rfl, ?_⟩
  rw [eqv_self hsp]
  have s07 := s06.trans s7
  have np := dk.has hp
  have e17 := (s2.trans (s3.trans s37)) _ _ e1
  have hd7 := dpAll_mono (s2.trans (s3.trans s37)) _ _ hd1
  have dk7 := dk.same s07
  have h37 := dp_mono s37 _ _ (Dp.tup sq3 ha3)
  refine iteF ⟨_, rfl, _, rfl, _, rfl, _, rfl, d, c, v, u, p, n, N, g, ks, cl7, xs, rfl, hn, dk7, dp_mono s07 _ _ hv, hg, hne, dp_mono s07 _ _ hu0, hkl, hkc, hbw, by rw [off_get np.1 np.2]; exact e17, hd7, fun a8 ys ds H8 dk8 X8 e8 hd8 hl8 => ?_⟩
  have X08 : Ext d c H H8 := (off_mono s07).trans X8
  have k8 := ext_kt dk7 X8
  have hv8 := dp_kt (ext_kt dk X08) _ _ (nlG g) hv
  have hu8 := dp_kt (ext_kt dk X08) _ _ (nlNs ks) hu0
  have e18 := X8.at np.1 np.2 e17
  have hd18 := dpAll_kt k8 _ _ (nlP _) hd7
  have h38 := dp_kt k8 _ _ (nlBest _ _ _) h37
  refine ⟨a8, rfl, ⟨_, .inl (.inl e8)⟩, ?_⟩
  refine for_list (xs := ys) (fun i σ H9 => ∃ x7 x8, σ = [some (.ref d), some v, some u, some (.ref p), some (.str g.D.shown), some z2, some (.ref a3), x7, x8, none] ∧ Same H8 H9) ⟨_, _, rfl, Same.refl _⟩ ?_ ?_ ?_
  · rintro i σ H9 _ ⟨_, _, rfl, s9⟩
    exact .inl (.inl (s9 _ _ e8))
  · rintro i x σ H9 hi ⟨x7, x8, rfl, s9⟩
    obtain ⟨D, _, hx⟩ := dpAll_get hd8 hi
    have hx := dp_mono s9 _ _ hx
    refine ⟨_, rfl, _, rfl, _, rfl, v, u, x, N, g, ks, cl7, D, rfl, dp_mono s9 _ _ hv8, hg, dp_mono s9 _ _ hu8, hkl, hkc, hx, hfx, hbw, fun H10 s10 => ?_⟩
    have s90 := s9.trans s10
    refine ⟨_, rfl, _, .ty "bool", _, _, _, rfl, .ty _, dp_ty (K := K) (H := H10) (Dp.bl _), kit_ty (kit_bool (.bool _)), _, rfl, iteF ?_⟩
    refine ⟨_, rfl, _, rfl, _, rfl, _, rfl, _, rfl, v, u, x, p, N, g, ks, cl7, xs, D, rfl, dp_mono s90 _ _ hv8, hg, dp_mono s90 _ _ hu8, hkl, hkc, .inl (.inl (s90 _ _ e18)), dpAll_mono s90 _ _ hd18, dp_mono s10 _ _ hx, hbw, fun H11 s11 => ⟨rfl, _, rfl, ?_⟩⟩
    rw [decide_eq_true rfl]
    exact iteF ⟨_, _, rfl, s90.trans s11⟩
  · rintro σ H9 ⟨x7, x8, rfl, s9⟩
    have hv9 := dp_mono s9 _ _ hv8
    refine ⟨_, rfl, _, _, rfl, hv9, sh.1, shd, shl, _, rfl, rfl, _, rfl, ?_⟩
    rw [decide_eq_true rfl]
    refine iteT ⟨_, rfl, _, rfl, _, rfl, v, u, _, N, g, ks, cl7, _, rfl, hv9, hg, dp_mono s9 _ _ hu8, hkl, hkc, dp_mono s9 _ _ h38, hfx, hbw, fun H10 s10 => ⟨true, rfl, ?_⟩⟩
    rw [show valid g ks (apartG g cl7) (.tuple (bestD g ks (apartG g cl7))) = true from hb, decide_eq_true rfl]
    exact q H10 (dk8.same (s9.trans s10)) (X08.trans (off_mono (s9.trans s10)))
end
end K51

set_option maxHeartbeats 4000000
namespace K51
open PySem PySem.Spec PyProof.Rows L2 HG P52 P51
def spLaw (K : PySem.W.Frag) : Sp := fun vs H Q _ => ∃ (a : Addr) (ns : List Int), vs = [.ref a] ∧ SqL K H a (ns.map V.int) ∧ ns.length ≤ 63 ∧ ∀ H', Q (.bl true) H'
section
variable {P : Program} {w : World} {K : PySem.W.Frag} {mg : Str → Option Value} {base : Heap}
set_option pp.maxSteps 600 in
theorem ok_law (T : Txt w K mg) {fd : FuncData} (F : FunD K "law" "law" (defArgs s_law) (defBody s_law) (defScope s_law) [] [] (He.ga K "law") fd) : FnG P w K mg base CX0 12 (He.ga K "law") fd ["_law_script"] (spLaw K) := by
  have C__law_deck := c_deck (P := P) (base := base) T
  have C__law_draw := c_draw (P := P) (base := base) T
  have C__law_world := c_world (P := P) (base := base) T
  have C__law_graph := c_graph (P := P) (base := base) T
  have C__law_long := c_long (P := P) (base := base) T
  have C__law_right := c_right (P := P) (base := base) T
  refine fng_of (k := 11) F sc_law (fun vs H Q E h => ?_) (fun cdv A outer s H vs Q E hr hgd h => ?_)
  · obtain ⟨a, ns, rfl, _⟩ := h
    rfl
  obtain ⟨a, ns, rfl, hS, hn, q⟩ := h
  refine ⟨_, PSs.nox (pss_cons (ps_set (i := 1) sc_law.nd rfl (.inr rfl) (pe_cal C__law_deck (hr.mono (by omega)) (by rfl) (pa_cons (pv 0) pa_nil)))
      (pss_cons (ps_for PassesOwn.never rfl (pi_range1 (by rfl) T.n_range (pa_cons pe_int pa_nil)) (pg_name (i := 2) sc_law.nd rfl (.inr rfl)) (pss_cons (ps_set (i := 3) sc_law.nd rfl (.inl rfl) (pe_cal C__law_world (hr.mono (by omega)) (by rfl) (pa_cons (pv 1) pa_nil)))
      (pss_cons (ps_set (i := 4) sc_law.nd rfl (.inl rfl) (pe_ifExp (pt_cmpR op_lt (pv 2) pe_int (nomark _)) (pe_cal C__law_graph (hr.mono (by omega)) (by rfl) (pa_cons (pv 1) (pa_cons (pv 3) (pa_cons (pe_ix (ix_listK (K := K) rfl) (pe_lst (pa_cons pe_int (pa_cons pe_int pa_nil))) (pe_op op_mod (pv 2) pe_int) (fun _ _ => rfl)) pa_nil)))) (pe_cal C__law_long (hr.mono (by omega)) (by rfl) (pa_cons (pv 1) (pa_cons (pv 3) pa_nil)))))
      (pss_cons (ps_set (i := 5) sc_law.nd rfl (.inl rfl) (pe_callTy call_tuple_of (by rfl) T.n_tuple (by decide +kernel) (pa_cons (pe_lc (own := [("_law_k", 6)]) (by rfl) sc_law.nd (pi_range1 (by rfl) T.n_range (pa_cons (pe_ix (ix_P (K := K) rfl) (pv 4) pe_int (fun _ _ => rfl)) pa_nil)) (blkOk_by (own := [("_law_k", 6)]) (N := N_law) (sc := defScope s_law) (by decide +kernel)) (fun _ _ _ _ _ => (pg_name (i := 6) sc_law.nd rfl (.inl rfl))) (fun _ _ _ _ _ => pts_one (PW.pt (pw_or (pt_cmpR op_eq (pv 2) pe_int (nomark _)) (pw_or1 (pt_cmpR op_gt (pe_cal C__law_draw (hr.mono (by omega)) (by rfl) (pa_cons (pv 1) (pa_cons pe_int pa_nil))) pe_int (nomark _)))))) (fun _ _ _ _ _ => (pv 6))) pa_nil)))
      (pss_one (ps_if (pt_not (pt_val (pe_calG C__law_right (hr.mono (by omega)) hgd (by rfl) (pa_cons (pv 1) (pa_cons (pv 4) (pa_cons (pv 5) pa_nil)))))) (pss_one (ps_ret pe_bl)) pss_nil))))))
      (pss_one (ps_ret pe_bl)))), ?_⟩
  refine ⟨.ref a, rfl, a, ns, rfl, hS, hn, fun d c H1 s1 dk1 => ?_⟩
  refine ⟨5, rfl, by decide, by decide, for_range (lo := 0) (n := (5 : Int).toNat) (fun j σ H2 => ∃ x2 x3 x4 x5, σ = [some (.ref a), some (.ref d), x2, x3, x4, x5, none] ∧ Deck d c (5000 * j) H2) ⟨_, _, _, _, rfl, dk1⟩ ?_ (fun σ H2 _ => q H2)⟩
  rintro j σ H2 hj ⟨x2, x3, x4, x5, rfl, dk2⟩
  have hj : j < 5 := hj
  refine ⟨.ref d, rfl, d, c, _, rfl, by omega, dk2, fun wd H3 dk3 X3 hwd => ?_⟩
  -- the shape
  have shape : ∀ (Qc : VK), (∀ (v : V) (g : Gr) (N : Nat) (H4 : Hp), Deck d c (5000 * j + 4030) H4 → Ext d c H3 H4 → Dp K H4 v g.D → GrB N g → g.vars ≠ [] → Qc v H4) →
      tIf (tTest (tOp (rI0 fun i j => V.bl (decide (i < j))) (tVar 2) (tC (V.int 4)))) (tCall (spGraph K) [] E0 (tCons (tVar 1) (tCons (tVar 3) (tCons (tOp (rIxL K) (tLst (tCons (tC (V.int 5)) (tCons (tC (V.int 3)) tNil))) (tOp (rI (fun x j => 0 < j) fun i j => V.int (i % j)) (tVar 2) (tC (V.int 2)))) tNil)))) (tCall (spLong K) [] E0 (tCons (tVar 1) (tCons (tVar 3) tNil))) [some (.ref a), some (.ref d), some (.int (0 + (j : Int))), some (.ref wd), x4, x5, none] H3 Qc := by
    intro Qc hq
    refine ⟨_, rfl, _, _, rfl, rfl, _, rfl, ?_⟩
    by_cases h4 : j < 4
    · rw [decide_eq_true (show (0 : Int) + (j : Int) < 4 by omega)]
      refine iteT ⟨_, rfl, _, rfl, (by show 2 ≤ sizeLine; decide), fun l hl => ?_⟩
      have s4 := same_new (o := .lst [.int 5, .int 3]) hl
      have e4 : (upd H3 l (.lst [.int 5, .int 3])) l = some (.lst [.int 5, .int 3]) := upd_same
      have dk4 := dk3.same s4
      have X4 : Ext d c H3 (upd H3 l (.lst [.int 5, .int 3])) := off_same_mono s4
      generalize upd H3 l (.lst [.int 5, .int 3]) = H4 at s4 e4 dk4 X4 ⊢
      have em : ∃ mo : Nat, 0 < mo ∧ mo ≤ 9 ∧ atI [V.int 5, V.int 3] ((0 + (j : Int)) % 2) = some (.int (mo : Int)) := by
        rw [show (0 + (j : Int)) % 2 = ((j % 2 : Nat) : Int) by omega]
        rcases Nat.mod_two_eq_zero_or_one j with h | h
        · exact ⟨5, by decide, by decide, atI_nat (by rw [h]; rfl)⟩
        · exact ⟨3, by decide, by decide, atI_nat (by rw [h]; rfl)⟩
      obtain ⟨mo, m0, m9, hmo⟩ := em
      exact ⟨_, rfl, _, _, rfl, rfl, (by decide : (0 : Int) < 2), l, _, _, _, rfl, rfl, .inl (.inl e4), hmo, d, c, wd, _, mo, rfl, m0, m9, by omega, dk4, hwd.mono X4, fun v g N H5 dk5 X5 hg ok hne => hq v g N H5 (dk5.up (by omega)) (X4.trans X5) hg ok.b hne⟩
    · rw [decide_eq_false (show ¬ ((0 : Int) + (j : Int) < 4) by omega)]
      exact iteF ⟨_, rfl, _, rfl, d, c, wd, _, rfl, by omega, dk3, hwd, fun v g H5 dk5 X5 hg ok hne => hq v g 6 H5 (dk5.up (by omega)) X5 hg ok hne⟩
  refine shape _ fun vg g N H5 dk5 X5 hg ok hne => ?_
  have X25 := X3.trans X5
  clear hwd dk3 shape
  have hcnt := ok.count
  -- held
  refine ⟨vg, rfl, _, 0, _, hg, rfl, rfl, fun z hz => ?_⟩
  cases hz
  refine ⟨_, rfl, by omega, by omega, fun D hD => ?_⟩
  have neD := dk5.has hD
  refine lc_range (lo := 0) (n := ((g.count : Nat) : Int).toNat) (fun i H6 => ∃ hs : List Nat, H6 D = some (.lst (hs.map nV)) ∧ (∀ x ∈ hs, x < i) ∧ hs.length ≤ i ∧ hs.Nodup ∧ Deck d c (5000 * j + 4050 + i) H6 ∧ Ext d c H5 H6) ⟨[], upd_same, (fun _ h => nomatch h), Nat.le_refl _, .nil, (dk5.new hD).up (by omega), Ext.new hD⟩ ?_ ?_
  · rintro i H6 hi ⟨hs, h6, hlt, hlen, hnd, dk6, X6⟩
    have hi : i < 3 := by omega
    have no : ∀ (H7 : Hp), Deck d c (5000 * j + 4050 + i + 1) H7 → Ext d c H6 H7 → ∃ hs : List Nat, H7 D = some (.lst (hs.map nV)) ∧ (∀ x ∈ hs, x < i + 1) ∧ hs.length ≤ i + 1 ∧ hs.Nodup ∧ Deck d c (5000 * j + 4050 + (i + 1)) H7 ∧ Ext d c H5 H7 := fun H7 dk7 X7 =>
      ⟨hs, X7.at neD.1 neD.2 h6, fun x hx => Nat.lt_succ_of_lt (hlt x hx), Nat.le_succ_of_le hlen, hnd, dk7, X6.trans X7⟩
    have yes : ∀ (H7 : Hp), Deck d c (5000 * j + 4050 + i + 1) H7 → Ext d c H6 H7 → H7 D = some (.lst (hs.map nV)) ∧ (hs.map nV).length < sizeLine ∧ ∃ hs' : List Nat, (upd H7 D (.lst (hs.map nV ++ [V.int (0 + (i : Int))]))) D = some (.lst (hs'.map nV)) ∧ (∀ x ∈ hs', x < i + 1) ∧ hs'.length ≤ i + 1 ∧ hs'.Nodup ∧ Deck d c (5000 * j + 4050 + (i + 1)) (upd H7 D (.lst (hs.map nV ++ [V.int (0 + (i : Int))]))) ∧ Ext d c H5 (upd H7 D (.lst (hs.map nV ++ [V.int (0 + (i : Int))]))) := fun H7 dk7 X7 => by
      refine ⟨X7.at neD.1 neD.2 h6, small_line (by rw [List.length_map]; omega), hs ++ [i], ?_, fun x hx => ?_, by rw [List.length_append, List.length_singleton]; omega, ?_, dk7.upd neD.1 neD.2, (X6.trans X7).mut hD⟩
      · rw [upd_same, List.map_append, Int.zero_add]
        rfl
      · rcases List.mem_append.mp hx with y | y
        · exact Nat.lt_succ_of_lt (hlt x y)
        · rw [List.mem_singleton.mp y]
          exact Nat.lt_succ_self _
      · rw [List.nodup_append]
        refine ⟨hnd, List.nodup_cons.mpr ⟨List.not_mem_nil, .nil⟩, fun x hx y hy e => ?_⟩
        rw [List.mem_singleton.mp hy] at e
        have := hlt x hx
        omega
    refine ⟨rfl, _, rfl, rfl, _, rfl, ?_⟩
    by_cases h3 : decide (V.int (0 + (j : Int)) = V.int 3) = true
    · rw [h3]
      obtain ⟨y1, y2, y3⟩ := yes H6 (dk6.up (Nat.le_succ _)) (Ext.refl _)
      exact iteT (iteT ⟨_, rfl, _, y1, y2, y3⟩)
    · rw [eq_false_of_ne_true h3]
      refine iteF ⟨.ref d, rfl, d, c, _, 3, rfl, by decide, by decide, by omega, dk6, fun r H7 r0 r1 dk7 X7 => ⟨_, _, rfl, rfl, _, rfl, ?_⟩⟩
      cases hb : decide ((0 : Int) < r) with
      | false => exact iteF (no H7 dk7 X7)
      | true =>
        obtain ⟨y1, y2, y3⟩ := yes H7 dk7 X7
        exact iteT ⟨_, rfl, _, y1, y2, y3⟩
  rintro H6 ⟨hs, h6, hlt, hlen, hnd, dk6, X6⟩
  have eC : ((g.count : Nat) : Int).toNat = g.count := by omega
  rw [eC] at hlt hlen dk6
  refine ⟨D, _, rfl, .inl ⟨.inl (.inl h6), fun p7 hp7 => ?_⟩⟩
  have s7 := same_new (o := .tup (hs.map nV)) hp7
  have hh7 : Dp K (upd H6 p7 (.tup (hs.map nV))) (.ref p7) (nsD hs) := nsD_new hs hp7
  have dk7 := (dk6.same s7).up (show 5000 * j + 4050 + g.count ≤ 5000 * j + 4060 by omega)
  have X57 := X6.trans (off_same_mono s7)
  have hg7 := dp_kt (ext_kt dk5 X57) _ _ (nlG g) hg
  generalize upd H6 p7 (.tup (hs.map nV)) = H7 at hh7 dk7 X57 hg7 ⊢
  refine ⟨_, rfl, vg, rfl, _, rfl, d, c, vg, _, _, N, g, hs, rfl, by omega, dk7, hg7, ok, hne, hh7, by omega, hlt, hnd, fun H8 dk8 X8 => ⟨_, rfl, iteF ?_⟩⟩
  exact ⟨_, _, _, _, rfl, dk8.up (by omega)⟩
end
end K51

set_option maxHeartbeats 0
open PySem PySem.W PySem.Calls PyProof.Rows
theorem PySem.Challenge.cw_wholeapart_k51_slots_by_any_hand_holds : PySem.Challenge.rw_wholeapart_k51_slots_by_any_hand.Holds := by
  w_on; o_law
  refine HandSHeadRun.head_any (r := OpenLaw.row PySem.Challenge.rw_wholeapart_k51_slots_by_any_hand) (q := view (OpenLaw.row PySem.Challenge.rw_wholeapart_k51_slots_by_any_hand).prog [52]) (H := K51.hk) (ob := K51.ob) (M := 6000) (loose := K51.loose) (d := HandSHeadRun.topDef (OpenLaw.row PySem.Challenge.rw_wholeapart_k51_slots_by_any_hand).prog 52) (kwd := []) K51.ob_eq
    (by kernel_rfl) (fun s => by kernel_rfl) K51.run (by kernel_rfl) (by kernel_rfl) (by kernel_rfl) (by rfl) (by first | assumption | decide +kernel) (by decide +kernel) ⟨rfl, rfl, rfl, rfl, rfl, by decide +kernel⟩ ?hw ?hc
  case hw => w_witness2
  case hc =>
    refine HG.walkG (l := PySem.Challenge.rw_wholeapart_k51_slots_by_any_hand) (n := 63) (k := 12) (x := "_law_script") (CX := L2.CX0) rfl (by decide) (by kernel_rfl) ⟨rfl, by decide, by decide⟩ ?F (fun _ _ _ _ z => z)
    intro w mg fa h Y G hmg0
    obtain ⟨K, KX, c⟩ := Y
    have hmg : mg ("law" : PySem.Str) = some (.ref fa) := by
      have e : (HandSHeadRun.topDef (OpenLaw.row PySem.Challenge.rw_wholeapart_k51_slots_by_any_hand).prog 52).name = ("law" : PySem.Str) := by kernel_rfl
      rw [← e]
      exact hmg0
    have T := K51.txt KX G c
    have efa : fa = He.ga K "law" := by
      have e := hmg.symm.trans (T.g "law" (by decide))
      cases e
      rfl
    subst efa
    obtain ⟨fd, F⟩ := T.d_law
    refine ⟨K, fd, K51.spLaw K, KX, fun s u => (L2.FunD.bindsA (ps := ["_law_script"]) F fun _ _ _ _ _ _ us hl => match us, hl with | [_], _ => rfl) s [u] rfl, fun H a ns hl _ _ hS => ⟨a, ns, rfl, hS, hl, fun _ => rfl⟩, fun base _ _ => ?_⟩
    exact K51.ok_law T F
