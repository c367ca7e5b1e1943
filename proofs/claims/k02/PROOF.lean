import PyProof.Rows.All
import Wide.All
import OpenK.AllK
import Wide.FinOn
import HandS.ForMost
import HandS.WordsExc
import HandS.Defaults
import HandS.HeadEnd
import HandS.EndBits
import HandS.IsInst
import HandS.Wide
import HandS.HeadHook1
import HandS.HeadHook2
import KE.KStateDown
import Lean
import HandS.Head0
import HandS.Head1
import HandS.Head2
import HandS.Walk
import HandS.Style
import HandS.NoneIn
import PySem.Challenge.RW_wholeapart_k02_names_and_words
set_option Elab.async false
set_option linter.all false
set_option maxRecDepth 100000
set_option maxHeartbeats 4000000
/-! HG: defs that are called where no repr is under way (the guards are known to be none), and repr of data. -/
namespace HG
open PySem PySem.Spec PyProof.Rows L2

structure FnG (P : Program) (w : World) (K : PySem.W.Frag) (mg : Str → Option Value) (base : Heap)
    (CX : CXT) (k : Nat) (f : Addr) (fd : FuncData) (ps : List Str) (sp : Sp) : Prop where
  sized : ∀ vs H Q E, sp vs H Q E → vs.length = ps.length
  goes : ∀ (A : Around) (outer : List Env) (s : Shared) (H : Hp) (args : Args) (us : List Value) (vs : List V) (Q : VK) (E : XK),
    Room k A → A.guards = some [] → Env0 P w K mg base A outer s H → BindsTo s fd args (ps.zip us) → Vals vs us →
    sp vs H Q E → codeAny (model P w) A (.call (.ref f) args) (CR CX outer P w H s Q E) s

section
variable {P : Program} {w : World} {K : PySem.W.Frag} {mg : Str → Option Value} {base : Heap} {CX : CXT} {k : Nat} {f : Addr} {fd : FuncData} {ps : List Str} {sp : Sp}

theorem FnG.of (F : FnOk P w K mg base CX k f fd ps sp) : FnG P w K mg base CX k f fd ps sp :=
  ⟨F.len, fun A outer s H args us vs Q E r _ => F.run A outer s H args us vs Q E r⟩

theorem FnG.up {j : Nat} (F : FnG P w K mg base CX j f fd ps sp) (h : j ≤ k) : FnG P w K mg base CX k f fd ps sp :=
  ⟨F.sized, fun A outer s H args us vs Q E r => F.goes A outer s H args us vs Q E (r.mono h)⟩

/-- a def of the text, by its body -/
theorem fng_of {x qual : Str} {params : Arguments} {body : List Stmt} {scope : Scope} {dvs : List V} {kws : List (Str × V)} {N : List Str}
    (F : FunD K x qual params body scope dvs kws f fd) (S : FnScope N ps scope) (len : ∀ vs H Q E, sp vs H Q E → vs.length = ps.length)
    (hbody : ∀ (cdv : Value) (A : Around) (outer : List Env) (s : Shared) (H : Hp) (vs : List V) (Q : VK) (E : XK),
      Room k (A.deeper (envOfC qual scope s.heap.objs.size f cdv)) → A.guards = some [] → sp vs H Q E →
      ∃ t, PSs (cxOf CX P w K mg base N qual scope f cdv A outer s H E) body t ∧
        t { nx := fun _ H' => Q .non H', rt := Q } (start N vs) H) : FnG P w K mg base CX (k + 1) f fd ps sp := by
  obtain ⟨oc, od, dV, kV, doc, pm, an, cdv, ct, osl, rfl, lk, hcd, _, _⟩ := F.ex
  constructor
  · exact len
  intro A outer s H args us vs Q E hr hg e0 hb r hsp
  have X1 : K.In s.heap := e0.mod.kin.keeps fun b o e => (e0.bs b o e).1
  have X2 : s.heap.NoLimit := e0.mod.nolimit.keeps fun b o e => (e0.bs b o e).1
  obtain ⟨t, ht, hq⟩ := hbody cdv A outer s H vs Q E (hr.deeper _) hg hsp
  refine codeAny_call_function hr.depth (X1 _ _ lk) rfl S.co S.gen rfl (PySem.W.codeRec_of X1 hcd) (hb _ _ _ _ ?_)
  have kinds : ∀ y ∈ ps.zip us, scope.names.lookup y.1 = some .local ∨
      (scope.names.lookup y.1 = some .cell ∧ ((cellsFrom (s.heap.objs.size + 1) scope.names []).lookup y.1).isSome = true) := by
    rintro ⟨n, v⟩ hy
    have hn := (List.of_mem_zip hy).1
    rcases S.par n hn with q | q
    · left; exact q
    · right; exact ⟨q, PySem.W.cellsFrom_some _ _ _ (.inl q)⟩
  refine wpAny_newFunctionEnv_cells S.kind kinds ?_
  intro env he s1 x
  subst he
  refine ⟨X2.keeps x.toInCall.keep, codeAny_func ?_⟩
  have I := inv_start (CX := CX) (E := E) S hr.hd e0 (len _ _ _ _ hsp) r x
  refine wpAny_mono (ht.run [] s1 (start N vs) H _ I hq) ?_ (fun e s' hs => hs)
  intro fl s' hs
  cases fl with
  | next =>
    obtain ⟨σ', H', J, q⟩ := hs
    exact ⟨V.non, H', J.os, J.bare, J.base, J.hok, rfl, q⟩
  | ret u =>
    obtain ⟨v, σ', H', J, rv, q⟩ := hs
    exact ⟨v, H', J.os, J.bare, J.base, J.hok, rv, q⟩
  | brk => exact hs.elim fun _ z => z.elim fun _ z => z.2.elim
  | cont => exact hs.elim fun _ z => z.elim fun _ z => z.2.elim
end

/-! ### calls of such defs -/
section
variable {X : Cx} {CX : CXT} {k : Nat} {f : Addr} {fd : FuncData} {ps ks : List Str} {sp : Sp} {dvs : List V} {ds : List Value}
  {E : XK} {x : Str} {p pos : Pos} {e : Expr} {es : List Expr} {t tk : TA} {kws : List Keyword}
  {g : List Value → List Value → List Value} {gV : List V → List V → List V}

theorem fin_call {pins : List (Addr × Obj)} {σ : L2.St} {H : Hp} {s s' : Shared} {Q : VK} {r : Result} (hx : Passes CX X E)
    (I : Inv X pins σ H s) (h : CR CX X.stack X.prog X.w H s Q E r s') : callEnd (EP X pins σ Q) X.xe r s' := by
  cases r with
  | error e => exact hx pins σ H s e s' I h
  | ok fl =>
    cases fl with
    | ret u => exact I.after h
    | next => exact h.elim
    | brk => exact h.elim
    | cont => exact h.elim

theorem pe_callG (F : FnG X.prog X.w X.K X.mg X.base CX k f fd ps sp) (hr : Room k X.A) (hgd : X.A.guards = some []) (hg : Gl X x) (hm : X.mg x = some (.ref f))
    (hk : PySem.W.keepIn X.K (.ref f) = true) (hb : Binds X.K fd ps ds) (hd : Vals dvs ds) (hx : Passes CX X E) (ha : PA X (e :: es) t)
    (hdb : (x == ("__debug__" : Str)) = false := by decide)
    (he : starEach (e :: es) X.env = (false, eval e X.env) :: starEach es X.env := by rfl)
    (hpl : (backTo pos (starEach es X.env)).any (·.1) = false := by rfl) : PE X (.Call (.Name x p) (e :: es) [] pos) (tCall sp dvs E t) := by
  constructor
  intro pins s σ H Q I h
  refine wpAny_Call_Name_kw (ld_glob I hg hm ?_ hdb)
  refine PySem.W.callWith_K (h₀ := X.base) I.ok.mod.kin hk (thn (ha.run pos pins s σ H _ I h) ?_) he hpl
  rintro us s1 ⟨vs, H1, I1, r, q⟩
  have rr : Vals (vs ++ dvs) (us ++ ds) := r.append hd
  have hl : (us ++ ds).length = ps.length := rr.length.symm.trans (F.sized _ _ _ _ q)
  refine ⟨I1.kIn, wpAny_call (codeAny_mono (F.goes X.A X.stack s1 H1 ⟨us, []⟩ _ _ Q E hr hgd I1.env0 (hb s1 us I1.kIn hl) rr q) fun r s' hq => ?_)⟩
  exact fin_call hx I1 hq

end

/-! ### repr of data -/
mutual
theorem dp_nodict {K : PySem.W.Frag} {H : Hp} : ∀ (d : PyData) (v : V), Dp K H v d → d.hasDict = false
  | .none, _, _ => by simp only [PyData.hasDict]
  | .bool _, _, _ => by simp only [PyData.hasDict]
  | .int _, _, _ => by simp only [PyData.hasDict]
  | .str _, _, _ => by simp only [PyData.hasDict]
  | .list ds, _, h => by
    cases h with
    | lst _ ha =>
      simp only [PyData.hasDict]
      exact dpAll_nodict ds _ ha
  | .tuple ds, _, h => by
    cases h with
    | tup _ ha =>
      simp only [PyData.hasDict]
      exact dpAll_nodict ds _ ha
  | .dict _, _, h => by cases h
theorem dpAll_nodict {K : PySem.W.Frag} {H : Hp} : ∀ (ds : List PyData) (vs : List V), DpAll K H vs ds → PyData.hasDictAll ds = false
  | [], _, _ => by simp only [PyData.hasDictAll]
  | d :: ds, _, h => by
    cases h with
    | cons h1 h2 => simp only [PyData.hasDictAll, dp_nodict d _ h1, dpAll_nodict ds _ h2, Bool.or_self]
end

def rRepr (K : PySem.W.Frag) : List V → Hp → VK → Prop := fun xs H Q =>
  ∃ x d, xs = [x] ∧ Dp K H x d ∧ d.showable = true ∧ d.depth ≤ 150 ∧ d.shown.length ≤ sizeLine ∧ Q (.str d.shown) H

theorem call_repr {X : Cx} {k : Nat} (hgd : X.A.guards = some []) (hr : Room k X.A) : CallR X (.builtin "repr") (rRepr X.K) := by
  intro pins s σ H xs us Q I r h
  obtain ⟨x, d, rfl, hd, hs, hdep, hsz, q⟩ := h
  obtain ⟨u, rfl, ru⟩ := vals1 r
  obtain ⟨as, rd⟩ := Dp.reads I d x u hd ru
  have hu := hr.un
  cases rd with
  | none => 
    simp only [PyData.shown] at q
    exact PySem.P.repr_of_none ⟨.str _, H, I.tok _, ⟨_, rfl⟩, q⟩
  | bool b =>
    simp only [PyData.shown] at q
    exact PySem.P.repr_of_bool ⟨.str _, H, I.tok _, ⟨_, rfl⟩, q⟩
  | int i t =>
    simp only [PyData.shown] at q
    exact PySem.P.repr_of_int (by simpa [PyData.showable] using hs) ⟨.str _, H, I.tok _, ⟨_, rfl⟩, q⟩
  | str y t =>
    simp only [PyData.shown] at q hsz
    exact PySem.P.repr_of_str ⟨.str _, H, I.tok _, ⟨_, rfl⟩, q⟩ hsz
  | list h1 h2 h3 h4 =>
    have nd := dp_nodict _ _ hd
    refine repr_of_reads' (.list h1 h2 h3 h4) hs (fun z => ?_) hgd (by omega) (fun _ _ e => e) (fun h' u tk hk => ⟨.str _, H, I.kept hk, ⟨_, rfl⟩, q⟩) hsz
    rw [nd] at z; cases z
  | tuple h1 h2 h3 h4 =>
    have nd := dp_nodict _ _ hd
    refine repr_of_reads' (.tuple h1 h2 h3 h4) hs (fun z => ?_) hgd (by omega) (fun _ _ e => e) (fun h' u tk hk => ⟨.str _, H, I.kept hk, ⟨_, rfl⟩, q⟩) hsz
    rw [nd] at z; cases z
  | dict h1 h2 h3 h4 h5 => cases hd

/-! ### the law's own call -/
section
variable {P : Program} {w : World} {K : PySem.W.Frag} {mg mb : Str → Option Value} {CX : CXT} {k : Nat} {fa a : Addr} {fd : FuncData} {x : Str} {sp : Sp} {s1 : Shared} {vs : List Value} {ns : List Int}

/-- from an abstract heap H that tracks the script at most -/
theorem law_core (KX : K.In s1.heap) (hns : s1.heap.Ns mainGlobals mg) (hb : s1.heap.Ns builtinsNs mb)
    (hbb : ∀ x : Str, x ≠ "__name__" → mb x = bootBuiltins x) (hlim : s1.heap.NoLimit) (hg : s1.gens = #[])
    (ha : s1.heap.get? a = some { cls := .type "list", data := .seq vs.toArray }) (hr : Room k callerA)
    (F : ∀ base : Heap, K.In base → base.Ns mainGlobals mg → FnG P w K mg base CX k fa fd [x] sp)
    (hbind : ∀ (s : Shared) (u : Value), BindsTo s fd ⟨[u], []⟩ [(x, u)])
    {H : Hp} (only : Only H) (hok : HOk P w H s1.heap) (hA : ∀ b, H b ≠ none → b = a) (hK : H a ≠ none → K.lookup a = none)
    (hsp : sp [.ref a] H (fun v _ => v = .bl true) fun _ _ _ => False)
    (hCX : ∀ e s', CX [] H s1 (fun _ _ _ => False) e s' → False) :
    codeAny (model P w) callerA (.call (.ref fa) ⟨[.ref a], []⟩)
      (fun r s' => r = .ok (.ret (.bool true)) ∧ OldK s1.heap s'.heap ∧ s'.os = s1.os ∧ AllBare s'.gens) s1 := by
  have tracked : ∀ {b : Addr} {u : HO}, H b = some u → b = a := fun {b u} q => hA b (by simp [q])
  have dictFree : ∀ {b : Addr} {o : Obj} {es : Array DictEntry} {ep : Nat}, s1.heap.get? b = some o → o.data = .dict es ep → H b = none := by
    intro b o es ep e d
    cases q : H b with
    | none => rfl
    | some u =>
      rw [tracked q, ha] at e
      cases e
      cases d
  have nsK : ∀ {b : Addr} {m : Str → Option Value}, s1.heap.Ns b m → (hidT s1.heap H).Ns b m := by
    rintro b m ⟨o, es, ep, e, d, r⟩
    exact ⟨o, es, ep, hidT_get e (dictFree e d), d, r⟩
  have kin : K.In (hidT s1.heap H) := by
    intro b o e
    refine hidT_get (KX b o e) ?_
    cases q : H b with
    | none => rfl
    | some u =>
      have eb := tracked q
      subst eb
      rw [hK (by simp [q])] at e
      cases e
  have md : Mod K mg (hidT s1.heap H) := by
    obtain ⟨mc, l1, l2⟩ := hlim
    exact ⟨kin, nsK hns, ⟨mb, nsK hb, hbb⟩, ⟨mc, nsK l1, l2⟩⟩
  have e0 : Env0 P w K mg (hidT s1.heap H) callerA [] s1 H :=
    { frames := rfl, mod := md, bs := fun b o e => of_hidT e, bsz := Nat.le_of_eq (hidT_size _ _), funs := trivial,
      frf := fun b z => absurd (show b ∈ ([] : List Addr) from z) List.not_mem_nil, hok := hok, bare := .of_eq hg }
  have go := (F _ kin (nsK hns)).goes callerA [] s1 H ⟨[.ref a], []⟩ [.ref a] [.ref a] _ _ hr rfl e0 (hbind s1 (.ref a)) (.cons rfl .nil) hsp
  refine codeAny_mono go fun r s' h => ?_
  cases r with
  | error e => exact (hCX e s' h).elim
  | ok fl =>
    cases fl with
    | next => exact h.elim
    | brk => exact h.elim
    | cont => exact h.elim
    | ret u =>
      obtain ⟨v, H', os, bare, un, hok', r', q⟩ := h
      have ev : v = .bl true := q
      subst ev
      have eu : u = Value.bool true := r'
      subst eu
      refine ⟨rfl, OldK.of_keep fun b o e => ?_, os, bare⟩
      rcases only b with z | ⟨ob, xs, z⟩
      · exact un.keep b o e z (fun y => absurd (show b ∈ ([] : List Addr) from y) List.not_mem_nil) List.not_mem_nil
      · obtain ⟨e1, _⟩ := hok b _ z
        obtain ⟨e2, _⟩ := hok' b _ (un.frzs b ob _ z)
        rw [e1] at e
        cases e
        exact e2

theorem law_callG (KX : K.In s1.heap) (hns : s1.heap.Ns mainGlobals mg) (hb : s1.heap.Ns builtinsNs mb)
    (hbb : ∀ x : Str, x ≠ "__name__" → mb x = bootBuiltins x) (hlim : s1.heap.NoLimit) (hg : s1.gens = #[])
    (ha : s1.heap.get? a = some { cls := .type "list", data := .seq vs.toArray }) (hi : IntsAre vs ns) (hl : ns.length ≤ sizeLine) (hr : Room k callerA)
    (F : ∀ base : Heap, K.In base → base.Ns mainGlobals mg → FnG P w K mg base CX k fa fd [x] sp)
    (hbind : ∀ (s : Shared) (u : Value), BindsTo s fd ⟨[u], []⟩ [(x, u)])
    (hsp : ∀ H : Hp, Only H → SqL K H a (ns.map V.int) → sp [.ref a] H (fun v _ => v = .bl true) fun _ _ _ => False)
    (hCX : ∀ H e s', CX [] H s1 (fun _ _ _ => False) e s' → False) :
    codeAny (model P w) callerA (.call (.ref fa) ⟨[.ref a], []⟩)
      (fun r s' => r = .ok (.ret (.bool true)) ∧ OldK s1.heap s'.heap ∧ s'.os = s1.os ∧ AllBare s'.gens) s1 := by
  have rv := vals_ints hi
  cases hk : K.lookup a with
  | some o =>
    have e := KX a o hk
    rw [ha] at e
    cases e
    have on : Only (fun _ => none) := fun _ => .inl rfl
    refine law_core KX hns hb hbb hlim hg ha hr F hbind on (fun b u z => by cases z) (fun b z => absurd rfl z) (fun z => absurd rfl z) (hsp _ on (.inr ?_)) (hCX _)
    exact ⟨_, vs.toArray, _, hk, rfl, rfl, rfl, by rw [List.size_toArray, hi.length]; exact hl, by simpa using rv⟩
  | none =>
    let o : Obj := { cls := .type "list", data := .seq vs.toArray }
    let H : Hp := upd (fun _ => none) a (.frz o (.lst (ns.map V.int)))
    have hH : H a = some (.frz o (.lst (ns.map V.int))) := upd_same
    have hN : ∀ b, b ≠ a → H b = none := fun b z => upd_ne z
    have on : Only H := by
      intro b
      by_cases e : b = a
      · subst e; exact .inr ⟨_, _, hH⟩
      · exact .inl (hN b e)
    refine law_core KX hns hb hbb hlim hg ha hr F hbind on (fun b u z => ?_) (fun b z => ?_) (fun _ => hk) (hsp H on (.inl (.inr ⟨o, hH⟩))) (hCX _)
    · by_cases e : b = a
      · subst e
        rw [hH] at z
        cases z
        exact ⟨ha, by rw [List.length_map]; exact hl, vs, _, rv, ha⟩
      · rw [hN b e] at z; cases z
    · by_cases e : b = a
      · exact e
      · exact absurd (hN b e) z
end

/-- the walk that a head by facts asks for, with the script's bits -/
theorem walkG {l : PySem.W.OpenLaw} {n k : Nat} {q : Program} {loose : List Str} {XP : (Str → Option Value) → Heap → Prop} {YP : World → Heap → Prop} {d : DefRec} {CX : CXT} {x : Str}
    (hn : l.most = some n) (hn2 : n ≤ sizeLine) (hdf : d.params.defaults = []) (hr : Room k callerA)
    (F : ∀ (w : World) (mg : Str → Option Value) (fa : Addr) (h : Heap), YP w h → h.Ns mainGlobals mg → mg d.name = some (.ref fa) →
      ∃ (K : PySem.W.Frag) (fd : FuncData) (sp : Sp), K.In h ∧ (∀ (s : Shared) (u : Value), BindsTo s fd ⟨[u], []⟩ [(x, u)]) ∧
        (∀ (H : Hp) (a : Addr) (ns : List Int), ns.length ≤ n → (∀ z ∈ ns, Builtin.Int.intBits z ≤ 1048576) → Only H → SqL K H a (ns.map V.int) →
          sp [.ref a] H (fun v _ => v = .bl true) fun _ _ _ => False) ∧
        ∀ base : Heap, K.In base → base.Ns mainGlobals mg → FnG l.prog w K mg base CX k fa fd [x] sp)
    (hCX : ∀ (H : Hp) (s : Shared) (e : Value) (s' : Shared), CX [] H s (fun _ _ _ => False) e s' → False) :
    PySem.W.WalkO q loose XP YP l.row.toRowW d [] (fun f vs => PySem.call f vs) := by
  refine Att.attach_callB hn hdf ?_
  intro w s₀ s₁ mg mb fa o pm cd doc a vs ns G Y ho hd hcd hmg hobj hints hlen hbits hg
  obtain ⟨K, fd, sp, KX, hb, hsp, hF⟩ := F w mg fa _ Y G.T.g hmg
  exact law_callG KX G.T.g G.T.b G.T.builtins G.T.nolimit hg hobj hints (Nat.le_trans hlen hn2) hr hF hb (fun H hO hS => hsp H a ns hlen hbits hO hS) (fun H e s' => hCX H s₁ e s')
end HG

set_option maxHeartbeats 4000000
/-! HW: short words over HG: defs called by name (Cal), data, frames. -/
namespace HG
open PySem PySem.Spec PyProof.Rows L2

/-! ### a def of the top, ready to be called -/
structure Cal (P : Program) (w : World) (K : PySem.W.Frag) (mg : Str → Option Value) (base : Heap) (x : Str) (k : Nat) (ps : List Str) (sp : Sp) : Prop where
  ex : ∃ fd, FnOk P w K mg base CX0 k (He.ga K x) fd ps sp ∧ Binds K fd ps []
  gl : mg x = some (.ref (He.ga K x))
  kp : PySem.W.keepIn K (.ref (He.ga K x)) = true
structure CalG (P : Program) (w : World) (K : PySem.W.Frag) (mg : Str → Option Value) (base : Heap) (x : Str) (k : Nat) (ps : List Str) (sp : Sp) : Prop where
  ex : ∃ fd, FnG P w K mg base CX0 k (He.ga K x) fd ps sp ∧ Binds K fd ps []
  gl : mg x = some (.ref (He.ga K x))
  kp : PySem.W.keepIn K (.ref (He.ga K x)) = true
/-- called by keywords alone -/
structure CalK (P : Program) (w : World) (K : PySem.W.Frag) (mg : Str → Option Value) (base : Heap) (x : Str) (k : Nat) (ks ps : List Str) (gV : List V → List V) (sp : Sp) : Prop where
  ex : ∃ fd g, FnOk P w K mg base CX0 k (He.ga K x) fd ps sp ∧ KBn K fd ps 0 ks g (fun _ zs => gV zs)
  gl : mg x = some (.ref (He.ga K x))
  kp : PySem.W.keepIn K (.ref (He.ga K x)) = true
section
variable {X : Cx} {k : Nat} {ps ks : List Str} {sp : Sp} {x : Str} {p pos : Pos} {e : Expr} {es : List Expr} {t tk : TA} {kws : List Keyword} {gV : List V → List V}
theorem pe_cal (C : Cal X.prog X.w X.K X.mg X.base x k ps sp) (hr : Room k X.A) (hg : Gl X x) (ha : PA X (e :: es) t)
    (hdb : (x == ("__debug__" : Str)) = false := by decide)
    (he : starEach (e :: es) X.env = (false, eval e X.env) :: starEach es X.env := by rfl)
    (hpl : (backTo pos (starEach es X.env)).any (·.1) = false := by rfl) : PE X (.Call (.Name x p) (e :: es) [] pos) (tCall sp [] E0 t) := by
  obtain ⟨fd, F, b⟩ := C.ex
  exact pe_call F hr hg C.gl C.kp b .nil pass0 ha hdb he hpl
theorem pe_calG (C : CalG X.prog X.w X.K X.mg X.base x k ps sp) (hr : Room k X.A) (hgd : X.A.guards = some []) (hg : Gl X x) (ha : PA X (e :: es) t)
    (hdb : (x == ("__debug__" : Str)) = false := by decide)
    (he : starEach (e :: es) X.env = (false, eval e X.env) :: starEach es X.env := by rfl)
    (hpl : (backTo pos (starEach es X.env)).any (·.1) = false := by rfl) : PE X (.Call (.Name x p) (e :: es) [] pos) (tCall sp [] E0 t) := by
  obtain ⟨fd, F, b⟩ := C.ex
  exact pe_callG F hr hgd hg C.gl C.kp b .nil pass0 ha hdb he hpl
def tCalK (m : Nat) (sp : Sp) (gV : List V → List V) (tk : TA) : TE := fun σ H Q => tk σ H fun zs H1 => zs.length = m ∧ sp (gV zs) H1 Q E0
theorem pe_calK (C : CalK X.prog X.w X.K X.mg X.base x k ks ps gV sp) (hr : Room k X.A) (hg : Gl X x) (hkw : PK X kws tk)
    (hall : (backToKw pos (keywordEach kws X.env)).all (·.1.isSome) = true := by rfl)
    (hks : (backToKw pos (keywordEach kws X.env)).filterMap (·.1) = ks := by rfl)
    (hdb : (x == ("__debug__" : Str)) = false := by decide)
    (hpl : ((backTo pos (starEach [] X.env)).any (·.1) || (backToKw pos (keywordEach kws X.env)).any (·.1.isNone)) = false := by rfl) :
    PE X (.Call (.Name x p) [] kws pos) (tCalK ks.length sp gV tk) := by
  obtain ⟨fd, g, F, b⟩ := C.ex
  constructor
  intro pins s σ H Q I h
  refine wpAny_Call_Name_kw (ld_glob I hg C.gl ?_ hdb)
  refine PySem.W.callWith_KW0 (h₀ := X.base) I.ok.mod.kin C.kp hall (thn (hkw.run pos pins s σ H _ I h) ?_) hpl
  rintro ws s2 ⟨zs, H2, I2, rz, l2, q2⟩
  rw [hks]
  exact ⟨I2.kIn, run_fnN (us := []) (vs := []) F hr b pass0 I2 .nil rz rfl l2 q2⟩
theorem pe_globI {i : Int} (h : ∃ t, X.mg x = some (.int i t)) (hg : Gl X x) (hd : (x == ("__debug__" : Str)) = false := by decide) : PE X (.Name x pos) (tC (.int i)) := by
  obtain ⟨t, h⟩ := h
  exact pe_glob hg h ⟨t, rfl⟩ hd
theorem pe_globS {z : Str} (h : ∃ t, X.mg x = some (.str z t)) (hg : Gl X x) (hd : (x == ("__debug__" : Str)) = false := by decide) : PE X (.Name x pos) (tC (.str z)) := by
  obtain ⟨t, h⟩ := h
  exact pe_glob hg h ⟨t, rfl⟩ hd
end

/-! ### data -/
def tyN : PyData → String
  | .none => "NoneType"
  | .bool _ => "bool"
  | .int _ => "int"
  | .str _ => "str"
  | .list _ => "list"
  | .tuple _ => "tuple"
  | .dict _ => "dict"
theorem dp_ty {K : PySem.W.Frag} {H : Hp} {v : V} {d : PyData} (h : Dp K H v d) : TyX K H v (.type (tyN d)) := by
  cases h with
  | non => exact .base .non
  | bl b => exact .base (.bl b)
  | int i => exact .base (.int i)
  | str x => exact .base (.str x)
  | lst s _ =>
    rcases s with (e | ⟨o, e⟩) | ⟨o, _, _, e, c, _⟩
    · exact .base (.lst e)
    · exact .base (.frz e)
    · exact .kList e c
  | tup s _ =>
    rcases s with (e | ⟨o, e⟩) | ⟨o, _, _, e, c, _⟩
    · exact .base (.tup e)
    · exact .fTuple e
    · exact .kTuple e c
theorem isi_of {K : PySem.W.Frag} {H : Hp} {v : V} {d : PyData} {n : String} {b : Bool} {Q : VK} (h : Dp K H v d) (hk : kitB (tyN d) n = some b) (q : Q (.bl b) H) : rIsi K [v, .ty n] H Q :=
  ⟨v, .ty n, _, _, b, rfl, .ty n, dp_ty h, kit_ty hk, q⟩
def isI : PyData → Bool
  | .int _ => true
  | .bool _ => true
  | _ => false
def isB : PyData → Bool
  | .bool _ => true
  | _ => false
def isS : PyData → Bool
  | .str _ => true
  | _ => false
def isL : PyData → Bool
  | .list _ => true
  | _ => false
def isT : PyData → Bool
  | .tuple _ => true
  | _ => false
theorem kit_int : ∀ d : PyData, kitB (tyN d) "int" = some (isI d)
  | .none => (by decide +kernel : kitB "NoneType" "int" = some false)
  | .bool _ => (by decide +kernel : kitB "bool" "int" = some true)
  | .int _ => (by decide +kernel : kitB "int" "int" = some true)
  | .str _ => (by decide +kernel : kitB "str" "int" = some false)
  | .list _ => (by decide +kernel : kitB "list" "int" = some false)
  | .tuple _ => (by decide +kernel : kitB "tuple" "int" = some false)
  | .dict _ => (by decide +kernel : kitB "dict" "int" = some false)
theorem kit_bool : ∀ d : PyData, kitB (tyN d) "bool" = some (isB d)
  | .none => (by decide +kernel : kitB "NoneType" "bool" = some false)
  | .bool _ => (by decide +kernel : kitB "bool" "bool" = some true)
  | .int _ => (by decide +kernel : kitB "int" "bool" = some false)
  | .str _ => (by decide +kernel : kitB "str" "bool" = some false)
  | .list _ => (by decide +kernel : kitB "list" "bool" = some false)
  | .tuple _ => (by decide +kernel : kitB "tuple" "bool" = some false)
  | .dict _ => (by decide +kernel : kitB "dict" "bool" = some false)
theorem kit_str : ∀ d : PyData, kitB (tyN d) "str" = some (isS d)
  | .none => (by decide +kernel : kitB "NoneType" "str" = some false)
  | .bool _ => (by decide +kernel : kitB "bool" "str" = some false)
  | .int _ => (by decide +kernel : kitB "int" "str" = some false)
  | .str _ => (by decide +kernel : kitB "str" "str" = some true)
  | .list _ => (by decide +kernel : kitB "list" "str" = some false)
  | .tuple _ => (by decide +kernel : kitB "tuple" "str" = some false)
  | .dict _ => (by decide +kernel : kitB "dict" "str" = some false)
theorem kit_list : ∀ d : PyData, kitB (tyN d) "list" = some (isL d)
  | .none => (by decide +kernel : kitB "NoneType" "list" = some false)
  | .bool _ => (by decide +kernel : kitB "bool" "list" = some false)
  | .int _ => (by decide +kernel : kitB "int" "list" = some false)
  | .str _ => (by decide +kernel : kitB "str" "list" = some false)
  | .list _ => (by decide +kernel : kitB "list" "list" = some true)
  | .tuple _ => (by decide +kernel : kitB "tuple" "list" = some false)
  | .dict _ => (by decide +kernel : kitB "dict" "list" = some false)
theorem kit_tuple : ∀ d : PyData, kitB (tyN d) "tuple" = some (isT d)
  | .none => (by decide +kernel : kitB "NoneType" "tuple" = some false)
  | .bool _ => (by decide +kernel : kitB "bool" "tuple" = some false)
  | .int _ => (by decide +kernel : kitB "int" "tuple" = some false)
  | .str _ => (by decide +kernel : kitB "str" "tuple" = some false)
  | .list _ => (by decide +kernel : kitB "list" "tuple" = some false)
  | .tuple _ => (by decide +kernel : kitB "tuple" "tuple" = some true)
  | .dict _ => (by decide +kernel : kitB "dict" "tuple" = some false)

mutual
theorem dp_mono {K : PySem.W.Frag} {H H' : Hp} (e : Same H H') : ∀ (d : PyData) (v : V), Dp K H v d → Dp K H' v d
  | .none, _, h => by cases h; exact .non
  | .bool b, _, h => by cases h; exact .bl b
  | .int i, _, h => by cases h; exact .int i
  | .str x, _, h => by cases h; exact .str x
  | .list ds, _, h => by
    cases h with
    | lst s a =>
      refine .lst ?_ (dpAll_mono e ds _ a)
      rcases s with (s | ⟨o, s⟩) | s
      · exact .inl (.inl (e _ _ s))
      · exact .inl (.inr ⟨o, e _ _ s⟩)
      · exact .inr s
  | .tuple ds, _, h => by
    cases h with
    | tup s a =>
      refine .tup ?_ (dpAll_mono e ds _ a)
      rcases s with (s | ⟨o, s⟩) | s
      · exact .inl (.inl (e _ _ s))
      · exact .inl (.inr ⟨o, e _ _ s⟩)
      · exact .inr s
  | .dict _, _, h => by cases h
theorem dpAll_mono {K : PySem.W.Frag} {H H' : Hp} (e : Same H H') : ∀ (ds : List PyData) (vs : List V), DpAll K H vs ds → DpAll K H' vs ds
  | [], _, h => by cases h; exact .nil
  | d :: ds, _, h => by
    cases h with
    | cons a b => exact .cons (dp_mono e d _ a) (dpAll_mono e ds _ b)
end
theorem dpAll_len {K : PySem.W.Frag} {H : Hp} : ∀ {vs : List V} {ds : List PyData}, DpAll K H vs ds → vs.length = ds.length
  | _, _, .nil => rfl
  | _, _, .cons _ h => congrArg (· + 1) (dpAll_len h)
theorem dpAll_app {K : PySem.W.Frag} {H : Hp} : ∀ {vs us : List V} {ds es : List PyData}, DpAll K H vs ds → DpAll K H us es → DpAll K H (vs ++ us) (ds ++ es)
  | _, _, _, _, .nil, h => h
  | _, _, _, _, .cons a b, h => .cons a (dpAll_app b h)
theorem dpAll_get {K : PySem.W.Frag} {H : Hp} : ∀ {vs : List V} {ds : List PyData} {i : Nat} {v : V}, DpAll K H vs ds → vs[i]? = some v → ∃ d, ds[i]? = some d ∧ Dp K H v d
  | _, _, _, _, .nil, h => by simp at h
  | _, _, 0, _, .cons a _, h => by
    simp at h
    subst h
    exact ⟨_, rfl, a⟩
  | _, _, i + 1, _, .cons _ b, h => by
    obtain ⟨d, e, q⟩ := dpAll_get (i := i) b (by simpa using h)
    exact ⟨d, by simpa using e, q⟩

theorem dpInts {K : PySem.W.Frag} {H : Hp} : ∀ ns : List Int, DpAll K H (ns.map V.int) (ns.map PyData.int)
  | [] => .nil
  | n :: ns => .cons (.int n) (dpInts ns)
theorem canLay_ints : ∀ ns : List Int, PyData.canLayAll0 (ns.map PyData.int) = true
  | [] => by simp only [List.map_nil, PyData.canLayAll0]
  | n :: ns => by simp only [List.map_cons, PyData.canLayAll0, PyData.canLay0, canLay_ints ns, Bool.and_self]
theorem depth_ints : ∀ ns : List Int, PyData.depthAll (ns.map PyData.int) ≤ 1
  | [] => by simp only [List.map_nil, PyData.depthAll]; omega
  | n :: ns => by
    have := depth_ints ns
    simp only [List.map_cons, PyData.depthAll, PyData.depth]
    omega
theorem shaped_ints (ns : List Int) : SeqAt.shaped (.list (ns.map PyData.int)) = true := by
  have h := depth_ints ns
  have h2 : (PyData.list (ns.map PyData.int)).depth ≤ 64 := by
    simp only [PyData.depth]
    omega
  unfold SeqAt.shaped
  simp only [PyData.canLay0, canLay_ints ns, Bool.true_and]
  exact decide_eq_true h2
theorem upd_get {H : Hp} {p b : Addr} {o u : HO} (hp : H p = none) (h : H b = some u) : upd H p o b = some u := by
  rw [upd_ne (ne_of_none h hp)]
  exact h

/-! ### heaps but for two places -/
def off (d c : Addr) (H : Hp) : Hp := fun b => if b = d ∨ b = c then none else H b
theorem off_same {d c : Addr} {H : Hp} : Same (off d c H) H := fun b o h => by
  unfold off at h
  split at h
  · cases h
  · exact h
theorem off_get {d c b : Addr} {H : Hp} (h1 : b ≠ d) (h2 : b ≠ c) : off d c H b = H b := if_neg (fun z => z.elim h1 h2)
def Ext (d c : Addr) (H H' : Hp) : Prop := Same (off d c H) (off d c H')
theorem Ext.refl {d c : Addr} (H : Hp) : Ext d c H H := fun _ _ h => h
theorem Ext.trans {d c : Addr} {H H1 H2 : Hp} (a : Ext d c H H1) (b : Ext d c H1 H2) : Ext d c H H2 := fun x o h => b x o (a x o h)
theorem Ext.d {d c : Addr} {H : Hp} {o : HO} : Ext d c H (upd H d o) := fun b u h => by
  unfold off at h ⊢
  split at h
  · cases h
  · rename_i n
    rw [if_neg n, upd_ne (fun z => n (.inl z))]
    exact h
theorem Ext.c {d c : Addr} {H : Hp} {o : HO} : Ext d c H (upd H c o) := fun b u h => by
  unfold off at h ⊢
  split at h
  · cases h
  · rename_i n
    rw [if_neg n, upd_ne (fun z => n (.inr z))]
    exact h
theorem Ext.new {d c p : Addr} {H : Hp} {o : HO} (hp : H p = none) : Ext d c H (upd H p o) := fun b u h => by
  unfold off at h ⊢
  split at h
  · cases h
  · rename_i n
    rw [if_neg n, upd_ne (ne_of_none h hp)]
    exact h
/-- an object that was not there may change -/
theorem Ext.mut {d c p : Addr} {H H' : Hp} {o : HO} (e : Ext d c H H') (hp : H p = none) : Ext d c H (upd H' p o) := fun b u h => by
  have h1 := e b u h
  unfold off at h h1 ⊢
  split at h
  · cases h
  · rename_i n
    rw [if_neg n] at h1
    rw [if_neg n, upd_ne (ne_of_none h hp)]
    exact h1
theorem Ext.at {d c b : Addr} {H H' : Hp} {o : HO} (e : Ext d c H H') (h1 : b ≠ d) (h2 : b ≠ c) (h : H b = some o) : H' b = some o := by
  have := e b o ((off_get h1 h2).trans h)
  rw [off_get h1 h2] at this
  exact this
/-- of H' what H had not -/
def news (H H' : Hp) : Hp := fun b => if (H b).isSome = true then none else H' b
theorem news_get {H H' : Hp} {b : Addr} {o : HO} : news H H' b = some o ↔ H b = none ∧ H' b = some o := by
  unfold news
  cases h : H b with
  | none => simp
  | some u => simp
theorem news_same {H H' : Hp} : Same (news H H') H' := fun b o h => (news_get.mp h).2
theorem Ext.sqL {K : PySem.W.Frag} {d c : Addr} {H H' : Hp} {a : Addr} {xs : List V} (e : Ext d c H H') (h : SqL K (off d c H) a xs) : SqL K (off d c H') a xs := Same.seq e h
theorem offL {K : PySem.W.Frag} {d c : Addr} {H : Hp} {a : Addr} {xs : List V} (h : SqL K (off d c H) a xs) : SqL K H a xs := Same.seq off_same h
theorem offD {K : PySem.W.Frag} {d c : Addr} {H : Hp} {v : V} {D : PyData} (h : Dp K (off d c H) v D) : Dp K H v D := dp_mono off_same D v h
theorem Ext.dp {K : PySem.W.Frag} {d c : Addr} {H H' : Hp} {v : V} {D : PyData} (e : Ext d c H H') (h : Dp K (off d c H) v D) : Dp K (off d c H') v D := dp_mono e D v h
theorem tyes {σ : L2.St} {H : Hp} {A B : Hp → Prop} (h : A H) : tYes σ H fun b H3 => if b = true then A H3 else B H3 := by
  show if true = true then A H else B H
  exact iteT h
/-! ### texts -/
abbrev cp (z : Str) : List Nat := z.cps.toList
theorem cp_len (z : Str) : (cp z).length = z.length := by unfold cp; simp [Str.length]
theorem cp_app (a b : Str) : cp (a ++ b) = cp a ++ cp b := by
  unfold cp
  rw [Str.cps_append, Array.toList_append]
theorem cp_ext {a b : Str} (h : cp a = cp b) : a = b := Str.ext' (Array.toList_inj.mp h)
structure OkS (m : Nat) (z : Str) : Prop where
  len : z.length ≤ m
  cps : ∀ c ∈ cp z, c < 128
theorem OkS.up {m n : Nat} {z : Str} (h : OkS m z) (hn : m ≤ n) : OkS n z := ⟨Nat.le_trans h.len hn, h.cps⟩
theorem OkS.app {m n : Nat} {a b : Str} (h : OkS m a) (g : OkS n b) : OkS (m + n) (a ++ b) := by
  refine ⟨?_, fun c hc => ?_⟩
  · rw [Str.length_append]
    have := h.len
    have := g.len
    omega
  · rw [cp_app] at hc
    rcases List.mem_append.mp hc with q | q
    · exact h.cps c q
    · exact g.cps c q
theorem OkS.cut {m : Nat} {z : Str} (h : OkS m z) (lo hi : Option Int) : OkS m (cutS z lo hi) := by
  have e : cp (cutS z lo hi) = ((cp z).drop (HT.sIx z.length 0 lo)).take (HT.sIx z.length z.length hi - HT.sIx z.length 0 lo) := by
    unfold cutS cp
    simp
  refine ⟨?_, fun c hc => ?_⟩
  · rw [← cp_len, e, List.length_take, List.length_drop, cp_len]
    have := h.len
    omega
  · rw [e] at hc
    exact h.cps c (List.mem_of_mem_drop (List.mem_of_mem_take hc))
theorem OkS.one {c : Nat} (h : c < 128) : OkS 1 ⟨#[c]⟩ := ⟨by simp [Str.length], fun x hx => by simp [cp] at hx; omega⟩
theorem OkS.repr {m : Nat} {z : Str} (h : OkS m z) : (reprText z).length ≤ 10 * m + 2 := by
  have h1 := StrLaws.reprText_len z (fun c hc => Nat.lt_of_lt_of_le (h.cps c hc) (by decide))
  have := h.len
  omega
theorem cp_join0 : ∀ l : List Str, cp (Str.join "" l) = (l.map cp).flatten
  | [] => rfl
  | [x] => by
    show cp x = _
    simp
  | x :: y :: r => by
    show cp (x ++ "" ++ Str.join "" (y :: r)) = _
    rw [cp_app, cp_app, cp_join0 (y :: r)]
    have e : cp ("" : Str) = [] := rfl
    rw [e]
    simp
theorem cp_joinT (l : List Str) : cp (Txt.join "" l) = (l.map cp).flatten := by
  rw [eq_of_beq (join_plain_closes "" l)]
  exact cp_join0 l
end HG

set_option maxHeartbeats 0
namespace K02
open PySem PySem.Spec PyProof.Rows L2
def top (i : Nat) : Stmt := PySem.Challenge.pw_wholeapart_k02_names_and_words.main.body.getD i (.Pass ⟨0, 0, 0, 0⟩)
def dd (x : Str) (i : Nat) : He.DefD := ⟨(x, none), x, x, defArgs (top i), defBody (top i), defScope (top i), [], []⟩
def fn : List He.DefD := [dd "is_integer" 4, dd "is_word" 5, dd "is_name" 6, dd "full_name" 7, dd "_law_deck" 9, dd "_law_draw" 10, dd "_law_pick" 11, dd "_law_letters" 12,
  dd "_law_bent" 13, dd "_law_string" 14, dd "_law_integer" 15, dd "_law_value" 16, dd "_law_is_name" 17, dd "_law_is_word" 18, dd "_law_right" 19, dd "law" 20]
def fa : List He.Fa := [.glo "is_integer", .glo "is_word", .glo "is_name", .glo "full_name", .glo "_law_deck", .glo "_law_draw", .glo "_law_pick", .glo "_law_letters",
  .glo "_law_bent", .glo "_law_string", .glo "_law_integer", .glo "_law_value", .glo "_law_is_name", .glo "_law_is_word", .glo "_law_right", .glo "law",
  .free "isinstance", .free "int", .free "bool", .free "str", .free "len", .free "all", .free "range", .free "list", .free "tuple", .free "repr",
  .str "LETTERS" "abcdefghijklmnopqrstuvwxyz", .int "LONGEST_NAME" 8, .int "GREATEST_WORD" 65535]
abbrev R : PySem.W.OpenRow := PySem.W.OpenLaw.row PySem.Challenge.rw_wholeapart_k02_names_and_words
abbrev hk : PySem.W.Hook := He.hookD 4 fa fn
def ob (s : PySem.W.SharedT) : He.AlD := He.obsDG 4 fa fn (HandSHeadRun.getT s)
theorem ob_eq (s : PySem.W.SharedT) : ob s = hk.obs s.abs := He.obsDG_eq (HandSHeadRun.getT_eq s)
def loose : List Str := ["LETTERS", "LONGEST_NAME", "GREATEST_WORD", "is_integer", "is_word", "is_name", "full_name", "_law_deck", "_law_draw", "_law_pick", "_law_letters", "_law_bent", "_law_string", "_law_integer", "_law_value", "_law_is_name", "_law_is_word", "_law_right"]
theorem run (w : World) : HandSHeadRun.RunEq R (PySem.W.view R.prog [20]) hk ob 2000 loose w := by
  intro os
  kernel_rfl
end K02

set_option maxHeartbeats 4000000
namespace K02
open PySem PySem.Spec PyProof.Rows L2 HG
/-! ### the text -/
abbrev FnP (K : PySem.W.Frag) (x : Str) (st : Stmt) : Prop := ∃ fd, FunD K x x (defArgs st) (defBody st) (defScope st) [] [] (He.ga K x) fd
abbrev s_is_integer : Stmt := top 4
abbrev N_is_integer : List Str := ["thing"]
theorem sc_is_integer : FnScope N_is_integer ["thing"] (defScope s_is_integer) := ⟨rfl, rfl, rfl, by decide +kernel, rfl, by decide +kernel, by decide +kernel⟩
abbrev s_is_word : Stmt := top 5
abbrev N_is_word : List Str := ["thing"]
theorem sc_is_word : FnScope N_is_word ["thing"] (defScope s_is_word) := ⟨rfl, rfl, rfl, by decide +kernel, rfl, by decide +kernel, by decide +kernel⟩
abbrev s_is_name : Stmt := top 6
abbrev N_is_name : List Str := ["thing", "letter"]
theorem sc_is_name : FnScope N_is_name ["thing"] (defScope s_is_name) := ⟨rfl, rfl, rfl, by decide +kernel, rfl, by decide +kernel, by decide +kernel⟩
abbrev s_full_name : Stmt := top 7
abbrev N_full_name : List Str := ["module", "name"]
theorem sc_full_name : FnScope N_full_name ["module", "name"] (defScope s_full_name) := ⟨rfl, rfl, rfl, by decide +kernel, rfl, by decide +kernel, by decide +kernel⟩
abbrev s__law_deck : Stmt := top 9
abbrev N__law_deck : List Str := ["_law_script", "_law_mixed", "_law_cell"]
theorem sc__law_deck : FnScope N__law_deck ["_law_script"] (defScope s__law_deck) := ⟨rfl, rfl, rfl, by decide +kernel, rfl, by decide +kernel, by decide +kernel⟩
abbrev s__law_draw : Stmt := top 10
abbrev N__law_draw : List Str := ["_law_deck_here", "_law_many", "_law_found", "_law_turn", "_law_cell", "_law_mixed"]
theorem sc__law_draw : FnScope N__law_draw ["_law_deck_here", "_law_many"] (defScope s__law_draw) := ⟨rfl, rfl, rfl, by decide +kernel, rfl, by decide +kernel, by decide +kernel⟩
abbrev s__law_pick : Stmt := top 11
abbrev N__law_pick : List Str := ["_law_deck_here", "_law_some"]
theorem sc__law_pick : FnScope N__law_pick ["_law_deck_here", "_law_some"] (defScope s__law_pick) := ⟨rfl, rfl, rfl, by decide +kernel, rfl, by decide +kernel, by decide +kernel⟩
abbrev s__law_letters : Stmt := top 12
abbrev N__law_letters : List Str := ["_law_deck_here", "_law_many", "_law_letters_here", "_law_k"]
theorem sc__law_letters : FnScope N__law_letters ["_law_deck_here", "_law_many"] (defScope s__law_letters) := ⟨rfl, rfl, rfl, by decide +kernel, rfl, by decide +kernel, by decide +kernel⟩
abbrev s__law_bent : Stmt := top 13
abbrev N__law_bent : List Str := ["_law_deck_here", "_law_word", "_law_at", "_law_sign", "_law_way"]
theorem sc__law_bent : FnScope N__law_bent ["_law_deck_here", "_law_word"] (defScope s__law_bent) := ⟨rfl, rfl, rfl, by decide +kernel, rfl, by decide +kernel, by decide +kernel⟩
abbrev s__law_string : Stmt := top 14
abbrev N__law_string : List Str := ["_law_deck_here", "_law_way", "_law_some", "_law_word"]
theorem sc__law_string : FnScope N__law_string ["_law_deck_here"] (defScope s__law_string) := ⟨rfl, rfl, rfl, by decide +kernel, rfl, by decide +kernel, by decide +kernel⟩
abbrev s__law_integer : Stmt := top 15
abbrev N__law_integer : List Str := ["_law_deck_here", "_law_way"]
theorem sc__law_integer : FnScope N__law_integer ["_law_deck_here"] (defScope s__law_integer) := ⟨rfl, rfl, rfl, by decide +kernel, rfl, by decide +kernel, by decide +kernel⟩
abbrev s__law_value : Stmt := top 16
abbrev N__law_value : List Str := ["_law_deck_here", "_law_deep", "_law_way", "_law_some", "_law_k"]
theorem sc__law_value : FnScope N__law_value ["_law_deck_here", "_law_deep"] (defScope s__law_value) := ⟨rfl, rfl, rfl, by decide +kernel, rfl, by decide +kernel, by decide +kernel⟩
abbrev s__law_is_name : Stmt := top 17
abbrev N__law_is_name : List Str := ["_law_given", "_law_known", "_law_sign"]
theorem sc__law_is_name : FnScope N__law_is_name ["_law_given"] (defScope s__law_is_name) := ⟨rfl, rfl, rfl, by decide +kernel, rfl, by decide +kernel, by decide +kernel⟩
abbrev s__law_is_word : Stmt := top 18
abbrev N__law_is_word : List Str := ["_law_given"]
theorem sc__law_is_word : FnScope N__law_is_word ["_law_given"] (defScope s__law_is_word) := ⟨rfl, rfl, rfl, by decide +kernel, rfl, by decide +kernel, by decide +kernel⟩
abbrev s__law_right : Stmt := top 19
abbrev N__law_right : List Str := ["_law_value_here", "_law_kept"]
theorem sc__law_right : FnScope N__law_right ["_law_value_here"] (defScope s__law_right) := ⟨rfl, rfl, rfl, by decide +kernel, rfl, by decide +kernel, by decide +kernel⟩
abbrev s_law : Stmt := top 20
abbrev N_law : List Str := ["_law_script", "_law_deck_here", "_law_fixed", "_law_values", "_law_value_here", "_law_turn", "_law_home", "_law_hidden", "_law_one"]
theorem sc_law : FnScope N_law ["_law_script"] (defScope s_law) := ⟨rfl, rfl, rfl, by decide +kernel, rfl, by decide +kernel, by decide +kernel⟩
structure Txt (K : PySem.W.Frag) (mg : Str → Option Value) : Prop where
  d_is_integer : FnP K "is_integer" s_is_integer
  d_is_word : FnP K "is_word" s_is_word
  d_is_name : FnP K "is_name" s_is_name
  d_full_name : FnP K "full_name" s_full_name
  d__law_deck : FnP K "_law_deck" s__law_deck
  d__law_draw : FnP K "_law_draw" s__law_draw
  d__law_pick : FnP K "_law_pick" s__law_pick
  d__law_letters : FnP K "_law_letters" s__law_letters
  d__law_bent : FnP K "_law_bent" s__law_bent
  d__law_string : FnP K "_law_string" s__law_string
  d__law_integer : FnP K "_law_integer" s__law_integer
  d__law_value : FnP K "_law_value" s__law_value
  d__law_is_name : FnP K "_law_is_name" s__law_is_name
  d__law_is_word : FnP K "_law_is_word" s__law_is_word
  d__law_right : FnP K "_law_right" s__law_right
  d_law : FnP K "law" s_law
  g : ∀ x ∈ (["is_integer", "is_word", "is_name", "full_name", "_law_deck", "_law_draw", "_law_pick", "_law_letters", "_law_bent", "_law_string", "_law_integer", "_law_value", "_law_is_name", "_law_is_word", "_law_right", "law"] : List Str), mg x = some (.ref (He.ga K x))
  n_isinstance : mg "isinstance" = none
  n_int : mg "int" = none
  n_bool : mg "bool" = none
  n_str : mg "str" = none
  n_len : mg "len" = none
  n_all : mg "all" = none
  n_range : mg "range" = none
  n_list : mg "list" = none
  n_tuple : mg "tuple" = none
  n_repr : mg "repr" = none
  c_LETTERS : ∃ t, mg "LETTERS" = some (.str "abcdefghijklmnopqrstuvwxyz" t)
  c_LONGEST_NAME : ∃ t, mg "LONGEST_NAME" = some (.int 8 t)
  c_GREATEST_WORD : ∃ t, mg "GREATEST_WORD" = some (.int 65535 t)
/-! ### the deck: a dict of four -/
abbrev kC : Key := Sum.inr "cells"
abbrev kL : Key := Sum.inr "left"
abbrev kM : Key := Sum.inr "mixed"
abbrev kT : Key := Sum.inr "turn"
def deckD (c : Addr) (l m t : Int) : List (Key × V) := [(kC, .ref c), (kL, .int l), (kM, .int m), (kT, .int t)]
structure Deck (d c : Addr) (n : Nat) (H : Hp) : Prop where
  ex : ∃ (ns : List Int) (l m t : Int), H d = some (.dK (deckD c l m t)) ∧ H c = some (.lst (ns.map V.int)) ∧ 0 ≤ l ∧ 0 ≤ t ∧ t ≤ n ∧ ns.length ≤ 63
theorem Deck.up {d c : Addr} {n m : Nat} {H : Hp} (D : Deck d c n H) (h : n ≤ m) : Deck d c m H := by
  obtain ⟨ns, l, x, t, h1, h2, h3, h4, h5, h6⟩ := D.ex
  exact ⟨ns, l, x, t, h1, h2, h3, h4, by omega, h6⟩
theorem Deck.ne {d c : Addr} {n : Nat} {H : Hp} (D : Deck d c n H) : d ≠ c := by
  obtain ⟨ns, l, x, t, h1, h2, _⟩ := D.ex
  exact ne_of h1 h2 (by intro z; cases z)
section
variable {H : Hp} {d c : Addr} {l m t : Int}
theorem get_c (h : H d = some (.dK (deckD c l m t))) : DGet H d (.str "cells") (some (.ref c)) := DGet.k (k := kC) h
theorem get_l (h : H d = some (.dK (deckD c l m t))) : DGet H d (.str "left") (some (.int l)) := DGet.k (k := kL) h
theorem get_m (h : H d = some (.dK (deckD c l m t))) : DGet H d (.str "mixed") (some (.int m)) := DGet.k (k := kM) h
theorem get_t (h : H d = some (.dK (deckD c l m t))) : DGet H d (.str "turn") (some (.int t)) := DGet.k (k := kT) h
theorem put_l {x : Int} (h : H d = some (.dK (deckD c l m t))) : DPut H d (.str "left") (.int x) (upd H d (.dK (deckD c x m t))) := DPut.k (k := kL) h (by show 4 < sizeLine; decide)
theorem put_t {x : Int} (h : H d = some (.dK (deckD c l m t))) : DPut H d (.str "turn") (.int x) (upd H d (.dK (deckD c l m x))) := DPut.k (k := kT) h (by show 4 < sizeLine; decide)
end
section
variable {P : Program} {w : World} {K : PySem.W.Frag} {mg : Str → Option Value} {base : Heap}
/-! ### _law_draw -/
def spDraw : Sp := fun vs H Q _ => ∃ (d c : Addr) (n : Nat) (many : Int), vs = [.ref d, .int many] ∧ 0 < many ∧ many < 10 ^ 40 ∧ n < 2 ^ 60 ∧ Deck d c n H ∧
  ∀ (r : Int) (H' : Hp), 0 ≤ r → r < many → Deck d c (n + 1) H' → Ext d c H H' → Q (.int r) H'
theorem many_small {many : Int} (h0 : 0 < many) (h : many < 10 ^ 40) : many.natAbs < 2 ^ 200 := by
  have e : (10 : Int) ^ 40 < 2 ^ 200 := by decide
  omega
theorem mod_small (x : Int) : -(2 ^ 64) < x % 2147483647 ∧ x % 2147483647 < 2 ^ 64 := by
  have h1 := Int.emod_nonneg x (show (2147483647 : Int) ≠ 0 by decide)
  have h2 := Int.emod_lt_of_pos x (show (0 : Int) < 2147483647 by decide)
  omega
theorem ix0 (n : Nat) : seqIndex? 0 (n + 1) = some 0 := by
  unfold seqIndex?
  simp
theorem ok_draw (T : Txt K mg) : ∃ fd, FnOk P w K mg base CX0 1 (He.ga K "_law_draw") fd ["_law_deck_here", "_law_many"] spDraw ∧ Binds K fd ["_law_deck_here", "_law_many"] [] := by
  obtain ⟨fd, F⟩ := T.d__law_draw
  refine ⟨fd, F.ok sc__law_draw (fun vs H Q E h => ?_) (fun cdv A outer s H vs Q E hr h => ?_), F.bindsN fun _ _ _ _ _ _ us hl => match us, hl with | [_, _], _ => rfl⟩
  · obtain ⟨d, c, n, many, rfl, _⟩ := h
    rfl
  obtain ⟨d, c, n, many, rfl, hm0, hm1, hn, D, q⟩ := h
  obtain ⟨ns, l, m, t, hd, hc, hl, ht, htn, hns⟩ := D.ex
  have hu := hu_of hr
  have ndc := D.ne
  have wd : CDivW l many := wide_div hm0 (many_small hm0 hm1) (by decide) (by decide)
  refine ⟨_, PSs.nox (pss_cons (ps_if (pt_cmpR op_gt (pe_dget hu (pv 0) pe_str (fun _ _ => rfl)) pe_int (nomark _)) (pss_cons (ps_set (i := 2) sc__law_draw.nd rfl (.inl rfl) (pe_op op_mod (pe_dget hu (pv 0) pe_str (fun _ _ => rfl)) (pv 1)))
      (pss_cons (ps_dput hu (pv 0) pe_str (pe_op op_fdivW (pe_dget hu (pv 0) pe_str (fun _ _ => rfl)) (pv 1)) rfl)
      (pss_one (ps_ret (pv 2))))) pss_nil)
      (pss_cons (ps_set (i := 3) sc__law_draw.nd rfl (.inl rfl) (pe_op op_add (pe_dget hu (pv 0) pe_str (fun _ _ => rfl)) pe_int))
      (pss_cons (ps_dput hu (pv 0) pe_str (pv 3) rfl)
      (pss_cons (ps_set (i := 4) sc__law_draw.nd rfl (.inl rfl) (pe_dget hu (pv 0) pe_str (fun _ _ => rfl)))
      (pss_cons (ps_if (pt_cmpR (op_neD hr.units) (pe_dget hu (pv 0) pe_str (fun _ _ => rfl)) (pe_lst pa_nil) (nomark _)) (pss_cons (ps_set (i := 4) sc__law_draw.nd rfl (.inl rfl) (pe_bm PySem.F.plainAttrs_list PySem.F.slot_list_pop PySem.F.type_list_pop mt_popAt (pe_dget hu (pv 0) pe_str (fun _ _ => rfl)) (pa_cons pe_int pa_nil)))
      (pss_cons (ps_if (pt_cmpR op_ge (pv 4) (pe_op op_pow pe_int pe_int) (nomark _)) (pss_cons (ps_dput hu (pv 0) pe_str (pe_op op_fdivW (pv 4) (pv 1)) rfl)
      (pss_one (ps_ret (pe_op op_mod (pv 4) (pv 1))))) pss_nil)
      (pss_one (ps_set (i := 4) sc__law_draw.nd rfl (.inl rfl) (pe_op op_add (pv 4) (pe_dget hu (pv 0) pe_str (fun _ _ => rfl))))))) pss_nil)
      (pss_cons (ps_set (i := 5) sc__law_draw.nd rfl (.inl rfl) (pe_op op_mod (pe_op op_mul (pe_op op_add (pe_op op_add (pe_op op_mod (pv 4) pe_int) (pe_op op_mul (pe_op op_mul pe_int (pv 3)) (pv 3))) pe_int) pe_int) pe_int))
      (pss_cons (ps_set (i := 5) sc__law_draw.nd rfl (.inl rfl) (pe_op op_mod (pe_op op_add (pe_op op_add (pe_op op_mul (pv 5) (pv 5)) (pe_op op_mul pe_int (pv 3))) pe_int) pe_int))
      (pss_one (ps_ret (pe_op op_mod (pe_op op_fdiv (pe_op op_mod (pe_op op_mul (pv 5) pe_int) pe_int) pe_int) (pv 1))))))))))), ?_⟩
  -- if left > 0
  refine ⟨.ref d, rfl, d, .int l, rfl, get_l hd, l, 0, rfl, rfl, _, rfl, ite2 (fun e => ?_) (fun e => ?_)⟩
  · refine ⟨.ref d, rfl, d, .int l, rfl, get_l hd, .int many, rfl, l, many, rfl, rfl, hm0, ?_⟩
    refine ⟨.ref d, rfl, d, .int l, rfl, get_l hd, .int many, rfl, l, many, rfl, rfl, wd, .ref d, rfl, d, _, rfl, put_l hd, ?_⟩
    refine ⟨.int (l % many), rfl, q _ _ (Int.emod_nonneg _ (by omega)) (Int.emod_lt_of_pos _ hm0) ⟨ns, l / many, m, t, upd_same, ?_, Int.ediv_nonneg hl (by omega), ht, by omega, hns⟩ Ext.d⟩
    rw [upd_ne ndc.symm]; exact hc
  -- turn = deck['turn'] + 1; deck['turn'] = turn; cell = deck['mixed']
  refine ⟨.ref d, rfl, d, .int t, rfl, get_t hd, t, 1, rfl, rfl, ?_⟩
  refine ⟨.int (t + 1), rfl, .ref d, rfl, d, _, rfl, put_t hd, ?_⟩
  have hd1 : (upd H d (.dK (deckD c l m (t + 1)))) d = some (.dK (deckD c l m (t + 1))) := upd_same
  have hc1 : (upd H d (.dK (deckD c l m (t + 1)))) c = some (.lst (ns.map V.int)) := by rw [upd_ne ndc.symm]; exact hc
  have x1 : Ext d c H (upd H d (.dK (deckD c l m (t + 1)))) := Ext.d
  generalize upd H d (.dK (deckD c l m (t + 1))) = H1 at hd1 hc1 x1 ⊢
  refine ⟨.ref d, rfl, d, .int m, rfl, get_m hd1, ?_⟩
  -- if deck['cells'] != []
  refine ⟨.ref d, rfl, d, .ref c, rfl, get_c hd1, Nat.zero_le _, fun p hp => ?_⟩
  have hd2 := upd_get (o := .lst []) hp hd1
  have hc2 := upd_get (o := .lst []) hp hc1
  have x2 : Ext d c H (upd H1 p (.lst [])) := x1.trans (Ext.new hp)
  have hp2 : (upd H1 p (.lst [])) p = some (.lst []) := upd_same
  generalize upd H1 p (.lst []) = H2 at hd2 hc2 x2 hp2 ⊢
  refine ⟨.list (ns.map PyData.int), .list [], .lst (.inl (.inl hc2)) (dpInts ns), .lst (.inl (.inl hp2)) .nil, shaped_ints ns, shaped_ints [], _, rfl, ?_⟩
  have dk : ∀ (H3 : Hp) (ns' : List Int) (l' : Int), H3 d = some (.dK (deckD c l' m (t + 1))) → H3 c = some (.lst (ns'.map V.int)) → 0 ≤ l' → ns'.length ≤ 63 → Deck d c (n + 1) H3 :=
    fun H3 ns' l' a1 a2 a3 a4 => ⟨ns', l', m, t + 1, a1, a2, a3, by omega, by omega, a4⟩
  cases ns with
  | nil =>
    refine iteF ?_
    generalize m = cell at hd2 dk ⊢
    have D2 := dk H2 [] l hd2 hc2 hl hns
    refine ⟨.int cell, rfl, cell, _, rfl, rfl, (by decide : (0 : Int) < 2147483629), .int (t + 1), rfl, _, _, rfl, rfl, .inl ⟨by decide, by decide⟩, .int (t + 1), rfl, _, _, rfl, rfl, .inr ⟨by omega, by omega⟩, _, _, rfl, rfl, _, _, rfl, rfl, _, _, rfl, rfl, .inr ⟨by decide, by decide⟩, _, _, rfl, rfl, (by decide : (0 : Int) < 2147483647), ?_⟩
    refine ⟨_, rfl, _, rfl, _, _, rfl, rfl, .inl (mod_small _), .int (t + 1), rfl, _, _, rfl, rfl, .inl ⟨by decide, by decide⟩, _, _, rfl, rfl, _, _, rfl, rfl, _, _, rfl, rfl, (by decide : (0 : Int) < 2147483587), ?_⟩
    refine ⟨_, rfl, _, _, rfl, rfl, .inr ⟨by decide, by decide⟩, _, _, rfl, rfl, (by decide : (0 : Int) < 2147483563), _, _, rfl, rfl, ⟨by decide, by decide⟩, .int many, rfl, _, _, rfl, rfl, hm0, ?_⟩
    exact q _ _ (Int.emod_nonneg _ (by omega)) (Int.emod_lt_of_pos _ hm0) D2 x2
  | cons x r =>
    refine iteT ?_
    -- cell = deck['cells'].pop(0)
    refine ⟨.ref d, rfl, d, .ref c, rfl, get_c hd2, .inl ⟨rfl, _, .inl (.inl hc2)⟩, c, _, 0, 0, .int x, rfl, rfl, hc2, by decide, by decide, ix0 _, rfl, ?_⟩
    generalize eH : upd H2 c (.lst (((x :: r).map V.int).eraseIdx 0)) = H3
    have hd3 : H3 d = some (.dK (deckD c l m (t + 1))) := by rw [← eH, upd_ne ndc]; exact hd2
    have hc3 : H3 c = some (.lst (r.map V.int)) := by rw [← eH]; exact upd_same
    have x3 : Ext d c H H3 := by rw [← eH]; exact x2.trans Ext.c
    have hr1 : r.length ≤ 63 := by rw [List.length_cons] at hns; omega
    refine ⟨.int x, rfl, _, _, rfl, rfl, ⟨by decide, by decide, by decide⟩, _, _, rfl, rfl, _, rfl, ite2 (fun e1 => ?_) (fun e1 => ?_)⟩
    · have hx : (10 : Int) ^ 18 ≤ x := of_decide_eq_true e1
      have h10 : (0 : Int) < 10 ^ 18 := by decide
      have wx : CDivW x many := wide_div hm0 (many_small hm0 hm1) (by decide) (by decide)
      refine ⟨.int x, rfl, .int many, rfl, x, many, rfl, rfl, wx, .ref d, rfl, d, _, rfl, put_l hd3, ?_⟩
      refine ⟨.int x, rfl, .int many, rfl, x, many, rfl, rfl, hm0, ?_⟩
      refine q _ _ (Int.emod_nonneg _ (by omega)) (Int.emod_lt_of_pos _ hm0) (dk _ r (x / many) upd_same ?_ (Int.ediv_nonneg (by omega) (by omega)) hr1) (x3.trans Ext.d)
      rw [upd_ne ndc.symm]; exact hc3
    refine ⟨.int x, rfl, .ref d, rfl, d, .int m, rfl, get_m hd3, x, m, rfl, rfl, ?_⟩
    have D3 := dk H3 r l hd3 hc3 hl hr1
    refine ⟨.int (x + m), rfl, x + m, _, rfl, rfl, (by decide : (0 : Int) < 2147483629), .int (t + 1), rfl, _, _, rfl, rfl, .inl ⟨by decide, by decide⟩, .int (t + 1), rfl, _, _, rfl, rfl, .inr ⟨by omega, by omega⟩, _, _, rfl, rfl, _, _, rfl, rfl, _, _, rfl, rfl, .inr ⟨by decide, by decide⟩, _, _, rfl, rfl, (by decide : (0 : Int) < 2147483647), ?_⟩
    refine ⟨_, rfl, _, rfl, _, _, rfl, rfl, .inl (mod_small _), .int (t + 1), rfl, _, _, rfl, rfl, .inl ⟨by decide, by decide⟩, _, _, rfl, rfl, _, _, rfl, rfl, _, _, rfl, rfl, (by decide : (0 : Int) < 2147483587), ?_⟩
    refine ⟨_, rfl, _, _, rfl, rfl, .inr ⟨by decide, by decide⟩, _, _, rfl, rfl, (by decide : (0 : Int) < 2147483563), _, _, rfl, rfl, ⟨by decide, by decide⟩, .int many, rfl, _, _, rfl, rfl, hm0, ?_⟩
    exact q _ _ (Int.emod_nonneg _ (by omega)) (Int.emod_lt_of_pos _ hm0) D3 x3
end
end K02

set_option maxHeartbeats 4000000
namespace K02
open PySem PySem.Spec PyProof.Rows L2 HG
theorem Deck.upd {d c p : Addr} {n : Nat} {H : Hp} {o : HO} (D : Deck d c n H) (h1 : p ≠ d) (h2 : p ≠ c) : Deck d c n (upd H p o) := by
  obtain ⟨ns, l, m, t, e1, e2, r⟩ := D.ex
  exact ⟨ns, l, m, t, by rw [upd_ne h1.symm]; exact e1, by rw [upd_ne h2.symm]; exact e2, r⟩
theorem Deck.has {d c p : Addr} {n : Nat} {H : Hp} (D : Deck d c n H) (hp : H p = none) : p ≠ d ∧ p ≠ c := by
  obtain ⟨ns, l, m, t, e1, e2, r⟩ := D.ex
  exact ⟨(ne_of_none e1 hp).symm, (ne_of_none e2 hp).symm⟩
theorem Deck.new {d c p : Addr} {n : Nat} {H : Hp} {o : HO} (D : Deck d c n H) (hp : H p = none) : Deck d c n (L2.upd H p o) := D.upd (D.has hp).1 (D.has hp).2
theorem cut_to (xs : List V) (k : Nat) : cutV xs none (some (k : Int)) = xs.take k := by
  unfold cutV
  rw [HT.sIx_none, HT.sIx_nat, Nat.sub_zero, List.drop_zero]
  by_cases h : k ≤ xs.length
  · rw [Nat.min_eq_left h]
  · rw [Nat.min_eq_right (by omega), List.take_length, List.take_of_length_le (by omega)]
theorem cut63 {ns : List Int} (h : ns.length ≤ 63) : cutV (ns.map V.int) none (some 63) = ns.map V.int := by
  have e := cut_to (ns.map V.int) 63
  rw [List.take_of_length_le (by rw [List.length_map]; exact h)] at e
  exact e
section
variable {P : Program} {w : World} {K : PySem.W.Frag} {mg : Str → Option Value} {base : Heap}
theorem cal {x : Str} {k : Nat} {ps : List Str} {sp : Sp} (T : Txt K mg) (hx : x ∈ (["is_integer", "is_word", "is_name", "full_name", "_law_deck", "_law_draw", "_law_pick", "_law_letters", "_law_bent", "_law_string", "_law_integer", "_law_value", "_law_is_name", "_law_is_word", "_law_right", "law"] : List Str))
    (kp : PySem.W.keepIn K (.ref (He.ga K x)) = true) (h : ∃ fd, FnOk P w K mg base CX0 k (He.ga K x) fd ps sp ∧ Binds K fd ps []) : Cal P w K mg base x k ps sp := ⟨h, T.g x hx, kp⟩
/-! ### _law_deck -/
def spDeck (K : PySem.W.Frag) : Sp := fun vs H Q _ => ∃ (a : Addr) (ns : List Int), vs = [.ref a] ∧ SqL K H a (ns.map V.int) ∧ ns.length ≤ 63 ∧
  ∀ (d c : Addr) (H' : Hp), H d = none → H c = none → Same H H' → Deck d c 0 H' → Q (.ref d) H'
theorem ok_deck (T : Txt K mg) : ∃ fd, FnOk P w K mg base CX0 1 (He.ga K "_law_deck") fd ["_law_script"] (spDeck K) ∧ Binds K fd ["_law_script"] [] := by
  obtain ⟨fd, F⟩ := T.d__law_deck
  refine ⟨fd, F.ok sc__law_deck (fun vs H Q E h => ?_) (fun cdv A outer s H vs Q E hr h => ?_), F.bindsN fun _ _ _ _ _ _ us hl => match us, hl with | [_], _ => rfl⟩
  · obtain ⟨a, ns, rfl, _⟩ := h
    rfl
  obtain ⟨a, ns, rfl, hS, hn, q⟩ := h
  refine ⟨_, PSs.nox (pss_cons (ps_set (i := 1) sc__law_deck.nd rfl (.inl rfl) pe_int)
      (pss_cons (ps_for PassesOwn.never rfl (pi_list (pe_slice sl_list (pv 0) po_none (po_some pe_int))) (pg_name (i := 2) sc__law_deck.nd rfl (.inl rfl)) (pss_one (ps_set (i := 1) sc__law_deck.nd rfl (.inl rfl) (pe_op op_mod (pe_op op_add (pe_op op_add (pe_op op_mul (pv 1) pe_int) (pe_op op_mod (pv 2) pe_int)) pe_int) pe_int))))
      (pss_one (ps_ret (pe_disp (pps_cons pe_str (pe_callTy call_list_of (by rfl) T.n_list (by decide +kernel) (pa_cons (pe_slice sl_list (pv 0) po_none (po_some pe_int)) pa_nil)) (pps_cons pe_str pe_int (pps_cons pe_str (pv 1) (pps_cons pe_str pe_int pps_nil)))) (by rfl) (by rfl) (fun z => by cases z) (by decide)))))), ?_⟩
  -- mixed = 81017; for cell in script[:63]
  refine ⟨.ref a, rfl, 63, rfl, a, _, rfl, hS, fun p hp => ?_⟩
  rw [cut63 hn]
  have s1 : Same H (upd H p (.lst (ns.map V.int))) := fun b o h => upd_get hp h
  have h1 : (upd H p (.lst (ns.map V.int))) p = some (.lst (ns.map V.int)) := upd_same
  generalize upd H p (.lst (ns.map V.int)) = H1 at s1 h1 ⊢
  refine ⟨p, rfl, ⟨_, .inl (.inl h1)⟩, for_list (xs := ns.map V.int) (fun i σ H2 => ∃ m y, σ = [some (.ref a), some (.int m), y] ∧ -(2 ^ 64) < m ∧ m < 2 ^ 64 ∧ H2 = H1) ⟨81017, none, rfl, by decide, by decide, rfl⟩ ?_ ?_ ?_⟩
  · rintro i σ H2 _ ⟨m, y, rfl, _, _, rfl⟩
    exact .inl (.inl h1)
  · rintro i x σ H2 hx ⟨m, y, rfl, hm1, hm2, rfl⟩
    obtain ⟨z, hz, rfl⟩ : ∃ z : Int, True ∧ x = .int z := by
      rw [List.getElem?_map] at hx
      cases e : ns[i]? with
      | none => rw [e] at hx; cases hx
      | some z => rw [e] at hx; cases hx; exact ⟨z, trivial, rfl⟩
    refine ⟨.int m, rfl, _, _, rfl, rfl, .inl ⟨hm1, hm2⟩, .int z, rfl, _, _, rfl, rfl, (by decide : (0 : Int) < 2147483629), _, _, rfl, rfl, _, _, rfl, rfl, _, _, rfl, rfl, (by decide : (0 : Int) < 2147483587), ?_⟩
    refine ⟨_, some (.int z), rfl, ?_, ?_, rfl⟩
    · have := Int.emod_nonneg (m * 69621 + z % 2147483629 + 19) (show (2147483587 : Int) ≠ 0 by decide)
      show -(2 ^ 64) < (m * 69621 + z % 2147483629 + 19) % 2147483587
      omega
    · have := Int.emod_lt_of_pos (m * 69621 + z % 2147483629 + 19) (show (0 : Int) < 2147483587 by decide)
      show (m * 69621 + z % 2147483629 + 19) % 2147483587 < 2 ^ 64
      omega
  · rintro σ H2 ⟨m, y, rfl, hm1, hm2, rfl⟩
    -- the dict
    intro d hd
    have s2 : Same H2 (upd H2 d (.dK [])) := fun b o h => upd_get hd h
    have h2 : (upd H2 d (.dK [])) d = some (.dK []) := upd_same
    generalize upd H2 d (.dK []) = H3 at s2 h2 ⊢
    refine ⟨.ref a, rfl, 63, rfl, a, _, rfl, s2.seq (s1.seq hS), fun p3 hp3 => ?_⟩
    rw [cut63 hn]
    have s3 : Same H3 (upd H3 p3 (.lst (ns.map V.int))) := fun b o h => upd_get hp3 h
    have h3 : (upd H3 p3 (.lst (ns.map V.int))) p3 = some (.lst (ns.map V.int)) := upd_same
    generalize upd H3 p3 (.lst (ns.map V.int)) = H4 at s3 h3 ⊢
    refine ⟨p3, _, rfl, .inl (.inl (.inl h3)), fun c hc => ?_⟩
    have s4 : Same H4 (upd H4 c (.lst (ns.map V.int))) := fun b o h => upd_get hc h
    have h4 : (upd H4 c (.lst (ns.map V.int))) c = some (.lst (ns.map V.int)) := upd_same
    generalize upd H4 c (.lst (ns.map V.int)) = H5 at s4 h4 ⊢
    have hd5 : H5 d = some (.dK []) := s4 _ _ (s3 _ _ h2)
    refine ⟨.int m, rfl, hd5, [(kC, .ref c), (kL, .int 0), (kM, .int m), (kT, .int 0)], rfl, (by show 4 ≤ 15; decide), ?_⟩
    have hdH : H d = none := s1.free hd
    have ndc : c ≠ d := fun z => by rw [z, hd5] at h4; cases h4
    refine q d c _ hdH (s1.free (s2.free (s3.free hc))) (fun b o h => ?_) ⟨ns, 0, m, 0, upd_same, ?_, by decide, by decide, by decide, hn⟩
    · rw [upd_ne (ne_of_none h hdH)]
      exact s4 _ _ (s3 _ _ (s2 _ _ (s1 _ _ h)))
    · rw [upd_ne ndc]
      exact h4
/-! ### _law_pick -/
def spPick (K : PySem.W.Frag) : Sp := fun vs H Q _ => ∃ (d c : Addr) (n : Nat) (x : V), vs = [.ref d, x] ∧ n < 2 ^ 60 ∧ Deck d c n H ∧
  ((∃ z : Str, x = .str z ∧ 0 < z.length ∧ z.length ≤ 1000 ∧ ∀ (ch : Nat) (H' : Hp), ch ∈ cp z → Deck d c (n + 1) H' → Ext d c H H' → Q (.str ⟨#[ch]⟩) H') ∨
   ∃ (a : Addr) (xs : List V), x = .ref a ∧ SqL K (off d c H) a xs ∧ 0 < xs.length ∧ xs.length ≤ 1000 ∧ ∀ (y : V) (H' : Hp), y ∈ xs → Deck d c (n + 1) H' → Ext d c H H' → Q y H')
theorem ok_pick (T : Txt K mg) : ∃ fd, FnOk P w K mg base CX0 2 (He.ga K "_law_pick") fd ["_law_deck_here", "_law_some"] (spPick K) ∧ Binds K fd ["_law_deck_here", "_law_some"] [] := by
  obtain ⟨fd, F⟩ := T.d__law_pick
  have C__law_draw : Cal P w K mg base "_law_draw" 1 _ spDraw := ⟨ok_draw T, T.g _ (by decide), by obtain ⟨fd, F⟩ := T.d__law_draw; exact F.kp⟩
  refine ⟨fd, F.ok sc__law_pick (fun vs H Q E h => ?_) (fun cdv A outer s H vs Q E hr h => ?_), F.bindsN fun _ _ _ _ _ _ us hl => match us, hl with | [_, _], _ => rfl⟩
  · obtain ⟨d, c, n, x, rfl, _⟩ := h
    rfl
  obtain ⟨d, c, n, x, rfl, hn, D, h⟩ := h
  refine ⟨_, PSs.nox (pss_one (ps_ret (pe_ix ix_seq (pv 1) (pe_cal C__law_draw (hr.mono (by omega)) (by rfl) (pa_cons (pv 0) (pa_cons (pe_callB call_len (by rfl) T.n_len (by decide +kernel) (pa_cons (pv 1) pa_nil)) pa_nil))) (fun _ _ => rfl)))), ?_⟩
  rcases h with ⟨z, rfl, h0, h1, q⟩ | ⟨a, xs, rfl, hS, h0, h1, q⟩
  · have hz : z.length ≤ sizeLine := Nat.le_trans h1 (by decide)
    refine ⟨.str z, rfl, .ref d, rfl, .str z, rfl, .str z, z.length, rfl, ⟨hz, rfl⟩, d, c, n, z.length, rfl, by omega, ?_, hn, D, fun r H' r0 r1 D' X => ?_⟩
    · have : (1000 : Int) < 10 ^ 40 := by decide
      omega
    · obtain ⟨j, rfl⟩ := Int.eq_ofNat_of_zero_le r0
      have hj : j < (cp z).length := by rw [cp_len]; omega
      exact .inr (.inr ⟨z, j, (cp z)[j], rfl, rfl, hz, atI_nat (List.getElem?_eq_getElem hj), q _ _ (List.getElem_mem hj) D' X⟩)
  · refine ⟨.ref a, rfl, .ref d, rfl, .ref a, rfl, .ref a, xs.length, rfl, .inl ⟨xs, offL hS, rfl⟩, d, c, n, xs.length, rfl, by omega, ?_, hn, D, fun r H' r0 r1 D' X => ?_⟩
    · have : (1000 : Int) < 10 ^ 40 := by decide
      omega
    · obtain ⟨j, rfl⟩ := Int.eq_ofNat_of_zero_le r0
      have hj : j < xs.length := by omega
      exact .inl ⟨a, xs, j, xs[j], rfl, rfl, offL (X.sqL hS), atI_nat (List.getElem?_eq_getElem hj), q _ _ (List.getElem_mem hj) D' X⟩
/-! ### _law_letters -/
def spLetters : Sp := fun vs H Q _ => ∃ (d c : Addr) (n : Nat) (many : Nat), vs = [.ref d, .int many] ∧ many ≤ 100 ∧ n + 100 < 2 ^ 60 ∧ Deck d c n H ∧
  ∀ (z : Str) (H' : Hp), z.length = many → OkS many z → Deck d c (n + 100) H' → Ext d c H H' → Q (.str z) H'
abbrev sgn (ch : Nat) : Str := ⟨#[ch]⟩
theorem signs_cp : ∀ zs : List Nat, ((zs.map sgn).map cp).flatten = zs
  | [] => rfl
  | z :: zs => by
    rw [List.map_cons, List.map_cons, List.flatten_cons, signs_cp zs]
    rfl
theorem ok_letters (T : Txt K mg) : ∃ fd, FnOk P w K mg base CX0 3 (He.ga K "_law_letters") fd ["_law_deck_here", "_law_many"] spLetters ∧ Binds K fd ["_law_deck_here", "_law_many"] [] := by
  obtain ⟨fd, F⟩ := T.d__law_letters
  have C__law_pick : Cal P w K mg base "_law_pick" 2 _ (spPick K) := ⟨ok_pick T, T.g _ (by decide), by obtain ⟨fd, F⟩ := T.d__law_pick; exact F.kp⟩
  refine ⟨fd, F.ok sc__law_letters (fun vs H Q E h => ?_) (fun cdv A outer s H vs Q E hr h => ?_), F.bindsN fun _ _ _ _ _ _ us hl => match us, hl with | [_, _], _ => rfl⟩
  · obtain ⟨d, c, n, many, rfl, _⟩ := h
    rfl
  obtain ⟨d, c, n, many, rfl, hm, hn, dk, q⟩ := h
  refine ⟨_, PSs.nox (pss_cons (ps_set (i := 2) sc__law_letters.nd rfl (.inr rfl) pe_str)
      (pss_one (ps_ret (pe_join pe_str (pe_lc (own := [("_law_k", 3)]) (by rfl) sc__law_letters.nd (pi_range1 (by rfl) T.n_range (pa_cons (pv 1) pa_nil)) (blkOk_by (own := [("_law_k", 3)]) (N := N__law_letters) (sc := defScope s__law_letters) (by decide +kernel)) (fun _ _ _ _ _ => (pg_name (i := 3) sc__law_letters.nd rfl (.inl rfl))) (fun _ _ _ _ _ => pts_nil) (fun _ _ _ _ _ => (pe_cal C__law_pick (hr.mono (by omega)) (by rfl) (pa_cons (pv 0) (pa_cons (pv 2) pa_nil))))))))), ?_⟩
  have hm2 : ((many : Nat) : Int) < 2 ^ 62 := by
    have : (100 : Int) < 2 ^ 62 := by decide
    omega
  refine ⟨⟨_, rfl⟩, .int many, rfl, many, rfl, by omega, hm2, fun D hD => ?_⟩
  have e0 : ((many : Nat) : Int).toNat = many := by omega
  refine lc_range (lo := 0) (n := (many : Int).toNat) (fun i H2 => ∃ zs : List Nat, zs.length = i ∧ (∀ ch ∈ zs, ch < 128) ∧ H2 D = some (.lst ((zs.map sgn).map V.str)) ∧ Deck d c (n + i) H2 ∧ Ext d c H H2) ?_ ?_ ?_
  · exact ⟨[], rfl, (fun _ h => nomatch h), upd_same, dk.new hD, Ext.new hD⟩
  · rintro i H2 hi ⟨zs, hl, hc, hD2, dk2, X2⟩
    have nd := dk.has hD
    have nc : ∀ ch ∈ cp ("abcdefghijklmnopqrstuvwxyz" : Str), ch < 128 := by decide +kernel
    refine ⟨rfl, tyes ⟨.ref d, rfl, .str "abcdefghijklmnopqrstuvwxyz", rfl, d, c, n + i, .str "abcdefghijklmnopqrstuvwxyz", rfl, by omega, dk2, .inl ⟨_, rfl, by decide, by decide, fun ch H3 hch dk3 X3 => ?_⟩⟩⟩
    have hD3 := X3.at nd.1 nd.2 hD2
    refine ⟨_, hD3, ?_, zs ++ [ch], by rw [List.length_append, hl]; rfl, fun x hx => ?_, ?_, dk3.upd nd.1 nd.2, (X2.trans X3).mut hD⟩
    · rw [List.length_map, List.length_map]
      exact small1000 (by omega)
    · rcases List.mem_append.mp hx with z | z
      · exact hc x z
      · rw [List.mem_singleton.mp z]
        exact nc ch hch
    · rw [upd_same, List.map_append, List.map_append]
      rfl
  · rintro H2 ⟨zs, hl, hc, hD2, dk2, X2⟩
    have ecp : cp (Txt.join "" (zs.map sgn)) = zs := (cp_joinT _).trans (signs_cp zs)
    have elen : (Txt.join "" (zs.map sgn)).length = many := by rw [← cp_len, ecp, hl, e0]
    refine ⟨"", D, zs.map sgn, rfl, rfl, .inl (.inl (.inl hD2)), ?_, q _ _ elen ⟨Nat.le_of_eq elen, fun x hx => hc x (by rw [ecp] at hx; exact hx)⟩ (dk2.up (by omega)) X2⟩
    have e1 : ∀ zs : List Nat, ((zs.map sgn).map (·.length)).sum = zs.length := by
      intro zs
      induction zs with
      | nil => rfl
      | cons a r ih =>
        rw [List.map_cons, List.map_cons, List.sum_cons, ih, List.length_cons]
        show 1 + r.length = r.length + 1
        omega
    rw [e1, List.length_map, hl]
    show (many : Int).toNat + (many : Int).toNat * 0 ≤ 16777216
    omega
end
end K02

set_option maxHeartbeats 4000000
namespace K02
open PySem PySem.Spec PyProof.Rows L2 HG
def okB (m : Nat) (z : Str) : Bool := decide (z.length ≤ m) && (cp z).all (fun c => decide (c < 128))
theorem OkS.of {m : Nat} {z : Str} (h : okB m z = true) : OkS m z := by
  unfold okB at h
  simp only [Bool.and_eq_true, decide_eq_true_eq, List.all_eq_true] at h
  exact ⟨h.1, h.2⟩
theorem ok_mem {m : Nat} {xs : List Str} (h : xs.all (okB m) = true) {y : V} (hy : y ∈ xs.map V.str) : ∃ z, y = .str z ∧ OkS m z := by
  obtain ⟨z, hz, rfl⟩ := List.mem_map.mp hy
  exact ⟨z, rfl, OkS.of (List.all_eq_true.mp h z hz)⟩
theorem few {m : Nat} {z : Str} (h : OkS m z) (hm : m ≤ 1000) : z.length ≤ sizeLine := Nat.le_trans h.len (Nat.le_trans hm (by decide))
section
variable {P : Program} {w : World} {K : PySem.W.Frag} {mg : Str → Option Value} {base : Heap}
theorem c_draw (T : Txt K mg) : Cal P w K mg base "_law_draw" 1 ["_law_deck_here", "_law_many"] spDraw := ⟨ok_draw T, T.g _ (by decide), by obtain ⟨fd, F⟩ := T.d__law_draw; exact F.kp⟩
theorem c_pick (T : Txt K mg) : Cal P w K mg base "_law_pick" 2 ["_law_deck_here", "_law_some"] (spPick K) := ⟨ok_pick T, T.g _ (by decide), by obtain ⟨fd, F⟩ := T.d__law_pick; exact F.kp⟩
theorem c_letters (T : Txt K mg) : Cal P w K mg base "_law_letters" 3 ["_law_deck_here", "_law_many"] spLetters := ⟨ok_letters T, T.g _ (by decide), by obtain ⟨fd, F⟩ := T.d__law_letters; exact F.kp⟩
/-! ### _law_bent -/
def spBent : Sp := fun vs H Q _ => ∃ (d c : Addr) (n : Nat) (z : Str), vs = [.ref d, .str z] ∧ OkS 12 z ∧ n + 3 < 2 ^ 60 ∧ Deck d c n H ∧
  ∀ (y : Str) (H' : Hp), OkS 25 y → Deck d c (n + 3) H' → Ext d c H H' → Q (.str y) H'
theorem ok_bent (T : Txt K mg) : ∃ fd, FnOk P w K mg base CX0 3 (He.ga K "_law_bent") fd ["_law_deck_here", "_law_word"] spBent ∧ Binds K fd ["_law_deck_here", "_law_word"] [] := by
  obtain ⟨fd, F⟩ := T.d__law_bent
  have C__law_draw := c_draw (P := P) (w := w) (base := base) T
  have C__law_pick := c_pick (P := P) (w := w) (base := base) T
  refine ⟨fd, F.ok sc__law_bent (fun vs H Q E h => ?_) (fun cdv A outer s H vs Q E hr h => ?_), F.bindsN fun _ _ _ _ _ _ us hl => match us, hl with | [_, _], _ => rfl⟩
  · obtain ⟨d, c, n, z, rfl, _⟩ := h
    rfl
  obtain ⟨d, c, n, z, rfl, hz, hn, dk, q⟩ := h
  refine ⟨_, PSs.nox (pss_cons (ps_set (i := 2) sc__law_bent.nd rfl (.inl rfl) (pe_cal C__law_draw (hr.mono (by omega)) (by rfl) (pa_cons (pv 0) (pa_cons (pe_op op_add (pe_callB call_len (by rfl) T.n_len (by decide +kernel) (pa_cons (pv 1) pa_nil)) pe_int) pa_nil))))
      (pss_cons (ps_set (i := 3) sc__law_bent.nd rfl (.inl rfl) (pe_cal C__law_pick (hr.mono (by omega)) (by rfl) (pa_cons (pv 0) (pa_cons pe_str pa_nil))))
      (pss_cons (ps_set (i := 4) sc__law_bent.nd rfl (.inl rfl) (pe_cal C__law_draw (hr.mono (by omega)) (by rfl) (pa_cons (pv 0) (pa_cons pe_int pa_nil))))
      (pss_cons (ps_if (pt_cmpR op_eq (pv 4) pe_int (nomark _)) (pss_one (ps_ret (pe_op op_add_str (pe_op op_add_str (pe_slice sl_str (pv 1) po_none (po_some (pv 2))) (pv 3)) (pe_slice sl_str (pv 1) (po_some (pe_op op_add (pv 2) pe_int)) po_none)))) pss_nil)
      (pss_cons (ps_if (pt_cmpR op_eq (pv 4) pe_int (nomark _)) (pss_one (ps_ret (pe_op op_add_str (pe_op op_add_str (pe_slice sl_str (pv 1) po_none (po_some (pv 2))) (pv 3)) (pe_slice sl_str (pv 1) (po_some (pv 2)) po_none)))) pss_nil)
      (pss_one (ps_ret (pe_op op_add_str (pe_slice sl_str (pv 1) po_none (po_some (pv 2))) (pe_slice sl_str (pv 1) (po_some (pe_op op_add (pv 2) pe_int)) po_none))))))))), ?_⟩
  have hzl := few hz (by decide)
  have hz12 := hz.len
  have big : (1000 : Int) < 10 ^ 40 := by decide
  refine ⟨.ref d, rfl, .str z, rfl, .str z, z.length, rfl, ⟨hzl, rfl⟩, _, 1, rfl, rfl, d, c, n, _, rfl, by omega, by omega, by omega, dk, fun r H1 r0 r1 dk1 X1 => ?_⟩
  refine ⟨.ref d, rfl, d, c, n + 1, _, rfl, by omega, dk1, .inl ⟨_, rfl, by decide, by decide, fun ch H2 hch dk2 X2 => ?_⟩⟩
  have ok1 : OkS 1 ⟨#[ch]⟩ := OkS.one ((show ∀ ch ∈ cp ("AZ09 ._-@()az{`\n" : Str), ch < 128 by decide +kernel) ch hch)
  refine ⟨.ref d, rfl, d, c, n + 2, 3, rfl, by decide, by decide, by omega, dk2, fun x H3 x0 x1 dk3 X3 => ?_⟩
  have X := (X1.trans X2).trans X3
  refine ⟨.int x, rfl, rfl, _, rfl, ite2 (fun e => ?_) (fun e => ?_)⟩
  · have o1 := (hz.cut none (some r)).app ok1
    have o2 := o1.app (hz.cut (some (r + 1)) none)
    exact ⟨.str z, rfl, .int r, rfl, r, rfl, z, rfl, hzl, .str ⟨#[ch]⟩, rfl, _, _, rfl, rfl, (Str.length_append _ _) ▸ few o1 (by decide), .str z, rfl, .int r, rfl, r, 1, rfl, rfl, r + 1, rfl, z, rfl, hzl, _, _, rfl, rfl, (Str.length_append _ _) ▸ few o2 (by decide), q _ _ o2 dk3 X⟩
  refine ⟨.int x, rfl, rfl, _, rfl, ite2 (fun e => ?_) (fun e => ?_)⟩
  · have o1 := (hz.cut none (some r)).app ok1
    have o2 := o1.app (hz.cut (some r) none)
    exact ⟨.str z, rfl, .int r, rfl, r, rfl, z, rfl, hzl, .str ⟨#[ch]⟩, rfl, _, _, rfl, rfl, (Str.length_append _ _) ▸ few o1 (by decide), .str z, rfl, .int r, rfl, r, rfl, z, rfl, hzl, _, _, rfl, rfl, (Str.length_append _ _) ▸ few o2 (by decide), q _ _ o2 dk3 X⟩
  · have o2 := (hz.cut none (some r)).app (hz.cut (some (r + 1)) none)
    exact ⟨.str z, rfl, .int r, rfl, r, rfl, z, rfl, hzl, .str z, rfl, .int r, rfl, r, 1, rfl, rfl, r + 1, rfl, z, rfl, hzl, _, _, rfl, rfl, (Str.length_append _ _) ▸ few o2 (by decide), q _ _ (o2.up (by decide)) dk3 X⟩
/-! ### _law_string -/
def spString : Sp := fun vs H Q _ => ∃ (d c : Addr) (n : Nat), vs = [.ref d] ∧ n + 110 < 2 ^ 60 ∧ Deck d c n H ∧
  ∀ (y : Str) (H' : Hp), OkS 25 y → Deck d c (n + 110) H' → Ext d c H H' → Q (.str y) H'
theorem pick2 {a b : Int} {i : Int} (h : i = 0 ∨ i = 1) : ∃ m : Int, atI [V.int a, V.int b] i = some (.int m) ∧ (m = a ∨ m = b) := by
  rcases h with rfl | rfl
  · exact ⟨a, rfl, .inl rfl⟩
  · exact ⟨b, rfl, .inr rfl⟩
theorem ok_string (T : Txt K mg) : ∃ fd, FnOk P w K mg base CX0 4 (He.ga K "_law_string") fd ["_law_deck_here"] spString ∧ Binds K fd ["_law_deck_here"] [] := by
  obtain ⟨fd, F⟩ := T.d__law_string
  have C__law_draw := c_draw (P := P) (w := w) (base := base) T
  have C__law_pick := c_pick (P := P) (w := w) (base := base) T
  have C__law_letters := c_letters (P := P) (w := w) (base := base) T
  have C__law_bent : Cal P w K mg base "_law_bent" 3 ["_law_deck_here", "_law_word"] spBent := ⟨ok_bent T, T.g _ (by decide), by obtain ⟨fd, F⟩ := T.d__law_bent; exact F.kp⟩
  refine ⟨fd, F.ok sc__law_string (fun vs H Q E h => ?_) (fun cdv A outer s H vs Q E hr h => ?_), F.bindsN fun _ _ _ _ _ _ us hl => match us, hl with | [_], _ => rfl⟩
  · obtain ⟨d, c, n, rfl, _⟩ := h
    rfl
  obtain ⟨d, c, n, rfl, hn, dk, q⟩ := h
  refine ⟨_, PSs.nox (pss_cons (ps_set (i := 1) sc__law_string.nd rfl (.inl rfl) (pe_cal C__law_draw (hr.mono (by omega)) (by rfl) (pa_cons (pv 0) (pa_cons pe_int pa_nil))))
      (pss_cons (ps_if (pt_cmpR op_eq (pv 1) pe_int (nomark _)) (pss_cons (ps_set (i := 2) sc__law_string.nd rfl (.inl rfl) (pe_lst (pa_cons pe_str (pa_cons pe_str (pa_cons pe_str (pa_cons pe_str (pa_cons pe_str (pa_cons pe_str (pa_cons pe_str (pa_cons pe_str (pa_cons pe_str (pa_cons pe_str (pa_cons pe_str pa_nil)))))))))))))
      (pss_one (ps_ret (pe_cal C__law_pick (hr.mono (by omega)) (by rfl) (pa_cons (pv 0) (pa_cons (pv 2) pa_nil)))))) pss_nil)
      (pss_cons (ps_set (i := 3) sc__law_string.nd rfl (.inl rfl) (pe_cal C__law_letters (hr.mono (by omega)) (by rfl) (pa_cons (pv 0) (pa_cons (pe_op op_add pe_int (pe_cal C__law_draw (hr.mono (by omega)) (by rfl) (pa_cons (pv 0) (pa_cons (pe_ix ix_list (pe_lst (pa_cons pe_int (pa_cons pe_int pa_nil))) (pe_op op_mod (pv 1) pe_int) (fun _ _ => rfl)) pa_nil)))) pa_nil))))
      (pss_cons (ps_if (pt_cmpR op_gt (pv 1) pe_int (nomark _)) (pss_one (ps_ret (pe_cal C__law_bent (hr.mono (by omega)) (by rfl) (pa_cons (pv 0) (pa_cons (pv 3) pa_nil))))) pss_nil)
      (pss_one (ps_ret (pv 3))))))), ?_⟩
  have big : (1000 : Int) < 10 ^ 40 := by decide
  refine ⟨.ref d, rfl, d, c, n, 6, rfl, by decide, by decide, by omega, dk, fun x H1 x0 x1 dk1 X1 => ?_⟩
  refine ⟨.int x, rfl, rfl, _, rfl, ite2 (fun e => ?_) (fun e => ?_)⟩
  · refine ⟨by show 11 ≤ sizeLine; decide, fun a ha => ?_⟩
    have hs := dk1.has ha
    refine ⟨.ref d, rfl, .ref a, rfl, d, c, n + 1, .ref a, rfl, by omega, dk1.new ha, .inr ⟨a, _, rfl, .inl (.inl ((off_get hs.1 hs.2).trans upd_same)), (by show 0 < 11; decide), (by show 11 ≤ 1000; decide), fun y H' hy dk' X' => ?_⟩⟩
    obtain ⟨z, rfl, hz⟩ := ok_mem (m := 25) (xs := ["start", "starts", "star", "tart", "Start", "start ", "", "let", "end", "a", "z"]) (by decide +kernel) hy
    exact q z H' hz (dk'.up (by omega)) ((X1.trans (Ext.new ha)).trans X')
  · refine ⟨.ref d, rfl, .ref d, rfl, by show 2 ≤ sizeLine; decide, fun p hp => ?_⟩
    have hx : x % 2 = 0 ∨ x % 2 = 1 := by omega
    obtain ⟨m, hm, h8⟩ := pick2 (a := 8) (b := 12) hx
    refine ⟨.int x, rfl, _, _, rfl, rfl, (by decide : (0 : Int) < 2), p, _, _, .int m, rfl, rfl, .inl (.inl upd_same), hm, ?_⟩
    refine ⟨d, c, n + 1, m, rfl, by omega, by omega, by omega, dk1.new hp, fun r H2 r0 r1 dk2 X2 => ?_⟩
    obtain ⟨j, rfl⟩ := Int.eq_ofNat_of_zero_le r0
    refine ⟨1, j, rfl, rfl, d, c, n + 2, 1 + j, rfl, by omega, by omega, dk2, fun z H3 hl hz dk3 X3 => ?_⟩
    have X := (X1.trans (Ext.new hp)).trans (X2.trans X3)
    have hz12 : OkS 12 z := hz.up (by omega)
    refine ⟨.int x, rfl, x, 3, rfl, rfl, _, rfl, ite2 (fun e => ?_) (fun e => ?_)⟩
    · exact ⟨.ref d, rfl, .str z, rfl, d, c, n + 2 + 100, z, rfl, hz12, by omega, dk3, fun y H4 hy dk4 X4 => q y H4 hy (dk4.up (by omega)) (X.trans X4)⟩
    · exact ⟨.str z, rfl, q z H3 (hz12.up (by decide)) (dk3.up (by omega)) X⟩
/-! ### _law_integer -/
def spInteger : Sp := fun vs H Q _ => ∃ (d c : Addr) (n : Nat), vs = [.ref d] ∧ n + 2 < 2 ^ 60 ∧ Deck d c n H ∧
  ∀ (i : Int) (H' : Hp), -(10 ^ 40) < i → i < 10 ^ 40 → Deck d c (n + 2) H' → Ext d c H H' → Q (.int i) H'
theorem ok_integer (T : Txt K mg) : ∃ fd, FnOk P w K mg base CX0 2 (He.ga K "_law_integer") fd ["_law_deck_here"] spInteger ∧ Binds K fd ["_law_deck_here"] [] := by
  obtain ⟨fd, F⟩ := T.d__law_integer
  have C__law_draw := c_draw (P := P) (w := w) (base := base) T
  refine ⟨fd, F.ok sc__law_integer (fun vs H Q E h => ?_) (fun cdv A outer s H vs Q E hr h => ?_), F.bindsN fun _ _ _ _ _ _ us hl => match us, hl with | [_], _ => rfl⟩
  · obtain ⟨d, c, n, rfl, _⟩ := h
    rfl
  obtain ⟨d, c, n, rfl, hn, dk, q⟩ := h
  refine ⟨_, PSs.nox (pss_cons (ps_set (i := 1) sc__law_integer.nd rfl (.inl rfl) (pe_cal C__law_draw (hr.mono (by omega)) (by rfl) (pa_cons (pv 0) (pa_cons pe_int pa_nil))))
      (pss_cons (ps_if (pt_cmpR op_eq (pv 1) pe_int (nomark _)) (pss_one (ps_ret (pe_op op_sub (pe_cal C__law_draw (hr.mono (by omega)) (by rfl) (pa_cons (pv 0) (pa_cons pe_int pa_nil))) pe_int))) pss_nil)
      (pss_cons (ps_if (pt_cmpR op_eq (pv 1) pe_int (nomark _)) (pss_one (ps_ret (pe_op op_sub (pe_op op_add pe_int (pe_cal C__law_draw (hr.mono (by omega)) (by rfl) (pa_cons (pv 0) (pa_cons pe_int pa_nil)))) pe_int))) pss_nil)
      (pss_cons (ps_if (pt_cmpR op_eq (pv 1) pe_int (nomark _)) (pss_one (ps_ret (pe_op op_sub pe_int (pe_cal C__law_draw (hr.mono (by omega)) (by rfl) (pa_cons (pv 0) (pa_cons (pe_op op_pow pe_int pe_int) pa_nil)))))) pss_nil)
      (pss_one (ps_ret (pe_cal C__law_draw (hr.mono (by omega)) (by rfl) (pa_cons (pv 0) (pa_cons (pe_ix ix_list (pe_lst (pa_cons pe_int (pa_cons (pe_op op_pow pe_int pe_int) pa_nil))) (pe_op op_sub (pv 1) pe_int) (fun _ _ => rfl)) pa_nil))))))))), ?_⟩
  have big : (100000 : Int) < 10 ^ 39 := by decide
  have big2 : (10 : Int) ^ 39 < 10 ^ 40 := by decide
  refine ⟨.ref d, rfl, d, c, n, 5, rfl, by decide, by decide, by omega, dk, fun x H1 x0 x1 dk1 X1 => ?_⟩
  refine ⟨.int x, rfl, rfl, _, rfl, ite2 (fun e0 => ?_) (fun e0 => ?_)⟩
  · exact ⟨.ref d, rfl, d, c, n + 1, 4, rfl, by decide, by decide, by omega, dk1, fun r H2 r0 r1 dk2 X2 => ⟨r, 2, rfl, rfl, q _ _ (by omega) (by omega) dk2 (X1.trans X2)⟩⟩
  refine ⟨.int x, rfl, rfl, _, rfl, ite2 (fun e1 => ?_) (fun e1 => ?_)⟩
  · exact ⟨.ref d, rfl, d, c, n + 1, 5, rfl, by decide, by decide, by omega, dk1, fun r H2 r0 r1 dk2 X2 => ⟨65535, r, rfl, rfl, _, 2, rfl, rfl, q _ _ (by omega) (by omega) dk2 (X1.trans X2)⟩⟩
  refine ⟨.int x, rfl, rfl, _, rfl, ite2 (fun e2 => ?_) (fun e2 => ?_)⟩
  · exact ⟨.ref d, rfl, 10, 39, rfl, rfl, ⟨by decide, by decide, by decide⟩, d, c, n + 1, _, rfl, by decide, by decide, by omega, dk1, fun r H2 r0 r1 dk2 X2 => ⟨0, r, rfl, rfl, q _ _ (by have : r < 10 ^ 39 := r1; omega) (by omega) dk2 (X1.trans X2)⟩⟩
  have n0 : x ≠ 0 := fun z => e0 (decide_eq_true (congrArg V.int z))
  have n1 : x ≠ 1 := fun z => e1 (decide_eq_true (congrArg V.int z))
  have n2 : x ≠ 2 := fun z => e2 (decide_eq_true (congrArg V.int z))
  refine ⟨.ref d, rfl, 10, 39, rfl, rfl, ⟨by decide, by decide, by decide⟩, by show 2 ≤ sizeLine; decide, fun p hp => ?_⟩
  have hx : x - 3 = 0 ∨ x - 3 = 1 := by omega
  obtain ⟨m, hm, h8⟩ := pick2 (a := 65536) (b := 10 ^ 39) hx
  refine ⟨.int x, rfl, _, _, rfl, rfl, p, _, _, .int m, rfl, rfl, .inl (.inl upd_same), hm, ?_⟩
  exact ⟨d, c, n + 1, m, rfl, by omega, by omega, by omega, dk1.new hp, fun r H2 r0 r1 dk2 X2 => q _ _ (by omega) (by omega) dk2 ((X1.trans (Ext.new hp)).trans X2)⟩
end
end K02

set_option maxHeartbeats 4000000
namespace K02
open PySem PySem.Spec PyProof.Rows L2 HG
/-! ### how much a value shows -/
structure Sz (m : Nat) (D : PyData) : Prop where
  sh : D.showable = true
  dp : D.depth ≤ m
  ln : D.shown.length ≤ 3000 * 5 ^ m
  sl : ∀ z, D = .str z → z.length ≤ 1000
theorem pow5 (m : Nat) : 1 ≤ 5 ^ m := Nat.one_le_pow _ _ (by decide)
theorem Sz.up {m n : Nat} {D : PyData} (h : Sz m D) (hn : m ≤ n) : Sz n D :=
  ⟨h.sh, Nat.le_trans h.dp hn, Nat.le_trans h.ln (Nat.mul_le_mul_left _ (Nat.pow_le_pow_right (by decide) hn)), h.sl⟩
theorem Sz.non (m : Nat) : Sz m .none := ⟨by simp only [PyData.showable], by simp only [PyData.depth]; omega, by
  have e : (PyData.shown .none).length = 4 := rfl
  have := pow5 m
  omega, nofun⟩
theorem Sz.bl (m : Nat) (b : Bool) : Sz m (.bool b) := ⟨by simp only [PyData.showable], by simp only [PyData.depth]; omega, by
  have e : (PyData.shown (.bool b)).length ≤ 5 := by cases b <;> decide
  have := pow5 m
  omega, nofun⟩
theorem Sz.str (m : Nat) {z : Str} (h : OkS 25 z) : Sz m (.str z) := ⟨by simp only [PyData.showable], by simp only [PyData.depth]; omega, by
  have e : (PyData.shown (.str z)).length ≤ 252 := by
    simp only [PyData.shown]
    have := h.repr
    omega
  have := pow5 m
  omega, fun y e => by cases e; exact Nat.le_trans h.len (by decide)⟩
theorem log_small {i : Int} (h1 : -(10 ^ 40) < i) (h2 : i < 10 ^ 40) : i.natAbs.log2 < 1920 := by
  have h : i.natAbs < 2 ^ 200 := by
    have e : (10 : Int) ^ 40 < 2 ^ 200 := by decide
    omega
  exact Nat.lt_of_lt_of_le (PySem.Flt.log2_lt_of (by decide) h) (by decide)
theorem Sz.int (m : Nat) {i : Int} (h1 : -(10 ^ 40) < i) (h2 : i < 10 ^ 40) : Sz m (.int i) := by
  have hl := log_small h1 h2
  refine ⟨by simp only [PyData.showable]; exact decide_eq_true hl, by simp only [PyData.depth]; omega, ?_, nofun⟩
  have e := int_text_len_1921 hl
  have := pow5 m
  simp only [PyData.shown]
  omega
theorem sz_all {m : Nat} : ∀ {ds : List PyData}, (∀ d ∈ ds, Sz m d) → PyData.showableAll ds = true ∧ PyData.depthAll ds ≤ m ∧ ((PyData.shownAll ds).map (·.length)).sum ≤ ds.length * (3000 * 5 ^ m) ∧ (PyData.shownAll ds).length = ds.length
  | [], _ => ⟨by simp only [PyData.showableAll], by simp only [PyData.depthAll]; omega, by simp only [PyData.shownAll, List.map_nil, List.sum_nil]; omega, by simp only [PyData.shownAll, List.length_nil]⟩
  | d :: ds, h => by
    obtain ⟨a, b, c, e⟩ := sz_all (ds := ds) fun x hx => h x (List.mem_cons_of_mem _ hx)
    have q := h d List.mem_cons_self
    have q1 := q.sh
    have q2 := q.dp
    have q3 := q.ln
    refine ⟨by simp only [PyData.showableAll, q1, a, Bool.and_self], by simp only [PyData.depthAll]; omega, ?_, by simp only [PyData.shownAll, List.length_cons, e]⟩
    simp only [PyData.shownAll, List.map_cons, List.sum_cons, List.length_cons]
    rw [Nat.add_mul, Nat.one_mul]
    omega
theorem sz_list {m : Nat} {ds : List PyData} (h : ∀ d ∈ ds, Sz m d) (hl : ds.length ≤ 2) : Sz (m + 1) (.list ds) := by
  obtain ⟨a, b, c, e⟩ := sz_all h
  have h3 := listText_len_le (PyData.shownAll ds)
  have p := pow5 m
  have hc : ds.length * (3000 * 5 ^ m) ≤ 2 * (3000 * 5 ^ m) := Nat.mul_le_mul_right _ hl
  refine ⟨by simp only [PyData.showable, a], by simp only [PyData.depth]; omega, ?_, nofun⟩
  simp only [PyData.shown]
  rw [Nat.pow_succ]
  omega
theorem sz_tuple {m : Nat} {ds : List PyData} (h : ∀ d ∈ ds, Sz m d) (hl : ds.length ≤ 2) : Sz (m + 1) (.tuple ds) := by
  obtain ⟨a, b, c, e⟩ := sz_all h
  have h3 := tupleText_len_le (PyData.shownAll ds)
  have p := pow5 m
  have hc : ds.length * (3000 * 5 ^ m) ≤ 2 * (3000 * 5 ^ m) := Nat.mul_le_mul_right _ hl
  refine ⟨by simp only [PyData.showable, a], by simp only [PyData.depth]; omega, ?_, nofun⟩
  simp only [PyData.shown]
  rw [Nat.pow_succ]
  omega
theorem ite_two {σ : L2.St} {H : Hp} {Q : VK} {b : Bool} {i j : Int} (h : ∀ m : Int, (b = true ∧ m = i ∨ b = false ∧ m = j) → Q (.int m) H) : if b = true then tC (.int i) σ H Q else tC (.int j) σ H Q := by
  cases b with
  | true => exact iteT (h i (.inl ⟨rfl, rfl⟩))
  | false => exact iteF (h j (.inr ⟨rfl, rfl⟩))
theorem pickV {a b : V} {i : Int} (h : i = 0 ∨ i = 1) : ∃ m : V, atI [a, b] i = some m ∧ (m = a ∨ m = b) := by
  rcases h with rfl | rfl
  · exact ⟨a, rfl, .inl rfl⟩
  · exact ⟨b, rfl, .inr rfl⟩
theorem grow {d c : Addr} {n : Nat} {H H' : Hp} (X : Ext d c H H') (D : Deck d c n H') {b : Addr} (h : H' b = none) : H b = none := by
  obtain ⟨ns, l, m, t, e1, e2, r⟩ := D.ex
  by_cases b1 : b = d
  · subst b1; rw [e1] at h; cases h
  by_cases b2 : b = c
  · subst b2; rw [e2] at h; cases h
  cases q : H b with
  | none => rfl
  | some o => rw [X.at b1 b2 q] at h; cases h
section
variable {P : Program} {w : World} {K : PySem.W.Frag} {mg : Str → Option Value} {base : Heap}
/-! ### _law_value -/
def spValue (K : PySem.W.Frag) : Nat → Sp
  | 0 => fun _ _ _ _ => False
  | m + 1 => fun vs H Q _ => ∃ (d c : Addr) (n k : Nat), vs = [.ref d, .int k] ∧ k ≤ m ∧ n + 200 * 4 ^ m < 2 ^ 60 ∧ Deck d c n H ∧
    ∀ (v : V) (D : PyData) (H' : Hp), Dp K (news H H') v D → Sz m D → Deck d c (n + 200 * 4 ^ m) H' → Ext d c H H' → Q v H'
theorem ok_value (T : Txt K mg) : ∀ m : Nat, ∃ fd, FnOk P w K mg base CX0 (5 + m) (He.ga K "_law_value") fd ["_law_deck_here", "_law_deep"] (spValue K m) ∧ Binds K fd ["_law_deck_here", "_law_deep"] []
  | 0 => by
    obtain ⟨fd, F⟩ := T.d__law_value
    exact ⟨fd, ⟨fun _ _ _ _ h => h.elim, fun _ _ _ _ _ _ _ _ _ _ _ _ _ h => h.elim⟩, F.bindsN fun _ _ _ _ _ _ us hl => match us, hl with | [_, _], _ => rfl⟩
  | m + 1 => by
    have C__law_value : Cal P w K mg base "_law_value" (5 + m) ["_law_deck_here", "_law_deep"] (spValue K m) := ⟨ok_value T m, T.g _ (by decide), by obtain ⟨fd, F⟩ := T.d__law_value; exact F.kp⟩
    have C__law_draw := c_draw (P := P) (w := w) (base := base) T
    have C__law_pick := c_pick (P := P) (w := w) (base := base) T
    have C__law_string : Cal P w K mg base "_law_string" 4 ["_law_deck_here"] spString := ⟨ok_string T, T.g _ (by decide), by obtain ⟨fd, F⟩ := T.d__law_string; exact F.kp⟩
    have C__law_integer : Cal P w K mg base "_law_integer" 2 ["_law_deck_here"] spInteger := ⟨ok_integer T, T.g _ (by decide), by obtain ⟨fd, F⟩ := T.d__law_integer; exact F.kp⟩
    obtain ⟨fd, F⟩ := T.d__law_value
    refine ⟨fd, F.ok (k := 5 + m) sc__law_value (fun vs H Q E h => ?_) (fun cdv A outer s H vs Q E hr h => ?_), F.bindsN fun _ _ _ _ _ _ us hl => match us, hl with | [_, _], _ => rfl⟩
    · obtain ⟨d, c, n, k, rfl, _⟩ := h
      rfl
    obtain ⟨d, c, n, k, rfl, hk, hn, dk, q⟩ := h
    have p4 : 1 ≤ 4 ^ m := Nat.one_le_pow _ _ (by decide)
    refine ⟨_, PSs.nox (pss_cons (ps_set (i := 2) sc__law_value.nd rfl (.inl rfl) (pe_cal C__law_draw (hr.mono (by omega)) (by rfl) (pa_cons (pv 0) (pa_cons (pe_ifExp (pt_cmpR op_gt (pv 1) pe_int (nomark _)) pe_int pe_int) pa_nil))))
      (pss_cons (ps_if (pt_cmpR op_lt (pv 2) pe_int (nomark _)) (pss_one (ps_ret (pe_cal C__law_string (hr.mono (by omega)) (by rfl) (pa_cons (pv 0) pa_nil)))) pss_nil)
      (pss_cons (ps_if (pt_cmpR op_lt (pv 2) pe_int (nomark _)) (pss_one (ps_ret (pe_cal C__law_integer (hr.mono (by omega)) (by rfl) (pa_cons (pv 0) pa_nil)))) pss_nil)
      (pss_cons (ps_if (pt_cmpR op_eq (pv 2) pe_int (nomark _)) (pss_one (ps_ret (pe_cal C__law_pick (hr.mono (by omega)) (by rfl) (pa_cons (pv 0) (pa_cons (pe_lst (pa_cons pe_non (pa_cons pe_bl (pa_cons pe_bl (pa_cons pe_bl (pa_cons pe_bl pa_nil)))))) pa_nil))))) pss_nil)
      (pss_cons (ps_setLc (i := 3) (own := [("_law_k", 4)]) (by rfl) sc__law_value.nd rfl rfl (sw_true rfl rfl rfl (by decide +kernel)) (pi_range1 (by rfl) T.n_range (pa_cons (pe_cal C__law_draw (hr.mono (by omega)) (by rfl) (pa_cons (pv 0) (pa_cons pe_int pa_nil))) pa_nil)) (blkOk_by (own := [("_law_k", 4)]) (N := N__law_value) (sc := defScope s__law_value) (by decide +kernel)) (fun _ _ _ _ _ => (pg_name (i := 4) sc__law_value.nd rfl (.inl rfl))) (fun _ _ _ _ _ => pts_nil) (fun _ _ _ _ _ => (pe_cal C__law_value (hr.mono (by omega)) (by rfl) (pa_cons (pv 0) (pa_cons (pe_op op_sub (pv 1) pe_int) pa_nil)))))
      (pss_one (ps_ret (pe_ix ix_list (pe_lst (pa_cons (pe_callTy call_tuple_of (by rfl) T.n_tuple (by decide +kernel) (pa_cons (pv 3) pa_nil)) (pa_cons (pv 3) pa_nil))) (pe_op op_sub (pv 2) pe_int) (fun _ _ => rfl))))))))), ?_⟩
    refine ⟨.ref d, rfl, .int k, rfl, k, 0, rfl, rfl, _, rfl, ite_two fun many hmany => ?_⟩
    have hm1 : 7 ≤ many ∧ many ≤ 9 := by omega
    refine ⟨d, c, n, many, rfl, by omega, Int.lt_of_le_of_lt hm1.2 (by decide), by omega, dk, fun x H1 x0 x1 dk1 X1 => ?_⟩
    have hk0 : 7 ≤ x → 0 < k := fun z => by
      rcases hmany with ⟨e, _⟩ | ⟨_, e⟩
      · have := of_decide_eq_true e
        omega
      · omega
    refine ⟨.int x, rfl, x, 3, rfl, rfl, _, rfl, ite2 (fun e => ?_) (fun e3 => ?_)⟩
    · exact ⟨.ref d, rfl, d, c, n + 1, rfl, by omega, dk1, fun y H2 hy dk2 X2 => q (.str y) (.str y) H2 (.str y) (Sz.str _ hy) (dk2.up (by omega)) (X1.trans X2)⟩
    refine ⟨.int x, rfl, x, 6, rfl, rfl, _, rfl, ite2 (fun e => ?_) (fun e6 => ?_)⟩
    · exact ⟨.ref d, rfl, d, c, n + 1, rfl, by omega, dk1, fun i H2 i1 i2 dk2 X2 => q (.int i) (.int i) H2 (.int i) (Sz.int _ i1 i2) (dk2.up (by omega)) (X1.trans X2)⟩
    refine ⟨.int x, rfl, rfl, _, rfl, ite2 (fun e => ?_) (fun e7 => ?_)⟩
    · refine ⟨.ref d, rfl, (by show 5 ≤ sizeLine; decide), fun a ha => ?_⟩
      have hs := dk1.has ha
      refine ⟨d, c, n + 1, .ref a, rfl, by omega, dk1.new ha, .inr ⟨a, _, rfl, .inl (.inl ((off_get hs.1 hs.2).trans upd_same)), (by show 0 < 5; decide), (by show 5 ≤ 1000; decide), fun y H' hy dk' X' => ?_⟩⟩
      have X := (X1.trans (Ext.new ha)).trans X'
      have hd : Deck d c (n + 200 * 4 ^ m) H' := dk'.up (by omega)
      simp only [List.mem_cons, List.not_mem_nil, or_false] at hy
      rcases hy with rfl | rfl | rfl | rfl | rfl
      · exact q _ _ _ .non (Sz.non _) hd X
      all_goals exact q _ _ _ (.bl _) (Sz.bl _ _) hd X
    have hx : x - 7 = 0 ∨ x - 7 = 1 := by
      have a1 : ¬ x < 6 := fun z => e6 (decide_eq_true z)
      have a2 : x ≠ 6 := fun z => e7 (decide_eq_true (congrArg V.int z))
      omega
    have hkp := hk0 (by omega)
    obtain ⟨m', rfl⟩ : ∃ m', m = m' + 1 := ⟨m - 1, by omega⟩
    have p4' : 1 ≤ 4 ^ m' := Nat.one_le_pow _ _ (by decide)
    have e4 : 4 ^ (m' + 1) = 4 * 4 ^ m' := by rw [Nat.pow_succ, Nat.mul_comm]
    -- range(draw(deck, 3))
    refine ⟨.ref d, rfl, d, c, n + 1, 3, rfl, by decide, by decide, by omega, dk1, fun r H2 r0 r1 dk2 X2 => ⟨r, rfl, by omega, by omega, fun D hD => ?_⟩⟩
    have X12 := X1.trans X2
    have nd := dk2.has hD
    have hDH : H D = none := grow X12 dk2 hD
    refine lc_range (lo := 0) (n := r.toNat) (fun i H3 => ∃ vs ds, vs.length = i ∧ H3 D = some (.lst vs) ∧ DpAll K (news (upd H D (.lst [])) H3) vs ds ∧ (∀ e ∈ ds, Sz m' e) ∧ Deck d c (n + 2 + i * (200 * 4 ^ m')) H3 ∧ Ext d c H H3) ?_ ?_ ?_
    · exact ⟨[], [], rfl, upd_same, .nil, (fun _ h => nomatch h), by rw [Nat.zero_mul]; exact dk2.new hD, X12.trans (Ext.new hD)⟩
    · rintro i H3 hi ⟨vs, ds, hl, hD3, hA, hsz, dk3, X3⟩
      have ek : ((k : Nat) : Int) - 1 = ((k - 1 : Nat) : Int) := by omega
      have hi2 : i < 2 := by omega
      have hib : i * (200 * 4 ^ m') ≤ 1 * (200 * 4 ^ m') := Nat.mul_le_mul_right _ (by omega)
      refine ⟨rfl, tyes ⟨.ref d, rfl, .int k, rfl, k, 1, rfl, rfl, d, c, n + 2 + i * (200 * 4 ^ m'), k - 1, ?_, by omega, by omega, dk3, fun v D2 H4 hv hz dk4 X4 => ?_⟩⟩
      · show [V.ref d, V.int ((k : Int) - 1)] = _
        rw [ek]
      have hD4 := X4.at nd.1 nd.2 hD3
      have s1 : Same (news H3 H4) (news (upd H D (.lst [])) (upd H4 D (.lst (vs ++ [v])))) := fun b o h => by
        obtain ⟨b1, b2⟩ := news_get.mp h
        have nb : b ≠ D := (ne_of_none hD3 b1).symm
        refine news_get.mpr ⟨?_, by rw [upd_ne nb]; exact b2⟩
        rw [upd_ne nb]
        exact grow X3 dk3 b1
      have s2 : Same (news (upd H D (.lst [])) H3) (news (upd H D (.lst [])) (upd H4 D (.lst (vs ++ [v])))) := fun b o h => by
        obtain ⟨b1, b2⟩ := news_get.mp h
        have nb : b ≠ D := fun z => by rw [z, upd_same] at b1; cases b1
        have bH : H b = none := by rw [upd_ne nb] at b1; exact b1
        have nb2 := dk.has bH
        exact news_get.mpr ⟨b1, by rw [upd_ne nb]; exact X4.at nb2.1 nb2.2 b2⟩
      refine ⟨vs, hD4, small1000 (by omega), vs ++ [v], ds ++ [D2], by rw [List.length_append, hl]; rfl, upd_same, dpAll_app (dpAll_mono s2 _ _ hA) (.cons (dp_mono s1 _ _ hv) .nil), fun e he => ?_, ?_, (X3.trans X4).mut hDH⟩
      · rcases List.mem_append.mp he with z | z
        · exact hsz e z
        · rw [List.mem_singleton.mp z]
          exact hz
      · rw [Nat.add_mul, Nat.one_mul, ← Nat.add_assoc]
        exact dk4.upd nd.1 nd.2
    · rintro H3 ⟨vs, ds, hl, hD3, hA, hsz, dk3, X3⟩
      have hr2 : r.toNat ≤ 2 := by omega
      have hib : r.toNat * (200 * 4 ^ m') ≤ 2 * (200 * 4 ^ m') := Nat.mul_le_mul_right _ hr2
      have hdl : ds.length ≤ 2 := by rw [← dpAll_len hA, hl]; exact hr2
      -- [tuple(some), some][way - 7]
      refine ⟨.ref D, rfl, D, vs, rfl, .inl ⟨.inl (.inl hD3), fun l hl1 => ?_⟩⟩
      refine ⟨.ref D, rfl, (by show 2 ≤ sizeLine; decide), fun p hp => ?_⟩
      obtain ⟨mv, hm, h8⟩ := pickV (a := .ref l) (b := .ref D) hx
      refine ⟨.int x, rfl, _, _, rfl, rfl, p, _, _, mv, rfl, rfl, .inl (.inl upd_same), hm, ?_⟩
      have dkl := dk3.new (o := .tup vs) hl1
      have dkp := dkl.new (o := .lst [.ref l, .ref D]) hp
      have Xl : Ext d c H (upd H3 l (.tup vs)) := X3.trans (Ext.new hl1)
      have Xp := Xl.trans (Ext.new (o := .lst [.ref l, .ref D]) hp)
      have hlH : H l = none := grow X3 dk3 hl1
      have lD : D ≠ l := ne_of_none hD3 hl1
      have lp : l ≠ p := fun z => by rw [← z, upd_same] at hp; cases hp
      have Dp' : D ≠ p := fun z => by rw [← z, upd_ne lD, hD3] at hp; cases hp
      have s3 : Same (news (upd H D (.lst [])) H3) (news H (upd (upd H3 l (.tup vs)) p (.lst [.ref l, .ref D]))) := fun b o h => by
        obtain ⟨b1, b2⟩ := news_get.mp h
        have nb : b ≠ D := fun z => by rw [z, upd_same] at b1; cases b1
        rw [upd_ne nb] at b1
        exact news_get.mpr ⟨b1, upd_get hp (upd_get hl1 b2)⟩
      have hA' := dpAll_mono s3 _ _ hA
      rcases h8 with rfl | rfl
      · refine q (.ref l) (.tuple ds) _ (.tup (.inl (.inl (news_get.mpr ⟨hlH, ?_⟩))) hA') (sz_tuple hsz hdl) (dkp.up (by omega)) Xp
        rw [upd_ne lp]
        exact upd_same
      · refine q (.ref D) (.list ds) _ (.lst (.inl (.inl (news_get.mpr ⟨hDH, ?_⟩))) hA') (sz_list hsz hdl) (dkp.up (by omega)) Xp
        exact upd_get hp (upd_get hl1 hD3)
end
end K02

set_option maxHeartbeats 4000000
namespace K02
open PySem PySem.Spec PyProof.Rows L2 HG
/-! ### what is asked -/
def wordB : PyData → Bool
  | .int i => decide (0 ≤ i) && decide (i ≤ 65535)
  | _ => false
def letB (c : Nat) : Bool := decide (c ∈ cp ("abcdefghijklmnopqrstuvwxyz" : Str))
def nameB : PyData → Bool
  | .str z => decide (1 ≤ z.length) && decide (z.length ≤ 8) && !decide (z = "start") && (cp z).all letB
  | _ => false
section
variable {P : Program} {w : World} {K : PySem.W.Frag} {mg : Str → Option Value} {base : Heap}
def spIsInt (K : PySem.W.Frag) : Sp := fun vs H Q _ => ∃ (v : V) (D : PyData), vs = [v] ∧ Dp K H v D ∧ Q (.bl (isI D && !isB D)) H
theorem ok_isint (T : Txt K mg) : ∃ fd, FnOk P w K mg base CX0 1 (He.ga K "is_integer") fd ["thing"] (spIsInt K) ∧ Binds K fd ["thing"] [] := by
  obtain ⟨fd, F⟩ := T.d_is_integer
  refine ⟨fd, F.ok sc_is_integer (fun vs H Q E h => ?_) (fun cdv A outer s H vs Q E hr h => ?_), F.bindsN fun _ _ _ _ _ _ us hl => match us, hl with | [_], _ => rfl⟩
  · obtain ⟨v, D, rfl, _⟩ := h
    rfl
  obtain ⟨v, D, rfl, hv, q⟩ := h
  refine ⟨_, PSs.nox (pss_one (ps_ret (pe_and (pe_callB call_isi (by rfl) T.n_isinstance (by decide +kernel) (pa_cons (pv 0) (pa_cons (pe_bltn (v := .ty "int") (u := .type "int") (by rfl) T.n_int (by decide +kernel) rfl) pa_nil))) (pe_one (pe_not (pe_callB call_isi (by rfl) T.n_isinstance (by decide +kernel) (pa_cons (pv 0) (pa_cons (pe_bltn (v := .ty "bool") (u := .type "bool") (by rfl) T.n_bool (by decide +kernel) rfl) pa_nil)))))))), ?_⟩
  refine ⟨v, rfl, v, .ty "int", _, _, _, rfl, .ty _, dp_ty hv, kit_ty (kit_int D), _, rfl, ?_⟩
  cases e : isI D with
  | false =>
    rw [e] at q
    exact iteF q
  | true =>
    rw [e] at q
    exact iteT ⟨v, rfl, v, .ty "bool", _, _, _, rfl, .ty _, dp_ty hv, kit_ty (kit_bool D), _, rfl, q⟩
def spIsWord (K : PySem.W.Frag) : Sp := fun vs H Q _ => ∃ (v : V) (D : PyData), vs = [v] ∧ Dp K H v D ∧ Q (.bl (wordB D)) H
theorem ok_isword (T : Txt K mg) : ∃ fd, FunD K "is_word" "is_word" (defArgs s_is_word) (defBody s_is_word) (defScope s_is_word) [] [] (He.ga K "is_word") fd ∧ FnOk P w K mg base CX0 2 (He.ga K "is_word") fd ["thing"] (spIsWord K) ∧ Binds K fd ["thing"] [] := by
  obtain ⟨fd, F⟩ := T.d_is_word
  have C_is_integer : Cal P w K mg base "is_integer" 1 ["thing"] (spIsInt K) := ⟨ok_isint T, T.g _ (by decide), by obtain ⟨fd, F⟩ := T.d_is_integer; exact F.kp⟩
  refine ⟨fd, F, F.ok sc_is_word (fun vs H Q E h => ?_) (fun cdv A outer s H vs Q E hr h => ?_), F.bindsN fun _ _ _ _ _ _ us hl => match us, hl with | [_], _ => rfl⟩
  · obtain ⟨v, D, rfl, _⟩ := h
    rfl
  obtain ⟨v, D, rfl, hv, q⟩ := h
  refine ⟨_, PSs.nox (pss_one (ps_ret (pe_and (pe_cal C_is_integer (hr.mono (by omega)) (by rfl) (pa_cons (pv 0) pa_nil)) (pe_one (pe_chain op_le op_le pe_int (pv 0) (pe_globI T.c_GREATEST_WORD rfl)))))), ?_⟩
  refine ⟨v, rfl, v, D, rfl, hv, _, rfl, ?_⟩
  cases hv with
  | int i =>
    refine iteT ⟨.int i, rfl, _, _, rfl, rfl, _, rfl, ?_⟩
    by_cases h0 : 0 ≤ i
    · have e0 : decide (0 ≤ i) = true := decide_eq_true h0
      rw [e0]
      refine iteT ⟨_, _, rfl, rfl, ?_⟩
      show Q (.bl (decide (i ≤ 65535))) H
      have e : wordB (.int i) = decide (i ≤ 65535) := by simp [wordB, h0]
      rw [← e]
      exact q
    · have e0 : decide (0 ≤ i) = false := decide_eq_false h0
      rw [e0]
      have e : wordB (.int i) = false := by simp [wordB, h0]
      rw [e] at q
      exact iteF q
  | non => exact iteF q
  | bl b => exact iteF q
  | str z => exact iteF q
  | lst _ _ => exact iteF q
  | tup _ _ => exact iteF q
def spIsName (K : PySem.W.Frag) : Sp := fun vs H Q _ => ∃ (v : V) (D : PyData), vs = [v] ∧ Dp K H v D ∧ (∀ z, D = .str z → z.length ≤ 1000) ∧ ∀ H', Same H H' → Q (.bl (nameB D)) H'
theorem ok_isname (T : Txt K mg) : ∃ fd, FunD K "is_name" "is_name" (defArgs s_is_name) (defBody s_is_name) (defScope s_is_name) [] [] (He.ga K "is_name") fd ∧ FnOk P w K mg base CX0 1 (He.ga K "is_name") fd ["thing"] (spIsName K) ∧ Binds K fd ["thing"] [] := by
  obtain ⟨fd, F⟩ := T.d_is_name
  refine ⟨fd, F, F.ok sc_is_name (fun vs H Q E h => ?_) (fun cdv A outer s H vs Q E hr h => ?_), F.bindsN fun _ _ _ _ _ _ us hl => match us, hl with | [_], _ => rfl⟩
  · obtain ⟨v, D, rfl, _⟩ := h
    rfl
  obtain ⟨v, D, rfl, hv, hz, q⟩ := h
  refine ⟨_, PSs.nox (pss_cons (ps_if (PW.pt (pw_or (pt_not (pt_val (pe_callB call_isi (by rfl) T.n_isinstance (by decide +kernel) (pa_cons (pv 0) (pa_cons (pe_bltn (v := .ty "str") (u := .type "str") (by rfl) T.n_str (by decide +kernel) rfl) pa_nil))))) (pw_or (pt_not (pt_chain op_le op_le pe_int (pe_callB call_len (by rfl) T.n_len (by decide +kernel) (pa_cons (pv 0) pa_nil)) (pe_globI T.c_LONGEST_NAME rfl))) (pw_or1 (pt_cmpR op_eq (pv 0) pe_str (nomark _)))))) (pss_one (ps_ret pe_bl)) pss_nil)
      (pss_one (ps_ret (pe_callB (cr_all rfl) (by rfl) T.n_all (by decide +kernel) (pa_cons (pe_lc (own := [("letter", 1)]) (by rfl) sc_is_name.nd (pi_str (pv 0)) (blkOk_by (own := [("letter", 1)]) (N := N_is_name) (sc := defScope s_is_name) (by decide +kernel)) (fun _ _ _ _ _ => (pg_name (i := 1) sc_is_name.nd rfl (.inl rfl))) (fun _ _ _ _ _ => pts_nil) (fun _ _ _ _ _ => (pe_cmpR op_in_sign (pv 1) (pe_globS T.c_LETTERS rfl) (by rfl)))) pa_nil))))), ?_⟩
  refine ⟨v, rfl, v, .ty "str", _, _, _, rfl, .ty _, dp_ty hv, kit_ty (kit_str D), _, rfl, ?_⟩
  have no : isS D = false → Q (.bl false) H := fun e => by
    have q1 := q H (Same.refl H)
    cases D with
    | str z => cases e
    | _ => exact q1
  cases hS : isS D with
  | false => exact iteT (no hS)
  | true =>
    obtain ⟨z, rfl⟩ : ∃ z, D = .str z := by
      cases D with
      | str z => exact ⟨z, rfl⟩
      | _ => cases hS
    cases hv
    have hl := hz z rfl
    have hs : z.length ≤ sizeLine := Nat.le_trans hl (by decide)
    refine iteF ⟨.str z, rfl, .str z, z.length, rfl, ⟨hs, rfl⟩, _, _, rfl, rfl, _, rfl, ?_⟩
    have nf : nameB (.str z) = false → Q (.bl false) H := fun e => by
      have q1 := q H (Same.refl H)
      rw [e] at q1
      exact q1
    refine ite2 (fun e1 => ⟨_, _, rfl, rfl, _, rfl, ite2 (fun e2 => nf ?_) (fun e2 => ⟨.str z, rfl, rfl, _, rfl, ite2 (fun e3 => nf ?_) (fun e3 => ?_)⟩)⟩) (fun e1 => ⟨_, rfl, iteT (nf ?_)⟩)
    · have h8 : ¬ z.length ≤ 8 := fun h => by
        rw [decide_eq_true (show (z.length : Int) ≤ 8 by omega)] at e2
        cases e2
      simp [nameB, h8]
    · have h3 : z = "start" := V.str.inj (of_decide_eq_true e3)
      simp [nameB, h3]
    · have h1 : 1 ≤ z.length := by
        have := of_decide_eq_true e1
        omega
      have h8 : z.length ≤ 8 := by
        by_cases h : z.length ≤ 8
        · exact h
        · exfalso
          apply e2
          rw [decide_eq_false (show ¬ (z.length : Int) ≤ 8 by omega)]
          rfl
      have h3 : z ≠ "start" := fun h => e3 (decide_eq_true (congrArg V.str h))
      have en : nameB (.str z) = (cp z).all letB := by simp [nameB, h1, h8, h3]
      refine ⟨.str z, rfl, z, rfl, fun D hD => ?_⟩
      refine lc_it walk_str (fun i H2 => H2 D = some (.lst ((((cp z).take i).map letB).map V.bl)) ∧ Same H H2) ⟨upd_same, fun b o h => upd_get hD h⟩ (fun _ _ _ _ => trivial) ?_ ?_
      · rintro i x H2 H3 hi ⟨hD2, s2⟩ ⟨rfl, ch, hch, rfl⟩
        refine ⟨rfl, tyes ⟨.str ⟨#[ch]⟩, rfl, ch, _, rfl, rfl, _, hD2, ?_, ?_, ?_⟩⟩
        · rw [List.length_map, List.length_map]
          exact small1000 (Nat.le_trans (List.length_take_le' _ _) (by rw [cp_len]; exact hl))
        · rw [upd_same]
          have e : (cp z)[i]? = some ch := by
            show z.cps.toList[i]? = some ch
            rw [Array.getElem?_toList]
            exact hch
          rw [List.take_add_one, e, List.map_append, List.map_append]
          rfl
        · intro b o h
          rw [upd_ne (ne_of_none h hD)]
          exact s2 _ _ h
      · rintro H2 ⟨hD2, s2⟩
        refine ⟨D, _, rfl, .inl (.inl hD2), ?_⟩
        have e : (cp z).take z.cps.size = cp z := List.take_of_length_le (by rw [cp_len]; exact Nat.le_refl _)
        rw [e]
        have q1 := q H2 s2
        rw [en] at q1
        rw [List.all_map]
        exact q1
    · have h1 : ¬ 1 ≤ z.length := fun h => e1 (decide_eq_true (by omega))
      simp [nameB, h1]
end
end K02

set_option maxHeartbeats 4000000
namespace K02
open PySem PySem.Spec PyProof.Rows L2 HG
theorem kbn0 {K : PySem.W.Frag} {x qual : Str} {params : Arguments} {body : List Stmt} {scope : Scope} {kws : List (Str × V)} {f : Addr} {fd : FuncData} {ks ps : List Str} {g : List Value → List Value} {gV : List V → List V}
    (F : FunD K x qual params body scope [] kws f fd)
    (h : ∀ (kV doc pm : Value) (an : Option Addr) (cdv ct : Value) (ws : List Value), ws.length = ks.length → bindArgs (PySem.W.fnOf x qual params body scope .none kV doc pm an cdv ct) ⟨[], ks.zip ws⟩ = pure (ps.zip (g ws)))
    (rel : ∀ {zs : List V} {ws : List Value}, Vals zs ws → Vals (gV zs) (g ws)) : KBn K fd ps 0 ks (fun _ ws => g ws) (fun _ zs => gV zs) := by
  obtain ⟨oc, od, dV, kV, doc, pm, an, cdv, ct, osl, rfl, lk, hcd, hD, hK⟩ := F.ex
  rcases hD with ⟨_, rfl⟩ | ⟨e, _⟩
  · refine ⟨fun s us ws _ hu hw => ?_, fun _ r => rel r⟩
    obtain rfl : us = [] := List.length_eq_zero_iff.mp hu
    exact .of_eq (h kV doc pm an cdv ct ws hw)
  · exact absurd rfl e
def rngB (c : Nat) : Bool := !decide ([c] < cp ("a" : Str)) && !decide (cp ("z" : Str) < [c])
theorem let_rng (c : Nat) : rngB c = letB c := by
  have e : cp ("abcdefghijklmnopqrstuvwxyz" : Str) = (List.range 26).map (fun i => 97 + i) := by decide +kernel
  have ea : cp ("a" : Str) = [97] := by decide +kernel
  have ez : cp ("z" : Str) = [122] := by decide +kernel
  have l1 : ∀ a b : Nat, ([a] < [b]) ↔ a < b := fun a b => by
    rw [List.cons_lt_cons_iff]
    simp
  unfold rngB letB
  rw [e, ea, ez]
  by_cases h : 97 ≤ c ∧ c ≤ 122
  · have a1 : ¬ ([c] < [97]) := by rw [l1]; omega
    have a2 : ¬ ([122] < [c]) := by rw [l1]; omega
    rw [decide_eq_false a1, decide_eq_false a2, decide_eq_true]
    · rfl
    · exact List.mem_map.mpr ⟨c - 97, List.mem_range.mpr (by omega), by omega⟩
  · have n : ¬ c ∈ (List.range 26).map (fun i => 97 + i) := fun z => by
      obtain ⟨i, hi, rfl⟩ := List.mem_map.mp z
      have := List.mem_range.mp hi
      omega
    rw [decide_eq_false n]
    by_cases h1 : c < 97
    · rw [decide_eq_true ((l1 c 97).mpr h1)]
      rfl
    · rw [decide_eq_true ((l1 122 c).mpr (by omega)), Bool.not_true, Bool.and_false]
section
variable {P : Program} {w : World} {K : PySem.W.Frag} {mg : Str → Option Value} {base : Heap}
/-! ### full_name -/
def spFull : Sp := fun vs H Q _ => ∃ (a b : Str), vs = [.str a, .str b] ∧ OkS 20 a ∧ OkS 20 b ∧ Q (.str (a ++ "." ++ b)) H
theorem dot_len {a b : Str} (ha : OkS 20 a) (hb : OkS 20 b) : OkS 41 (a ++ "." ++ b) := (ha.app (OkS.of (m := 1) (by decide +kernel))).app hb
theorem ok_full (T : Txt K mg) : ∃ fd, FunD K "full_name" "full_name" (defArgs s_full_name) (defBody s_full_name) (defScope s_full_name) [] [] (He.ga K "full_name") fd ∧ FnOk P w K mg base CX0 1 (He.ga K "full_name") fd ["module", "name"] spFull ∧ Binds K fd ["module", "name"] [] := by
  obtain ⟨fd, F⟩ := T.d_full_name
  refine ⟨fd, F, F.ok sc_full_name (fun vs H Q E h => ?_) (fun cdv A outer s H vs Q E hr h => ?_), F.bindsN fun _ _ _ _ _ _ us hl => match us, hl with | [_, _], _ => rfl⟩
  · obtain ⟨a, b, rfl, _⟩ := h
    rfl
  obtain ⟨a, b, rfl, ha, hb, q⟩ := h
  refine ⟨_, PSs.nox (pss_one (ps_ret (pe_op op_add_str (pe_op op_add_str (pv 0) pe_str) (pv 1)))), ?_⟩
  have o1 : OkS 21 (a ++ ".") := ha.app (OkS.of (m := 1) (by decide +kernel))
  exact ⟨.str a, rfl, _, _, rfl, rfl, (Str.length_append _ _) ▸ few o1 (by decide), .str b, rfl, _, _, rfl, rfl, (Str.length_append _ _) ▸ few (dot_len ha hb) (by decide), q⟩
/-! ### _law_is_name -/
theorem ok_lawname (T : Txt K mg) : ∃ fd, FnOk P w K mg base CX0 1 (He.ga K "_law_is_name") fd ["_law_given"] (spIsName K) ∧ Binds K fd ["_law_given"] [] := by
  obtain ⟨fd, F⟩ := T.d__law_is_name
  refine ⟨fd, F.ok sc__law_is_name (fun vs H Q E h => ?_) (fun cdv A outer s H vs Q E hr h => ?_), F.bindsN fun _ _ _ _ _ _ us hl => match us, hl with | [_], _ => rfl⟩
  · obtain ⟨v, D, rfl, _⟩ := h
    rfl
  obtain ⟨v, D, rfl, hv, hz, q⟩ := h
  refine ⟨_, PSs.nox (pss_cons (ps_if (PW.pt (pw_or (pt_not (pt_val (pe_callB call_isi (by rfl) T.n_isinstance (by decide +kernel) (pa_cons (pv 0) (pa_cons (pe_bltn (v := .ty "str") (u := .type "str") (by rfl) T.n_str (by decide +kernel) rfl) pa_nil))))) (pw_or1 (pt_cmpR op_eq (pv 0) pe_str (nomark _))))) (pss_one (ps_ret pe_bl)) pss_nil)
      (pss_cons (ps_setLc (i := 1) (own := [("_law_sign", 2)]) (by rfl) sc__law_is_name.nd rfl rfl (sw_true rfl rfl rfl (by decide +kernel)) (pi_str (pv 0)) (blkOk_by (own := [("_law_sign", 2)]) (N := N__law_is_name) (sc := defScope s__law_is_name) (by decide +kernel)) (fun _ _ _ _ _ => (pg_name (i := 2) sc__law_is_name.nd rfl (.inl rfl))) (fun _ _ _ _ _ => pts_one (PW.pt (pw_and (pt_cmpR op_le_str pe_str (pv 2) (nomark _)) (pw_and1 (pt_cmpR op_le_str (pv 2) pe_str (nomark _)))))) (fun _ _ _ _ _ => (pv 2)))
      (pss_one (ps_ret (pe_and (pe_cmpR op_eq (pe_callB call_len (by rfl) T.n_len (by decide +kernel) (pa_cons (pv 1) pa_nil)) (pe_callB call_len (by rfl) T.n_len (by decide +kernel) (pa_cons (pv 0) pa_nil)) (nomark _)) (pe_and (pe_cmpR op_lt pe_int (pe_callB call_len (by rfl) T.n_len (by decide +kernel) (pa_cons (pv 1) pa_nil)) (nomark _)) (pe_one (pe_cmpR op_lt (pe_callB call_len (by rfl) T.n_len (by decide +kernel) (pa_cons (pv 1) pa_nil)) pe_int (nomark _))))))))), ?_⟩
  refine ⟨v, rfl, v, .ty "str", _, _, _, rfl, .ty _, dp_ty hv, kit_ty (kit_str D), _, rfl, ?_⟩
  have no : isS D = false → Q (.bl false) H := fun e => by
    have q1 := q H (Same.refl H)
    cases D with
    | str z => cases e
    | _ => exact q1
  cases hS : isS D with
  | false => exact iteT (no hS)
  | true =>
    obtain ⟨z, rfl⟩ : ∃ z, D = .str z := by
      cases D with
      | str z => exact ⟨z, rfl⟩
      | _ => cases hS
    cases hv
    have hl := hz z rfl
    have hs : z.length ≤ sizeLine := Nat.le_trans hl (by decide)
    have nf : nameB (.str z) = false → Q (.bl false) H := fun e => by
      have q1 := q H (Same.refl H)
      rw [e] at q1
      exact q1
    refine iteF ⟨.str z, rfl, rfl, _, rfl, ite2 (fun e3 => nf ?_) (fun e3 => ?_)⟩
    · have h3 : z = "start" := V.str.inj (of_decide_eq_true e3)
      simp [nameB, h3]
    have h3 : z ≠ "start" := fun h => e3 (decide_eq_true (congrArg V.str h))
    refine ⟨.str z, rfl, z, rfl, fun D hD => ?_⟩
    refine lc_it walk_str (fun i H2 => H2 D = some (.lst ((((cp z).take i).filter letB).map (fun c => V.str (sgn c)))) ∧ Same H H2) ⟨upd_same, fun b o h => upd_get hD h⟩ (fun _ _ _ _ => trivial) ?_ ?_
    · rintro i x H2 H3 hi ⟨hD2, s2⟩ ⟨rfl, ch, hch, rfl⟩
      have e : (cp z)[i]? = some ch := by
        show z.cps.toList[i]? = some ch
        rw [Array.getElem?_toList]
        exact hch
      have kT : letB ch = true → ((cp z).take (i + 1)).filter letB = ((cp z).take i).filter letB ++ [ch] := fun h => by
        rw [List.take_add_one, e, List.filter_append]
        simp [h]
      have kF : letB ch = false → ((cp z).take (i + 1)).filter letB = ((cp z).take i).filter letB := fun h => by
        rw [List.take_add_one, e, List.filter_append]
        simp [h]
      refine ⟨rfl, .str ⟨#[ch]⟩, rfl, _, _, rfl, rfl, _, rfl, ite2 (fun a => ⟨.str ⟨#[ch]⟩, rfl, _, _, rfl, rfl, _, rfl, ite2 (fun b => ?_) (fun b => ?_)⟩) (fun a => iteF ?_)⟩
      · have h : letB ch = true := by
          rw [← let_rng]
          unfold rngB
          exact Bool.and_eq_true_iff.mpr ⟨a, b⟩
        refine ⟨.str ⟨#[ch]⟩, rfl, _, hD2, ?_, ?_, ?_⟩
        · rw [List.length_map]
          exact small1000 (Nat.le_trans (List.length_filter_le _ _) (Nat.le_trans (List.length_take_le' _ _) (by rw [cp_len]; exact hl)))
        · rw [upd_same, kT h, List.map_append]
          rfl
        · intro b o h
          rw [upd_ne (ne_of_none h hD)]
          exact s2 _ _ h
      · have h : letB ch = false := by
          rw [← let_rng]
          unfold rngB
          exact Bool.and_eq_false_iff.mpr (.inr (Bool.eq_false_iff.mpr b))
        rw [kF h]
        exact ⟨hD2, s2⟩
      · have h : letB ch = false := by
          rw [← let_rng]
          unfold rngB
          exact Bool.and_eq_false_iff.mpr (.inl (Bool.eq_false_iff.mpr a))
        rw [kF h]
        exact ⟨hD2, s2⟩
    · rintro H2 ⟨hD2, s2⟩
      have e : (cp z).take z.cps.size = cp z := List.take_of_length_le (by rw [cp_len]; exact Nat.le_refl _)
      rw [e] at hD2
      have hq : SqL K H2 D (((cp z).filter letB).map (fun c => V.str (sgn c))) := .inl (.inl hD2)
      have q1 := q H2 s2
      have el : (((cp z).filter letB).map (fun c => V.str (sgn c))).length = ((cp z).filter letB).length := List.length_map ..
      have hle : ((cp z).filter letB).length ≤ z.length := by
        rw [← cp_len]
        exact List.length_filter_le _ _
      have hall : ((cp z).filter letB).length = z.length ↔ (cp z).all letB = true := by
        rw [← cp_len, List.length_filter_eq_length_iff, List.all_eq_true]
      refine ⟨.ref D, rfl, .ref D, _, rfl, .inl ⟨_, hq, rfl⟩, .str z, rfl, .str z, z.length, rfl, ⟨hs, rfl⟩, rfl, _, rfl, ?_⟩
      rw [el]
      by_cases h : ((cp z).filter letB).length = z.length
      · rw [decide_eq_true (show V.int (((cp z).filter letB).length : Nat) = V.int (z.length : Nat) by rw [h])]
        refine iteT ⟨.ref D, rfl, .ref D, _, rfl, .inl ⟨_, hq, rfl⟩, _, _, rfl, rfl, _, rfl, ?_⟩
        rw [el, h]
        have ha := hall.mp h
        by_cases h0 : 0 < z.length
        · rw [decide_eq_true (show (0 : Int) < (z.length : Nat) by omega)]
          refine iteT ⟨.ref D, rfl, .ref D, _, rfl, .inl ⟨_, hq, rfl⟩, _, _, rfl, rfl, ?_⟩
          rw [el, h]
          have en : nameB (.str z) = decide (((z.length : Nat) : Int) < 9) := by
            show (decide (1 ≤ z.length) && decide (z.length ≤ 8) && !decide (z = "start") && (cp z).all letB) = _
            rw [ha, decide_eq_true (show 1 ≤ z.length by omega), decide_eq_false h3, Bool.true_and, Bool.not_false, Bool.and_true, Bool.and_true]
            exact decide_eq_decide.mpr (by omega)
          rw [en] at q1
          exact q1
        · rw [decide_eq_false (show ¬ (0 : Int) < (z.length : Nat) by omega)]
          have en : nameB (.str z) = false := by
            have : ¬ 1 ≤ z.length := by omega
            simp [nameB, this]
          rw [en] at q1
          exact iteF q1
      · rw [decide_eq_false (show ¬ V.int (((cp z).filter letB).length : Nat) = V.int (z.length : Nat) from fun y => h (by have := V.int.inj y; omega))]
        have en : nameB (.str z) = false := by
          have hf : (cp z).all letB = false := Bool.eq_false_iff.mpr fun y => h (hall.mpr y)
          show (decide (1 ≤ z.length) && decide (z.length ≤ 8) && !decide (z = "start") && (cp z).all letB) = _
          rw [hf, Bool.and_false]
        rw [en] at q1
        exact iteF q1
/-! ### _law_is_word -/
theorem ok_lawword (T : Txt K mg) : ∃ fd, FnOk P w K mg base CX0 1 (He.ga K "_law_is_word") fd ["_law_given"] (spIsWord K) ∧ Binds K fd ["_law_given"] [] := by
  obtain ⟨fd, F⟩ := T.d__law_is_word
  refine ⟨fd, F.ok sc__law_is_word (fun vs H Q E h => ?_) (fun cdv A outer s H vs Q E hr h => ?_), F.bindsN fun _ _ _ _ _ _ us hl => match us, hl with | [_], _ => rfl⟩
  · obtain ⟨v, D, rfl, _⟩ := h
    rfl
  obtain ⟨v, D, rfl, hv, q⟩ := h
  refine ⟨_, PSs.nox (pss_cons (ps_if (PW.pt (pw_or (pt_val (pe_callB call_isi (by rfl) T.n_isinstance (by decide +kernel) (pa_cons (pv 0) (pa_cons (pe_bltn (v := .ty "bool") (u := .type "bool") (by rfl) T.n_bool (by decide +kernel) rfl) pa_nil)))) (pw_or1 (pt_not (pt_val (pe_callB call_isi (by rfl) T.n_isinstance (by decide +kernel) (pa_cons (pv 0) (pa_cons (pe_bltn (v := .ty "int") (u := .type "int") (by rfl) T.n_int (by decide +kernel) rfl) pa_nil)))))))) (pss_one (ps_ret pe_bl)) pss_nil)
      (pss_one (ps_ret (pe_cmpR op_eq (pe_op op_fdiv (pv 0) pe_int) pe_int (nomark _))))), ?_⟩
  refine ⟨v, rfl, v, .ty "bool", _, _, _, rfl, .ty _, dp_ty hv, kit_ty (kit_bool D), _, rfl, ?_⟩
  have go : isB D = false → isI D = false → Q (.bl false) H := fun e1 e2 => by
    cases D with
    | int i => cases e2
    | _ => exact q
  cases hB : isB D with
  | true =>
    refine iteT ?_
    cases D with
    | bool b => exact q
    | _ => cases hB
  | false =>
    refine iteF ⟨v, rfl, v, .ty "int", _, _, _, rfl, .ty _, dp_ty hv, kit_ty (kit_int D), _, rfl, ?_⟩
    cases hI : isI D with
    | false => exact iteT (go hB hI)
    | true =>
      obtain ⟨i, rfl⟩ : ∃ i, D = .int i := by
        cases D with
        | int i => exact ⟨i, rfl⟩
        | bool b => cases hB
        | _ => cases hI
      cases hv
      refine iteF ⟨.int i, rfl, _, _, rfl, rfl, ⟨by decide, by decide⟩, rfl, ?_⟩
      have e : decide (V.int (i / 65536) = V.int 0) = wordB (.int i) := by
        show _ = (decide (0 ≤ i) && decide (i ≤ 65535))
        by_cases h : 0 ≤ i ∧ i ≤ 65535
        · rw [decide_eq_true (show V.int (i / 65536) = V.int 0 from congrArg V.int (by omega)), decide_eq_true h.1, decide_eq_true h.2]
          rfl
        · rw [decide_eq_false (show ¬ V.int (i / 65536) = V.int 0 from fun z => h (by have := V.int.inj z; omega))]
          by_cases h0 : 0 ≤ i
          · rw [decide_eq_false (show ¬ i ≤ 65535 from fun z => h ⟨h0, z⟩), Bool.and_false]
          · rw [decide_eq_false h0, Bool.false_and]
      show Q (.bl (decide (V.int (i / 65536) = V.int 0))) H
      rw [e]
      exact q
end
end K02

set_option maxHeartbeats 4000000
namespace K02
open PySem PySem.Spec PyProof.Rows L2 HG
theorem bool_shown (b : Bool) : (PyData.bool b).showable = true ∧ (PyData.bool b).depth ≤ 150 ∧ (PyData.bool b).shown.length ≤ sizeLine :=
  ⟨by simp only [PyData.showable], by simp only [PyData.depth]; omega, by
    have e : (PyData.shown (.bool b)).length ≤ 5 := by cases b <;> decide
    exact Nat.le_trans e (by decide)⟩
theorem pair_shown (b c : Bool) : (PyData.list [.bool b, .bool c]).showable = true ∧ (PyData.list [.bool b, .bool c]).depth ≤ 150 ∧ (PyData.list [.bool b, .bool c]).shown.length ≤ sizeLine := by
  have h := sz_list (m := 0) (ds := [.bool b, .bool c]) (fun d hd => by
    simp only [List.mem_cons, List.not_mem_nil, or_false] at hd
    rcases hd with rfl | rfl <;> exact Sz.bl 0 _) (by show 2 ≤ 2; decide)
  exact ⟨h.sh, Nat.le_trans h.dp (by decide), Nat.le_trans h.ln (by decide)⟩
section
variable {P : Program} {w : World} {K : PySem.W.Frag} {mg : Str → Option Value} {base : Heap}
theorem ck_isname (T : Txt K mg) : CalK P w K mg base "is_name" 1 ["thing"] ["thing"] id (spIsName K) := by
  obtain ⟨fd, F, G, b⟩ := ok_isname (P := P) (w := w) (base := base) T
  exact ⟨⟨fd, _, G, kbn0 (g := id) (gV := id) F (fun _ _ _ _ _ _ ws hl => match ws, hl with | [_], _ => rfl) (fun r => r)⟩, T.g _ (by decide), F.kp⟩
theorem ck_isword (T : Txt K mg) : CalK P w K mg base "is_word" 2 ["thing"] ["thing"] id (spIsWord K) := by
  obtain ⟨fd, F, G, b⟩ := ok_isword (P := P) (w := w) (base := base) T
  exact ⟨⟨fd, _, G, kbn0 (g := id) (gV := id) F (fun _ _ _ _ _ _ ws hl => match ws, hl with | [_], _ => rfl) (fun r => r)⟩, T.g _ (by decide), F.kp⟩
theorem c_isname (T : Txt K mg) : Cal P w K mg base "is_name" 1 ["thing"] (spIsName K) := by
  obtain ⟨fd, F, G, b⟩ := ok_isname (P := P) (w := w) (base := base) T
  exact ⟨⟨fd, G, b⟩, T.g _ (by decide), F.kp⟩
theorem c_isword (T : Txt K mg) : Cal P w K mg base "is_word" 2 ["thing"] (spIsWord K) := by
  obtain ⟨fd, F, G, b⟩ := ok_isword (P := P) (w := w) (base := base) T
  exact ⟨⟨fd, G, b⟩, T.g _ (by decide), F.kp⟩
def spRight (K : PySem.W.Frag) : Sp := fun vs H Q _ => ∃ (v : V) (D : PyData), vs = [v] ∧ Dp K H v D ∧ Sz 4 D ∧ ∀ H', Same H H' → Q (.bl true) H'
theorem ok_right (T : Txt K mg) : ∃ fd, FnG P w K mg base CX0 3 (He.ga K "_law_right") fd ["_law_value_here"] (spRight K) ∧ Binds K fd ["_law_value_here"] [] := by
  obtain ⟨fd, F⟩ := T.d__law_right
  have C_is_name := c_isname (P := P) (w := w) (base := base) T
  have C_is_word := c_isword (P := P) (w := w) (base := base) T
  have C_is_name_thing := ck_isname (P := P) (w := w) (base := base) T
  have C_is_word_thing := ck_isword (P := P) (w := w) (base := base) T
  have C__law_is_name : Cal P w K mg base "_law_is_name" 1 ["_law_given"] (spIsName K) := ⟨ok_lawname T, T.g _ (by decide), by obtain ⟨fd, F⟩ := T.d__law_is_name; exact F.kp⟩
  have C__law_is_word : Cal P w K mg base "_law_is_word" 1 ["_law_given"] (spIsWord K) := ⟨ok_lawword T, T.g _ (by decide), by obtain ⟨fd, F⟩ := T.d__law_is_word; exact F.kp⟩
  refine ⟨fd, fng_of F sc__law_right (fun vs H Q E h => ?_) (fun cdv A outer s H vs Q E hr hgd h => ?_), F.bindsN fun _ _ _ _ _ _ us hl => match us, hl with | [_], _ => rfl⟩
  · obtain ⟨v, D, rfl, _⟩ := h
    rfl
  obtain ⟨v, D, rfl, hv, sz, q⟩ := h
  have hd : D.depth ≤ 150 := Nat.le_trans sz.dp (by decide)
  have hl : D.shown.length ≤ sizeLine := Nat.le_trans sz.ln (by decide)
  have bs := bool_shown
  refine ⟨_, PSs.nox (pss_cons (ps_set (i := 1) sc__law_right.nd rfl (.inl rfl) (pe_callB (call_repr hgd hr) (by rfl) T.n_repr (by decide +kernel) (pa_cons (pv 0) pa_nil)))
      (pss_cons (ps_if (PW.pt (pw_or (pt_cmpR op_ne (pe_callB (call_repr hgd hr) (by rfl) T.n_repr (by decide +kernel) (pa_cons (pe_cal C_is_name (hr.mono (by omega)) (by rfl) (pa_cons (pv 0) pa_nil)) pa_nil)) (pe_callB (call_repr hgd hr) (by rfl) T.n_repr (by decide +kernel) (pa_cons (pe_cal C__law_is_name (hr.mono (by omega)) (by rfl) (pa_cons (pv 0) pa_nil)) pa_nil)) (nomark _)) (pw_or1 (pt_cmpR op_ne (pe_callB (call_repr hgd hr) (by rfl) T.n_repr (by decide +kernel) (pa_cons (pe_cal C_is_word (hr.mono (by omega)) (by rfl) (pa_cons (pv 0) pa_nil)) pa_nil)) (pe_callB (call_repr hgd hr) (by rfl) T.n_repr (by decide +kernel) (pa_cons (pe_cal C__law_is_word (hr.mono (by omega)) (by rfl) (pa_cons (pv 0) pa_nil)) pa_nil)) (nomark _))))) (pss_one (ps_ret pe_bl)) pss_nil)
      (pss_cons (ps_if (pt_cmpR op_ne (pe_callB (call_repr hgd hr) (by rfl) T.n_repr (by decide +kernel) (pa_cons (pe_lst (pa_cons (pe_calK C_is_name_thing (hr.mono (by omega)) (by rfl) (pk_cons (pv 0) pk_nil)) (pa_cons (pe_calK C_is_word_thing (hr.mono (by omega)) (by rfl) (pk_cons (pv 0) pk_nil)) pa_nil))) pa_nil)) (pe_callB (call_repr hgd hr) (by rfl) T.n_repr (by decide +kernel) (pa_cons (pe_lst (pa_cons (pe_cal C__law_is_name (hr.mono (by omega)) (by rfl) (pa_cons (pv 0) pa_nil)) (pa_cons (pe_cal C__law_is_word (hr.mono (by omega)) (by rfl) (pa_cons (pv 0) pa_nil)) pa_nil))) pa_nil)) (nomark _)) (pss_one (ps_ret pe_bl)) pss_nil)
      (pss_one (ps_ret (pe_cmpR op_eq (pe_callB (call_repr hgd hr) (by rfl) T.n_repr (by decide +kernel) (pa_cons (pv 0) pa_nil)) (pv 1) (nomark _))))))), ?_⟩
  -- kept = repr(value)
  refine ⟨v, rfl, v, D, rfl, hv, sz.sh, hd, hl, ?_⟩
  -- repr(is_name(v)) != repr(_law_is_name(v))
  refine ⟨v, rfl, v, D, rfl, hv, sz.sl, fun H1 s1 => ?_⟩
  have hv1 := dp_mono s1 D v hv
  refine ⟨.bl (nameB D), .bool (nameB D), rfl, .bl _, (bs _).1, (bs _).2.1, (bs _).2.2, ?_⟩
  refine ⟨v, rfl, v, D, rfl, hv1, sz.sl, fun H2 s2 => ?_⟩
  have hv2 := dp_mono s2 D v hv1
  refine ⟨.bl (nameB D), .bool (nameB D), rfl, .bl _, (bs _).1, (bs _).2.1, (bs _).2.2, rfl, _, rfl, iteNS rfl ?_⟩
  -- repr(is_word(v)) != ..
  refine ⟨v, rfl, v, D, rfl, hv2, .bl (wordB D), .bool (wordB D), rfl, .bl _, (bs _).1, (bs _).2.1, (bs _).2.2, ?_⟩
  refine ⟨v, rfl, v, D, rfl, hv2, .bl (wordB D), .bool (wordB D), rfl, .bl _, (bs _).1, (bs _).2.1, (bs _).2.2, rfl, _, rfl, iteNS rfl ?_⟩
  -- repr([is_name(thing=v), is_word(thing=v)]) != ..
  refine ⟨v, rfl, rfl, v, D, rfl, hv2, sz.sl, fun H3 s3 => ?_⟩
  have hv3 := dp_mono s3 D v hv2
  refine ⟨v, rfl, rfl, v, D, rfl, hv3, (by show 2 ≤ sizeLine; decide), fun a ha => ?_⟩
  have s4 : Same H3 (upd H3 a (.lst [.bl (nameB D), .bl (wordB D)])) := fun b o h => upd_get ha h
  have ea : (upd H3 a (.lst [.bl (nameB D), .bl (wordB D)])) a = some (.lst [.bl (nameB D), .bl (wordB D)]) := upd_same
  generalize upd H3 a (.lst [.bl (nameB D), .bl (wordB D)]) = H4 at s4 ea ⊢
  have hv4 := dp_mono s4 D v hv3
  have ps := pair_shown (nameB D) (wordB D)
  refine ⟨.ref a, .list [.bool (nameB D), .bool (wordB D)], rfl, .lst (.inl (.inl ea)) (.cons (.bl _) (.cons (.bl _) .nil)), ps.1, ps.2.1, ps.2.2, ?_⟩
  refine ⟨v, rfl, v, D, rfl, hv4, sz.sl, fun H5 s5 => ?_⟩
  have hv5 := dp_mono s5 D v hv4
  refine ⟨v, rfl, v, D, rfl, hv5, (by show 2 ≤ sizeLine; decide), fun c hc => ?_⟩
  have s6 : Same H5 (upd H5 c (.lst [.bl (nameB D), .bl (wordB D)])) := fun b o h => upd_get hc h
  have ec : (upd H5 c (.lst [.bl (nameB D), .bl (wordB D)])) c = some (.lst [.bl (nameB D), .bl (wordB D)]) := upd_same
  generalize upd H5 c (.lst [.bl (nameB D), .bl (wordB D)]) = H6 at s6 ec ⊢
  have hv6 := dp_mono s6 D v hv5
  refine ⟨.ref c, .list [.bool (nameB D), .bool (wordB D)], rfl, .lst (.inl (.inl ec)) (.cons (.bl _) (.cons (.bl _) .nil)), ps.1, ps.2.1, ps.2.2, rfl, _, rfl, iteNS rfl ?_⟩
  -- return repr(value) == kept
  refine ⟨v, rfl, v, D, rfl, hv6, sz.sh, hd, hl, .str D.shown, rfl, rfl, ?_⟩
  have e : decide (V.str D.shown = V.str D.shown) = true := decide_eq_true rfl
  show Q (.bl (decide (V.str D.shown = V.str D.shown))) H6
  rw [e]
  exact q H6 (s1.trans (s2.trans (s3.trans (s4.trans (s5.trans s6)))))
end
end K02

set_option maxHeartbeats 4000000
namespace K02
open PySem PySem.Spec PyProof.Rows L2 HG
def swap2 {α : Type} : List α → List α
  | [a, b] => [b, a]
  | l => l
theorem swap_rel {zs : List V} {ws : List Value} (r : Vals zs ws) : Vals (swap2 zs) (swap2 ws) := by
  cases r with
  | nil => exact .nil
  | cons a r =>
    cases r with
    | nil => exact .cons a .nil
    | cons b r =>
      cases r with
      | nil => exact .cons b (.cons a .nil)
      | cons c r => exact .cons a (.cons b (.cons c r))
def fixS (z : Str) : Str := if z = "start" then "starts" else z
theorem fix_ok {z : Str} (h : OkS 12 z) : OkS 20 (fixS z) := by
  unfold fixS
  split
  · exact OkS.of (by decide +kernel)
  · exact h.up (by decide)
theorem news_off {d c D : Addr} {n : Nat} {H H' : Hp} {o : HO} (dk : Deck d c n H) : Same (news (upd H D o) H') (off d c H') := fun b u h => by
  obtain ⟨h1, h2⟩ := news_get.mp h
  have nb : b ≠ D := fun z => by rw [z, upd_same] at h1; cases h1
  rw [upd_ne nb] at h1
  have := dk.has h1
  rw [off_get this.1 this.2]
  exact h2
theorem str_shown {z : Str} (h : OkS 41 z) : (PyData.str z).showable = true ∧ (PyData.str z).depth ≤ 150 ∧ (PyData.str z).shown.length ≤ sizeLine :=
  ⟨by simp only [PyData.showable], by simp only [PyData.depth]; omega, by
    simp only [PyData.shown]
    exact Nat.le_trans h.repr (by decide)⟩
section
variable {P : Program} {w : World} {K : PySem.W.Frag} {mg : Str → Option Value} {base : Heap}
def spLaw (K : PySem.W.Frag) : Sp := fun vs H Q _ => ∃ (a : Addr) (ns : List Int), vs = [.ref a] ∧ SqL K H a (ns.map V.int) ∧ ns.length ≤ 63 ∧ ∀ H', Q (.bl true) H'
theorem ok_law (T : Txt K mg) {fd : FuncData} (F : FunD K "law" "law" (defArgs s_law) (defBody s_law) (defScope s_law) [] [] (He.ga K "law") fd) : FnG P w K mg base CX0 12 (He.ga K "law") fd ["_law_script"] (spLaw K) := by
  have C__law_deck : Cal P w K mg base "_law_deck" 1 ["_law_script"] (spDeck K) := ⟨ok_deck T, T.g _ (by decide), by obtain ⟨fd, F⟩ := T.d__law_deck; exact F.kp⟩
  have C__law_value : Cal P w K mg base "_law_value" 9 ["_law_deck_here", "_law_deep"] (spValue K 4) := ⟨ok_value T 4, T.g _ (by decide), by obtain ⟨fd, F⟩ := T.d__law_value; exact F.kp⟩
  have C__law_right : CalG P w K mg base "_law_right" 3 ["_law_value_here"] (spRight K) := ⟨ok_right T, T.g _ (by decide), by obtain ⟨fd, F⟩ := T.d__law_right; exact F.kp⟩
  have C__law_draw := c_draw (P := P) (w := w) (base := base) T
  have C__law_letters := c_letters (P := P) (w := w) (base := base) T
  have C_full_name : Cal P w K mg base "full_name" 1 ["module", "name"] spFull := by
    obtain ⟨fd, F, G, b⟩ := ok_full (P := P) (w := w) (base := base) T
    exact ⟨⟨fd, G, b⟩, T.g _ (by decide), F.kp⟩
  have C_full_name_name_module : CalK P w K mg base "full_name" 1 ["name", "module"] ["module", "name"] swap2 spFull := by
    obtain ⟨fd, F, G, b⟩ := ok_full (P := P) (w := w) (base := base) T
    exact ⟨⟨fd, _, G, kbn0 (g := swap2) (gV := swap2) F (fun _ _ _ _ _ _ ws hl => match ws, hl with | [_, _], _ => rfl) swap_rel⟩, T.g _ (by decide), F.kp⟩
  refine fng_of F sc_law (fun vs H Q E h => ?_) (fun cdv A outer s H vs Q E hr hgd h => ?_)
  · obtain ⟨a, ns, rfl, _⟩ := h
    rfl
  obtain ⟨a, ns, rfl, hS, hn, q⟩ := h
  refine ⟨_, PSs.nox (pss_cons (ps_set (i := 1) sc_law.nd rfl (.inr rfl) (pe_cal C__law_deck (hr.mono (by omega)) (by rfl) (pa_cons (pv 0) pa_nil)))
      (pss_cons (ps_set (i := 2) sc_law.nd rfl (.inl rfl) (pe_lst (pa_cons pe_int (pa_cons pe_int (pa_cons pe_int (pa_cons (pe_un un_neg pe_int) (pa_cons pe_bl (pa_cons pe_bl (pa_cons pe_non (pa_cons pe_str (pa_cons pe_str (pa_cons pe_str (pa_cons pe_str (pa_cons (pe_tup pa_nil) (pa_cons (pe_lst pa_nil) (pa_cons (pe_tup (pa_cons pe_str pa_nil)) (pa_cons (pe_lst (pa_cons pe_str pa_nil)) (pa_cons pe_str pa_nil))))))))))))))))))
      (pss_cons (ps_set (i := 3) sc_law.nd rfl (.inl rfl) (pe_op op_cat (pv 2) (pe_lc (own := [("_law_turn", 5)]) (by rfl) sc_law.nd (pi_range1 (by rfl) T.n_range (pa_cons pe_int pa_nil)) (blkOk_by (own := [("_law_turn", 5)]) (N := N_law) (sc := defScope s_law) (by decide +kernel)) (fun _ _ _ _ _ => (pg_name (i := 5) sc_law.nd rfl (.inl rfl))) (fun _ _ _ _ _ => pts_nil) (fun _ _ _ _ _ => (pe_cal C__law_value (hr.mono (by omega)) (by rfl) (pa_cons (pv 1) (pa_cons pe_int pa_nil)))))))
      (pss_cons (ps_for PassesOwn.never rfl (pi_list (pe_op op_cat (pv 3) (pe_revL (pv 3)))) (pg_name (i := 4) sc_law.nd rfl (.inl rfl)) (pss_one (ps_if (pt_not (pt_val (pe_calG C__law_right (hr.mono (by omega)) hgd (by rfl) (pa_cons (pv 4) pa_nil)))) (pss_one (ps_ret pe_bl)) pss_nil)))
      (pss_cons (ps_for PassesOwn.never rfl (pi_range1 (by rfl) T.n_range (pa_cons pe_int pa_nil)) (pg_name (i := 5) sc_law.nd rfl (.inl rfl)) (pss_cons (ps_set (i := 6) sc_law.nd rfl (.inl rfl) (pe_cal C__law_letters (hr.mono (by omega)) (by rfl) (pa_cons (pv 1) (pa_cons (pe_op op_add pe_int (pe_cal C__law_draw (hr.mono (by omega)) (by rfl) (pa_cons (pv 1) (pa_cons pe_int pa_nil)))) pa_nil))))
      (pss_cons (ps_set (i := 7) sc_law.nd rfl (.inl rfl) (pe_cal C__law_letters (hr.mono (by omega)) (by rfl) (pa_cons (pv 1) (pa_cons (pe_op op_add pe_int (pe_cal C__law_draw (hr.mono (by omega)) (by rfl) (pa_cons (pv 1) (pa_cons pe_int pa_nil)))) pa_nil))))
      (pss_cons (ps_asg (pe_lc (own := [("_law_one", 8)]) (by rfl) sc_law.nd (pi_tup (pe_tup (pa_cons (pv 6) (pa_cons (pv 7) pa_nil)))) (blkOk_by (own := [("_law_one", 8)]) (N := N_law) (sc := defScope s_law) (by decide +kernel)) (fun _ _ _ _ _ => (pg_name (i := 8) sc_law.nd rfl (.inl rfl))) (fun _ _ _ _ _ => pts_nil) (fun _ _ _ _ _ => (pe_ifExp (pt_cmpR op_ne (pv 8) pe_str (nomark _)) (pv 8) pe_str))) (pg_unl rfl (pgs_cons (pg_name (i := 6) sc_law.nd rfl (.inl rfl)) (pgs_cons (pg_name (i := 7) sc_law.nd rfl (.inl rfl)) pgs_nil))))
      (pss_cons (ps_if (pt_cmpR op_ne (pe_callB (call_repr hgd hr) (by rfl) T.n_repr (by decide +kernel) (pa_cons (pe_cal C_full_name (hr.mono (by omega)) (by rfl) (pa_cons (pv 6) (pa_cons (pv 7) pa_nil))) pa_nil)) (pe_callB (call_repr hgd hr) (by rfl) T.n_repr (by decide +kernel) (pa_cons (pe_op op_add_str (pe_op op_add_str (pv 6) pe_str) (pv 7)) pa_nil)) (nomark _)) (pss_one (ps_ret pe_bl)) pss_nil)
      (pss_one (ps_if (pt_cmpR op_ne (pe_calK C_full_name_name_module (hr.mono (by omega)) (by rfl) (pk_cons (pv 7) (pk_cons (pv 6) pk_nil))) (pe_op op_add_str (pe_op op_add_str (pv 6) pe_str) (pv 7)) (nomark _)) (pss_one (ps_ret pe_bl)) pss_nil)))))))
      (pss_one (ps_ret pe_bl))))))), ?_⟩
  -- the deck
  refine ⟨.ref a, rfl, a, ns, rfl, hS, hn, fun d c H1 hd hc s1 dk => ?_⟩
  -- fixed
  refine ⟨1, rfl, Nat.zero_le _, fun p1 h1 => ?_⟩
  have e1 := dk.has h1
  have dk1 := dk.new (o := .tup []) h1
  have g1 : (upd H1 p1 (.tup [])) p1 = some (.tup []) := upd_same
  generalize upd H1 p1 (.tup []) = H2 at g1 dk1 ⊢
  refine ⟨Nat.zero_le _, fun p2 h2 => ?_⟩
  have e2 := dk1.has h2
  have dk2 := dk1.new (o := .lst []) h2
  have g2 : (upd H2 p2 (.lst [])) p2 = some (.lst []) := upd_same
  have g1 := upd_get (o := .lst []) h2 g1
  generalize upd H2 p2 (.lst []) = H3 at g1 g2 dk2 ⊢
  refine ⟨(by show 1 ≤ sizeLine; decide), fun p3 h3 => ?_⟩
  have e3 := dk2.has h3
  have dk3 := dk2.new (o := .tup [.str "a"]) h3
  have g3 : (upd H3 p3 (.tup [.str "a"])) p3 = some (.tup [.str "a"]) := upd_same
  have g1 := upd_get (o := .tup [.str "a"]) h3 g1
  have g2 := upd_get (o := .tup [.str "a"]) h3 g2
  generalize upd H3 p3 (.tup [.str "a"]) = H4 at g1 g2 g3 dk3 ⊢
  refine ⟨(by show 1 ≤ sizeLine; decide), fun p4 h4 => ?_⟩
  have e4 := dk3.has h4
  have dk4 := dk3.new (o := .lst [.str "a"]) h4
  have g4 : (upd H4 p4 (.lst [.str "a"])) p4 = some (.lst [.str "a"]) := upd_same
  have g1 := upd_get (o := .lst [.str "a"]) h4 g1
  have g2 := upd_get (o := .lst [.str "a"]) h4 g2
  have g3 := upd_get (o := .lst [.str "a"]) h4 g3
  generalize upd H4 p4 (.lst [.str "a"]) = H5 at g1 g2 g3 g4 dk4 ⊢
  refine ⟨(by show 16 ≤ sizeLine; decide), fun f hf => ?_⟩
  obtain ⟨fx, efx⟩ : ∃ fx : List V, fx = [.int 0, .int 65535, .int 65536, .int (-1), .bl true, .bl false, .non, .str "", .str "start", .str "abcdefgh", .str "abcdefghi", .ref p1, .ref p2, .ref p3, .ref p4, .str "a.b"] := ⟨_, rfl⟩
  have ef := dk4.has hf
  have dk5 := dk4.new (o := .lst fx) hf
  have gf : (upd H5 f (.lst fx)) f = some (.lst fx) := upd_same
  have g1 := upd_get (o := .lst fx) hf g1
  have g2 := upd_get (o := .lst fx) hf g2
  have g3 := upd_get (o := .lst fx) hf g3
  have g4 := upd_get (o := .lst fx) hf g4
  rw [efx] at gf g1 g2 g3 g4 dk5
  generalize eH : (upd H5 f (.lst [.int 0, .int 65535, .int 65536, .int (-1), .bl true, .bl false, .non, .str "", .str "start", .str "abcdefgh", .str "abcdefghi", .ref p1, .ref p2, .ref p3, .ref p4, .str "a.b"])) = H6 at g1 g2 g3 g4 gf dk5 ⊢
  rw [← efx] at gf
  have fdat : ∃ fds, DpAll K (off d c H6) fx fds ∧ ∀ e ∈ fds, Sz 3 e := by
    refine ⟨[.int 0, .int 65535, .int 65536, .int (-1), .bool true, .bool false, .none, .str "", .str "start", .str "abcdefgh", .str "abcdefghi", .tuple [], .list [], .tuple [.str "a"], .list [.str "a"], .str "a.b"], ?_, ?_⟩
    · rw [efx]
      exact .cons (.int _) (.cons (.int _) (.cons (.int _) (.cons (.int _) (.cons (.bl _) (.cons (.bl _) (.cons .non (.cons (.str _) (.cons (.str _) (.cons (.str _) (.cons (.str _)
        (.cons (.tup (.inl (.inl ((off_get e1.1 e1.2).trans g1))) .nil) (.cons (.lst (.inl (.inl ((off_get e2.1 e2.2).trans g2))) .nil)
        (.cons (.tup (.inl (.inl ((off_get e3.1 e3.2).trans g3))) (.cons (.str _) .nil)) (.cons (.lst (.inl (.inl ((off_get e4.1 e4.2).trans g4))) (.cons (.str _) .nil)) (.cons (.str _) .nil)))))))))))))))
    · intro e he
      have sa : ∀ x ∈ [PyData.str "a"], Sz 0 x := fun x hx => by
        rw [List.mem_singleton.mp hx]
        exact Sz.str 0 (OkS.of (by decide +kernel))
      have sn : ∀ x ∈ ([] : List PyData), Sz 0 x := fun x hx => nomatch hx
      simp only [List.mem_cons, List.not_mem_nil, or_false] at he
      rcases he with rfl | rfl | rfl | rfl | rfl | rfl | rfl | rfl | rfl | rfl | rfl | rfl | rfl | rfl | rfl | rfl
      · exact Sz.int _ (by decide) (by decide)
      · exact Sz.int _ (by decide) (by decide)
      · exact Sz.int _ (by decide) (by decide)
      · exact Sz.int _ (by decide) (by decide)
      · exact Sz.bl _ _
      · exact Sz.bl _ _
      · exact Sz.non _
      · exact Sz.str _ (OkS.of (by decide +kernel))
      · exact Sz.str _ (OkS.of (by decide +kernel))
      · exact Sz.str _ (OkS.of (by decide +kernel))
      · exact Sz.str _ (OkS.of (by decide +kernel))
      · exact (sz_tuple sn (by decide)).up (by decide)
      · exact (sz_list sn (by decide)).up (by decide)
      · exact (sz_tuple sa (by show 1 ≤ 2; decide)).up (by decide)
      · exact (sz_list sa (by show 1 ≤ 2; decide)).up (by decide)
      · exact Sz.str _ (OkS.of (by decide +kernel))
  obtain ⟨fds, fdp, fsz⟩ := fdat
  have fxl : fx.length = 16 := by rw [efx]; rfl
  clear eH g1 g2 g3 g4 dk4 dk3 dk2 dk1 h1 h2 h3 h4 hf efx
  -- values = fixed + [..]
  refine ⟨.ref f, rfl, 40, rfl, by decide, by decide, fun D hD => ?_⟩
  have nd := dk5.has hD
  refine lc_range (lo := 0) (n := (40 : Int).toNat) (fun i H3 => ∃ vs ds, vs.length = i ∧ H3 D = some (.lst vs) ∧ DpAll K (news (upd H6 D (.lst [])) H3) vs ds ∧ (∀ e ∈ ds, Sz 3 e) ∧ Deck d c (0 + i * 12800) H3 ∧ Ext d c H6 H3) ?_ ?_ ?_
  · exact ⟨[], [], rfl, upd_same, .nil, (fun _ h => nomatch h), dk5.new hD, Ext.new hD⟩
  · rintro i H3 hi ⟨vs, ds, hl, hD3, hA, hsz, dk3, X3⟩
    have hi40 : i < 40 := hi
    refine ⟨rfl, tyes ⟨.ref d, rfl, d, c, 0 + i * 12800, 3, rfl, by decide, (by show 0 + i * 12800 + 200 * 64 < 2 ^ 60; omega), dk3, fun v D2 H4 hv hz dk4 X4 => ?_⟩⟩
    have hD4 := X4.at nd.1 nd.2 hD3
    have s1 : Same (news H3 H4) (news (upd H6 D (.lst [])) (upd H4 D (.lst (vs ++ [v])))) := fun b o h => by
      obtain ⟨b1, b2⟩ := news_get.mp h
      have nb : b ≠ D := (ne_of_none hD3 b1).symm
      refine news_get.mpr ⟨?_, by rw [upd_ne nb]; exact b2⟩
      rw [upd_ne nb]
      exact grow X3 dk3 b1
    have s2 : Same (news (upd H6 D (.lst [])) H3) (news (upd H6 D (.lst [])) (upd H4 D (.lst (vs ++ [v])))) := fun b o h => by
      obtain ⟨b1, b2⟩ := news_get.mp h
      have nb : b ≠ D := fun z => by rw [z, upd_same] at b1; cases b1
      have bH : H6 b = none := by rw [upd_ne nb] at b1; exact b1
      have nb2 := dk5.has bH
      exact news_get.mpr ⟨b1, by rw [upd_ne nb]; exact X4.at nb2.1 nb2.2 b2⟩
    refine ⟨vs, hD4, small1000 (by omega), vs ++ [v], ds ++ [D2], by rw [List.length_append, hl]; rfl, upd_same, dpAll_app (dpAll_mono s2 _ _ hA) (.cons (dp_mono s1 _ _ hv) .nil), fun e he => ?_, ?_, (X3.trans X4).mut hD⟩
    · rcases List.mem_append.mp he with z | z
      · exact hsz e z
      · rw [List.mem_singleton.mp z]
        exact hz
    · exact (dk4.up (show 0 + i * 12800 + 200 * 64 ≤ 0 + (i + 1) * 12800 by omega)).upd nd.1 nd.2
  rintro H3 ⟨vs, ds, hl, hD3, hA, hsz, dk3, X3⟩
  have hl : vs.length = 40 := hl
  have gf3 := X3.at ef.1 ef.2 gf
  refine ⟨f, D, fx, vs, rfl, rfl, gf3, hD3, (by rw [fxl, hl]; decide), fun p hp => ?_⟩
  have all1 : DpAll K (off d c H3) (fx ++ vs) (fds ++ ds) := dpAll_app (dpAll_mono X3 _ _ fdp) (dpAll_mono (news_off dk5) _ _ hA)
  have ep := dk3.has hp
  have dk4 := dk3.new (o := .lst (fx ++ vs)) hp
  have X4 : Ext d c H3 (upd H3 p (.lst (fx ++ vs))) := Ext.new hp
  have gp : (upd H3 p (.lst (fx ++ vs))) p = some (.lst (fx ++ vs)) := upd_same
  have all2 := dpAll_mono X4 _ _ all1
  have tl : (fx ++ vs).length = 56 := by rw [List.length_append, fxl, hl]
  have szs : ∀ e ∈ fds ++ ds, Sz 4 e := fun e he => by
    rcases List.mem_append.mp he with z | z
    · exact (fsz e z).up (by decide)
    · exact (hsz e z).up (by decide)
  generalize upd H3 p (.lst (fx ++ vs)) = H4 at dk4 X4 gp all2 ⊢
  generalize fx ++ vs = al at gp all2 tl ⊢
  generalize fds ++ ds = ad at all2 szs ⊢
  -- for x in values + values[::-1]
  refine ⟨.ref p, rfl, .ref p, rfl, p, al, rfl, .inl (.inl gp), fun r hr1 => ?_⟩
  have dk5' := dk4.new (o := .lst al.reverse) hr1
  have X5 : Ext d c H4 (upd H4 r (.lst al.reverse)) := Ext.new hr1
  have gr : (upd H4 r (.lst al.reverse)) r = some (.lst al.reverse) := upd_same
  have gp5 := upd_get (o := .lst al.reverse) hr1 gp
  have all3 := dpAll_mono X5 _ _ all2
  generalize upd H4 r (.lst al.reverse) = H5' at dk5' X5 gr gp5 all3 ⊢
  refine ⟨p, r, al, al.reverse, rfl, rfl, gp5, gr, (by rw [List.length_reverse, tl]; decide), fun y hy => ?_⟩
  have dk6 := dk5'.new (o := .lst (al ++ al.reverse)) hy
  have X6 : Ext d c H5' (upd H5' y (.lst (al ++ al.reverse))) := Ext.new hy
  have gy : (upd H5' y (.lst (al ++ al.reverse))) y = some (.lst (al ++ al.reverse)) := upd_same
  have all4 := dpAll_mono X6 _ _ all3
  generalize upd H5' y (.lst (al ++ al.reverse)) = H7 at dk6 X6 gy all4 ⊢
  refine ⟨y, rfl, ⟨_, .inl (.inl gy)⟩, for_list (xs := al ++ al.reverse) (fun i σ H8 => ∃ y4, σ = [some (.ref a), some (.ref d), some (.ref f), some (.ref p), y4, none, none, none, none] ∧ Same H7 H8) ⟨none, rfl, Same.refl _⟩ ?_ ?_ ?_⟩
  · rintro i σ H8 _ ⟨y4, rfl, s8⟩
    exact .inl (.inl (s8 _ _ gy))
  · rintro i x σ H8 hx ⟨y4, rfl, s8⟩
    have hm : x ∈ al := by
      have := List.mem_of_getElem? hx
      rcases List.mem_append.mp this with z | z
      · exact z
      · exact List.mem_reverse.mp z
    obtain ⟨j, hj⟩ := List.getElem?_of_mem hm
    obtain ⟨D1, hD1, hd1⟩ := dpAll_get all4 hj
    refine ⟨x, rfl, x, D1, rfl, dp_mono (Same.trans off_same s8) _ _ hd1, szs D1 (List.mem_of_getElem? hD1), fun H9 s9 => ⟨true, rfl, iteF ⟨some x, rfl, s8.trans s9⟩⟩⟩
  · rintro σ H8 ⟨y4, rfl, s8⟩
    have dk8 : Deck d c (0 + 40 * 12800) H8 := by
      obtain ⟨ns1, l1, m1, t1, a1, a2, a3⟩ := dk6.ex
      exact ⟨ns1, l1, m1, t1, s8 _ _ a1, s8 _ _ a2, a3⟩
    -- for turn in range(6)
    refine ⟨6, rfl, by decide, by decide, for_range (lo := 0) (n := (6 : Int).toNat) (fun i σ H9 => ∃ y5 y6 y7 y8, σ = [some (.ref a), some (.ref d), some (.ref f), some (.ref p), y4, y5, y6, y7, y8] ∧ Deck d c (1000000 + i * 1000) H9) ⟨none, none, none, none, rfl, dk8.up (by decide)⟩ ?_ ?_⟩
    · rintro i' σ H9 hi ⟨y5, y6, y7, y8, rfl, dk9⟩
      have hi6 : i' < 6 := hi
      have big : (1000 : Int) < 10 ^ 40 := by decide
      -- home
      refine ⟨.ref d, rfl, .ref d, rfl, d, c, _, 8, rfl, by decide, by decide, by omega, dk9, fun r1 H10 r0 r8 dk10 X10 => ?_⟩
      obtain ⟨j1, rfl⟩ := Int.eq_ofNat_of_zero_le r0
      refine ⟨1, j1, rfl, rfl, d, c, _, 1 + j1, rfl, by omega, by omega, dk10, fun z1 H11 hl1 hz1 dk11 X11 => ?_⟩
      have o1 : OkS 12 z1 := hz1.up (by omega)
      -- hidden
      refine ⟨.ref d, rfl, .ref d, rfl, d, c, _, 8, rfl, by decide, by decide, by omega, dk11, fun r2 H12 r20 r28 dk12 X12 => ?_⟩
      obtain ⟨j2, rfl⟩ := Int.eq_ofNat_of_zero_le r20
      refine ⟨1, j2, rfl, rfl, d, c, _, 1 + j2, rfl, by omega, by omega, dk12, fun z2 H13 hl2 hz2 dk13 X13 => ?_⟩
      have o2 : OkS 12 z2 := hz2.up (by omega)
      -- home, hidden = [..]
      refine ⟨.str z1, rfl, .str z2, rfl, (by show 2 ≤ sizeLine; decide), fun tp htp => ?_⟩
      have dk14 := dk13.new (o := .tup [.str z1, .str z2]) htp
      have gt : (upd H13 tp (.tup [.str z1, .str z2])) tp = some (.tup [.str z1, .str z2]) := upd_same
      generalize upd H13 tp (.tup [.str z1, .str z2]) = H14 at dk14 gt ⊢
      refine ⟨tp, rfl, ⟨_, .inl (.inl gt)⟩, fun L hL => ?_⟩
      have eL := dk14.has hL
      have nt : tp ≠ L := ne_of_none gt hL
      refine lc_tup (xs := [.str z1, .str z2]) (fun i H15 => H15 tp = some (.tup [.str z1, .str z2]) ∧ H15 L = some (.lst (([z1, z2].take i).map (fun z => V.str (fixS z)))) ∧ Deck d c (1000000 + (i' + 1) * 1000) H15) ?_ ?_ ?_ ?_
      · exact ⟨upd_get hL gt, upd_same, (dk14.new hL).up (by omega)⟩
      · rintro i H15 _ ⟨g1, _, _⟩
        exact .inl (.inl g1)
      · rintro i x H15 hx ⟨g1, g2, dk15⟩
        obtain ⟨z, hz, rfl⟩ : ∃ z, [z1, z2][i]? = some z ∧ x = .str z := by
          match i, hx with
          | 0, h => cases h; exact ⟨z1, rfl, rfl⟩
          | 1, h => cases h; exact ⟨z2, rfl, rfl⟩
        have ef : (if !decide (V.str z = V.str "start") then V.str z else V.str "starts") = V.str (fixS z) := by
          unfold fixS
          by_cases h : z = "start"
          · subst h
            rfl
          · rw [decide_eq_false (fun y => h (V.str.inj y)), if_neg h]
            rfl
        have fin : ∀ v, v = V.str (fixS z) → ∃ acc, H15 L = some (.lst acc) ∧ acc.length < sizeLine ∧ (upd H15 L (.lst (acc ++ [v]))) tp = some (.tup [.str z1, .str z2]) ∧ (upd H15 L (.lst (acc ++ [v]))) L = some (.lst (([z1, z2].take (i + 1)).map (fun z => V.str (fixS z)))) ∧ Deck d c (1000000 + (i' + 1) * 1000) (upd H15 L (.lst (acc ++ [v]))) := by
          rintro v rfl
          refine ⟨_, g2, ?_, by rw [upd_ne nt]; exact g1, ?_, dk15.upd eL.1 eL.2⟩
          · rw [List.length_map]
            exact small1000 (Nat.le_trans (List.length_take_le' _ _) (by show 2 ≤ 1000; decide))
          · rw [upd_same, List.take_add_one, hz, List.map_append]
            rfl
        refine ⟨rfl, tyes ⟨.str z, rfl, rfl, _, rfl, ite2 (fun e => ⟨.str z, rfl, fin _ ?_⟩) (fun e => fin _ ?_)⟩⟩
        · rw [← ef, if_pos e]
        · rw [← ef, if_neg e]
      · rintro H15 ⟨g1, g2, dk15⟩
        have oa := fix_ok o1
        have ob := fix_ok o2
        have g2 : H15 L = some (.lst [.str (fixS z1), .str (fixS z2)]) := g2
        generalize fixS z1 = za at oa g2
        generalize fixS z2 = zb at ob g2
        have oab := dot_len oa ob
        have od : OkS 21 (za ++ ".") := oa.app (OkS.of (m := 1) (by decide +kernel))
        have ss := str_shown oab
        refine ⟨L, _, rfl, .inl (.inl g2), rfl, .str za, _, rfl, .str zb, _, rfl, rfl, ?_⟩
        -- repr(full_name(home, hidden)) != repr(home + '.' + hidden)
        refine ⟨.str za, rfl, .str zb, rfl, za, zb, rfl, oa, ob, .str (za ++ "." ++ zb), .str (za ++ "." ++ zb), rfl, .str _, ss.1, ss.2.1, ss.2.2, ?_⟩
        refine ⟨.str za, rfl, _, _, rfl, rfl, (Str.length_append _ _) ▸ few od (by decide), .str zb, rfl, _, _, rfl, rfl, (Str.length_append _ _) ▸ few oab (by decide), .str (za ++ "." ++ zb), .str (za ++ "." ++ zb), rfl, .str _, ss.1, ss.2.1, ss.2.2, rfl, _, rfl, iteNS rfl ?_⟩
        refine ⟨.str zb, rfl, .str za, rfl, rfl, za, zb, rfl, oa, ob, ?_⟩
        refine ⟨.str za, rfl, _, _, rfl, rfl, (Str.length_append _ _) ▸ few od (by decide), .str zb, rfl, _, _, rfl, rfl, (Str.length_append _ _) ▸ few oab (by decide), rfl, _, rfl, iteNS rfl ?_⟩
        exact ⟨_, _, _, _, rfl, dk15⟩
    · rintro σ H9 ⟨y5, y6, y7, y8, rfl, dk9⟩
      exact q _
end
end K02

set_option maxHeartbeats 0
namespace K02
open PySem PySem.Spec PyProof.Rows L2 HG
theorem txt {K : PySem.W.Frag} {h : Heap} {mg : Str → Option Value} (X : K.In h) (G : h.Ns mainGlobals mg) (c : He.SaysD fa fn K) : Txt K mg where
  d_is_integer := c.def_ 0 (d := dd "is_integer" 4) rfl
  d_is_word := c.def_ 1 (d := dd "is_word" 5) rfl
  d_is_name := c.def_ 2 (d := dd "is_name" 6) rfl
  d_full_name := c.def_ 3 (d := dd "full_name" 7) rfl
  d__law_deck := c.def_ 4 (d := dd "_law_deck" 9) rfl
  d__law_draw := c.def_ 5 (d := dd "_law_draw" 10) rfl
  d__law_pick := c.def_ 6 (d := dd "_law_pick" 11) rfl
  d__law_letters := c.def_ 7 (d := dd "_law_letters" 12) rfl
  d__law_bent := c.def_ 8 (d := dd "_law_bent" 13) rfl
  d__law_string := c.def_ 9 (d := dd "_law_string" 14) rfl
  d__law_integer := c.def_ 10 (d := dd "_law_integer" 15) rfl
  d__law_value := c.def_ 11 (d := dd "_law_value" 16) rfl
  d__law_is_name := c.def_ 12 (d := dd "_law_is_name" 17) rfl
  d__law_is_word := c.def_ 13 (d := dd "_law_is_word" 18) rfl
  d__law_right := c.def_ 14 (d := dd "_law_right" 19) rfl
  d_law := c.def_ 15 (d := dd "law" 20) rfl
  g := by
    intro x hx
    simp only [List.mem_cons, List.not_mem_nil, or_false] at hx
    rcases hx with rfl | rfl | rfl | rfl | rfl | rfl | rfl | rfl | rfl | rfl | rfl | rfl | rfl | rfl | rfl | rfl
    · exact He.glo_ok X G (c.fact 0 (f := .glo "is_integer") rfl)
    · exact He.glo_ok X G (c.fact 1 (f := .glo "is_word") rfl)
    · exact He.glo_ok X G (c.fact 2 (f := .glo "is_name") rfl)
    · exact He.glo_ok X G (c.fact 3 (f := .glo "full_name") rfl)
    · exact He.glo_ok X G (c.fact 4 (f := .glo "_law_deck") rfl)
    · exact He.glo_ok X G (c.fact 5 (f := .glo "_law_draw") rfl)
    · exact He.glo_ok X G (c.fact 6 (f := .glo "_law_pick") rfl)
    · exact He.glo_ok X G (c.fact 7 (f := .glo "_law_letters") rfl)
    · exact He.glo_ok X G (c.fact 8 (f := .glo "_law_bent") rfl)
    · exact He.glo_ok X G (c.fact 9 (f := .glo "_law_string") rfl)
    · exact He.glo_ok X G (c.fact 10 (f := .glo "_law_integer") rfl)
    · exact He.glo_ok X G (c.fact 11 (f := .glo "_law_value") rfl)
    · exact He.glo_ok X G (c.fact 12 (f := .glo "_law_is_name") rfl)
    · exact He.glo_ok X G (c.fact 13 (f := .glo "_law_is_word") rfl)
    · exact He.glo_ok X G (c.fact 14 (f := .glo "_law_right") rfl)
    · exact He.glo_ok X G (c.fact 15 (f := .glo "law") rfl)
  n_isinstance := He.free_ok X G (c.fact 16 (f := .free "isinstance") rfl)
  n_int := He.free_ok X G (c.fact 17 (f := .free "int") rfl)
  n_bool := He.free_ok X G (c.fact 18 (f := .free "bool") rfl)
  n_str := He.free_ok X G (c.fact 19 (f := .free "str") rfl)
  n_len := He.free_ok X G (c.fact 20 (f := .free "len") rfl)
  n_all := He.free_ok X G (c.fact 21 (f := .free "all") rfl)
  n_range := He.free_ok X G (c.fact 22 (f := .free "range") rfl)
  n_list := He.free_ok X G (c.fact 23 (f := .free "list") rfl)
  n_tuple := He.free_ok X G (c.fact 24 (f := .free "tuple") rfl)
  n_repr := He.free_ok X G (c.fact 25 (f := .free "repr") rfl)
  c_LETTERS := He.str_ok X G (c.fact 26 (f := .str "LETTERS" "abcdefghijklmnopqrstuvwxyz") rfl)
  c_LONGEST_NAME := He.int_ok X G (c.fact 27 (f := .int "LONGEST_NAME" 8) rfl)
  c_GREATEST_WORD := He.int_ok X G (c.fact 28 (f := .int "GREATEST_WORD" 65535) rfl)
end K02
open PySem PySem.W PySem.Calls PyProof.Rows
theorem PySem.Challenge.cw_wholeapart_k02_names_and_words_holds : PySem.Challenge.rw_wholeapart_k02_names_and_words.Holds := by
  w_on; o_law
  refine HandSHeadRun.head_any (r := OpenLaw.row PySem.Challenge.rw_wholeapart_k02_names_and_words) (q := view (OpenLaw.row PySem.Challenge.rw_wholeapart_k02_names_and_words).prog [20]) (H := K02.hk) (ob := K02.ob) (M := 2000) (loose := K02.loose) (d := HandSHeadRun.topDef (OpenLaw.row PySem.Challenge.rw_wholeapart_k02_names_and_words).prog 20) (kwd := []) K02.ob_eq
    (by kernel_rfl) (fun s => by kernel_rfl) K02.run (by kernel_rfl) (by kernel_rfl) (by kernel_rfl) (by rfl) (by first | assumption | decide +kernel) (by decide +kernel) ⟨rfl, rfl, rfl, rfl, rfl, by decide +kernel⟩ ?hw ?hc
  case hw => w_witness2
  case hc =>
    refine HG.walkG (l := PySem.Challenge.rw_wholeapart_k02_names_and_words) (n := 63) (k := 12) (x := "_law_script") (CX := L2.CX0) rfl (by decide) (by kernel_rfl) ⟨rfl, by decide, by decide⟩ ?F (fun _ _ _ _ z => z)
    intro w mg fa h Y G hmg0
    obtain ⟨K, KX, c⟩ := Y
    have hmg : mg ("law" : PySem.Str) = some (.ref fa) := by
      have e : (HandSHeadRun.topDef (OpenLaw.row PySem.Challenge.rw_wholeapart_k02_names_and_words).prog 20).name = ("law" : PySem.Str) := by kernel_rfl
      rw [← e]
      exact hmg0
    have T := K02.txt KX G c
    have efa : fa = He.ga K "law" := by
      have e := hmg.symm.trans (T.g "law" (by decide))
      cases e
      rfl
    subst efa
    obtain ⟨fd, F⟩ := T.d_law
    refine ⟨K, fd, K02.spLaw K, KX, fun s u => (L2.FunD.bindsA (ps := ["_law_script"]) F fun _ _ _ _ _ _ us hl => match us, hl with | [_], _ => rfl) s [u] rfl, fun H a ns hl _ _ hS => ⟨a, ns, rfl, hS, hl, fun _ => rfl⟩, fun base _ _ => ?_⟩
    exact K02.ok_law T F
