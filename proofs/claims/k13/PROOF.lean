import PyProof.Rows.All
import Wide.All
import OpenK.AllK
import Wide.FinOn
import HandS.ForMost
import HandS.WordsExc
import HandS.Defaults
import HandS.HeadEnd
import HandS.EndBits
import HandS.IsInst
import HandS.Wide
import HandS.HeadHook1
import HandS.HeadHook2
import HandS.More
import HandS.HeadHook3
import HandS.Walk
import HandS.Style
import HandS.NoneIn
import HandS.Strs
import HandS.SetBool
import PyProof.StrBlock2
import KE.KStateDown
import Lean
import HandS.Head0
import HandS.Head1
import HandS.Head2
import PyProof.StrLawsFrom
import KE.IntTextLaws
import HandS.FStr
import HandS.Codes
import HandS.StrMore
import PySem.Challenge.RW_wholeapart_k13_packed_values
set_option Elab.async false
set_option linter.all false
set_option maxRecDepth 100000
set_option maxHeartbeats 4000000
/-! HG: defs that are called where no repr is under way (the guards are known to be none), and repr of data. -/
namespace HG
open PySem PySem.Spec PyProof.Rows L2

structure FnG (P : Program) (w : World) (K : PySem.W.Frag) (mg : Str → Option Value) (base : Heap)
    (CX : CXT) (k : Nat) (f : Addr) (fd : FuncData) (ps : List Str) (sp : Sp) : Prop where
  sized : ∀ vs H Q E, sp vs H Q E → vs.length = ps.length
  goes : ∀ (A : Around) (outer : List Env) (s : Shared) (H : Hp) (args : Args) (us : List Value) (vs : List V) (Q : VK) (E : XK),
    Room k A → A.guards = some [] → Env0 P w K mg base A outer s H → BindsTo s fd args (ps.zip us) → Vals vs us →
    sp vs H Q E → codeAny (model P w) A (.call (.ref f) args) (CR CX outer P w H s Q E) s

section
variable {P : Program} {w : World} {K : PySem.W.Frag} {mg : Str → Option Value} {base : Heap} {CX : CXT} {k : Nat} {f : Addr} {fd : FuncData} {ps : List Str} {sp : Sp}

theorem FnG.of (F : FnOk P w K mg base CX k f fd ps sp) : FnG P w K mg base CX k f fd ps sp :=
  ⟨F.len, fun A outer s H args us vs Q E r _ => F.run A outer s H args us vs Q E r⟩

theorem FnG.up {j : Nat} (F : FnG P w K mg base CX j f fd ps sp) (h : j ≤ k) : FnG P w K mg base CX k f fd ps sp :=
  ⟨F.sized, fun A outer s H args us vs Q E r => F.goes A outer s H args us vs Q E (r.mono h)⟩

/-- a def of the text, by its body -/
theorem fng_of {x qual : Str} {params : Arguments} {body : List Stmt} {scope : Scope} {dvs : List V} {kws : List (Str × V)} {N : List Str}
    (F : FunD K x qual params body scope dvs kws f fd) (S : FnScope N ps scope) (len : ∀ vs H Q E, sp vs H Q E → vs.length = ps.length)
    (hbody : ∀ (cdv : Value) (A : Around) (outer : List Env) (s : Shared) (H : Hp) (vs : List V) (Q : VK) (E : XK),
      Room k (A.deeper (envOfC qual scope s.heap.objs.size f cdv)) → A.guards = some [] → sp vs H Q E →
      ∃ t, PSs (cxOf CX P w K mg base N qual scope f cdv A outer s H E) body t ∧
        t { nx := fun _ H' => Q .non H', rt := Q } (start N vs) H) : FnG P w K mg base CX (k + 1) f fd ps sp := by
  obtain ⟨oc, od, dV, kV, doc, pm, an, cdv, ct, osl, rfl, lk, hcd, _, _⟩ := F.ex
  constructor
  · exact len
  intro A outer s H args us vs Q E hr hg e0 hb r hsp
  have X1 : K.In s.heap := e0.mod.kin.keeps fun b o e => (e0.bs b o e).1
  have X2 : s.heap.NoLimit := e0.mod.nolimit.keeps fun b o e => (e0.bs b o e).1
  obtain ⟨t, ht, hq⟩ := hbody cdv A outer s H vs Q E (hr.deeper _) hg hsp
  refine codeAny_call_function hr.depth (X1 _ _ lk) rfl S.co S.gen rfl (PySem.W.codeRec_of X1 hcd) (hb _ _ _ _ ?_)
  have kinds : ∀ y ∈ ps.zip us, scope.names.lookup y.1 = some .local ∨
      (scope.names.lookup y.1 = some .cell ∧ ((cellsFrom (s.heap.objs.size + 1) scope.names []).lookup y.1).isSome = true) := by
    rintro ⟨n, v⟩ hy
    have hn := (List.of_mem_zip hy).1
    rcases S.par n hn with q | q
    · left; exact q
    · right; exact ⟨q, PySem.W.cellsFrom_some _ _ _ (.inl q)⟩
  refine wpAny_newFunctionEnv_cells S.kind kinds ?_
  intro env he s1 x
  subst he
  refine ⟨X2.keeps x.toInCall.keep, codeAny_func ?_⟩
  have I := inv_start (CX := CX) (E := E) S hr.hd e0 (len _ _ _ _ hsp) r x
  refine wpAny_mono (ht.run [] s1 (start N vs) H _ I hq) ?_ (fun e s' hs => hs)
  intro fl s' hs
  cases fl with
  | next =>
    obtain ⟨σ', H', J, q⟩ := hs
    exact ⟨V.non, H', J.os, J.bare, J.base, J.hok, rfl, q⟩
  | ret u =>
    obtain ⟨v, σ', H', J, rv, q⟩ := hs
    exact ⟨v, H', J.os, J.bare, J.base, J.hok, rv, q⟩
  | brk => exact hs.elim fun _ z => z.elim fun _ z => z.2.elim
  | cont => exact hs.elim fun _ z => z.elim fun _ z => z.2.elim
end

/-! ### calls of such defs -/
section
variable {X : Cx} {CX : CXT} {k : Nat} {f : Addr} {fd : FuncData} {ps ks : List Str} {sp : Sp} {dvs : List V} {ds : List Value}
  {E : XK} {x : Str} {p pos : Pos} {e : Expr} {es : List Expr} {t tk : TA} {kws : List Keyword}
  {g : List Value → List Value → List Value} {gV : List V → List V → List V}

theorem fin_call {pins : List (Addr × Obj)} {σ : L2.St} {H : Hp} {s s' : Shared} {Q : VK} {r : Result} (hx : Passes CX X E)
    (I : Inv X pins σ H s) (h : CR CX X.stack X.prog X.w H s Q E r s') : callEnd (EP X pins σ Q) X.xe r s' := by
  cases r with
  | error e => exact hx pins σ H s e s' I h
  | ok fl =>
    cases fl with
    | ret u => exact I.after h
    | next => exact h.elim
    | brk => exact h.elim
    | cont => exact h.elim

theorem pe_callG (F : FnG X.prog X.w X.K X.mg X.base CX k f fd ps sp) (hr : Room k X.A) (hgd : X.A.guards = some []) (hg : Gl X x) (hm : X.mg x = some (.ref f))
    (hk : PySem.W.keepIn X.K (.ref f) = true) (hb : Binds X.K fd ps ds) (hd : Vals dvs ds) (hx : Passes CX X E) (ha : PA X (e :: es) t)
    (hdb : (x == ("__debug__" : Str)) = false := by decide)
    (he : starEach (e :: es) X.env = (false, eval e X.env) :: starEach es X.env := by rfl)
    (hpl : (backTo pos (starEach es X.env)).any (·.1) = false := by rfl) : PE X (.Call (.Name x p) (e :: es) [] pos) (tCall sp dvs E t) := by
  constructor
  intro pins s σ H Q I h
  refine wpAny_Call_Name_kw (ld_glob I hg hm ?_ hdb)
  refine PySem.W.callWith_K (h₀ := X.base) I.ok.mod.kin hk (thn (ha.run pos pins s σ H _ I h) ?_) he hpl
  rintro us s1 ⟨vs, H1, I1, r, q⟩
  have rr : Vals (vs ++ dvs) (us ++ ds) := r.append hd
  have hl : (us ++ ds).length = ps.length := rr.length.symm.trans (F.sized _ _ _ _ q)
  refine ⟨I1.kIn, wpAny_call (codeAny_mono (F.goes X.A X.stack s1 H1 ⟨us, []⟩ _ _ Q E hr hgd I1.env0 (hb s1 us I1.kIn hl) rr q) fun r s' hq => ?_)⟩
  exact fin_call hx I1 hq

end

/-! ### repr of data -/
mutual
theorem dp_nodict {K : PySem.W.Frag} {H : Hp} : ∀ (d : PyData) (v : V), Dp K H v d → d.hasDict = false
  | .none, _, _ => by simp only [PyData.hasDict]
  | .bool _, _, _ => by simp only [PyData.hasDict]
  | .int _, _, _ => by simp only [PyData.hasDict]
  | .str _, _, _ => by simp only [PyData.hasDict]
  | .list ds, _, h => by
    cases h with
    | lst _ ha =>
      simp only [PyData.hasDict]
      exact dpAll_nodict ds _ ha
  | .tuple ds, _, h => by
    cases h with
    | tup _ ha =>
      simp only [PyData.hasDict]
      exact dpAll_nodict ds _ ha
  | .dict _, _, h => by cases h
theorem dpAll_nodict {K : PySem.W.Frag} {H : Hp} : ∀ (ds : List PyData) (vs : List V), DpAll K H vs ds → PyData.hasDictAll ds = false
  | [], _, _ => by simp only [PyData.hasDictAll]
  | d :: ds, _, h => by
    cases h with
    | cons h1 h2 => simp only [PyData.hasDictAll, dp_nodict d _ h1, dpAll_nodict ds _ h2, Bool.or_self]
end

def rRepr (K : PySem.W.Frag) : List V → Hp → VK → Prop := fun xs H Q =>
  ∃ x d, xs = [x] ∧ Dp K H x d ∧ d.showable = true ∧ d.depth ≤ 150 ∧ d.shown.length ≤ sizeLine ∧ Q (.str d.shown) H

theorem call_repr {X : Cx} {k : Nat} (hgd : X.A.guards = some []) (hr : Room k X.A) : CallR X (.builtin "repr") (rRepr X.K) := by
  intro pins s σ H xs us Q I r h
  obtain ⟨x, d, rfl, hd, hs, hdep, hsz, q⟩ := h
  obtain ⟨u, rfl, ru⟩ := vals1 r
  obtain ⟨as, rd⟩ := Dp.reads I d x u hd ru
  have hu := hr.un
  cases rd with
  | none => 
    simp only [PyData.shown] at q
    exact PySem.P.repr_of_none ⟨.str _, H, I.tok _, ⟨_, rfl⟩, q⟩
  | bool b =>
    simp only [PyData.shown] at q
    exact PySem.P.repr_of_bool ⟨.str _, H, I.tok _, ⟨_, rfl⟩, q⟩
  | int i t =>
    simp only [PyData.shown] at q
    exact PySem.P.repr_of_int (by simpa [PyData.showable] using hs) ⟨.str _, H, I.tok _, ⟨_, rfl⟩, q⟩
  | str y t =>
    simp only [PyData.shown] at q hsz
    exact PySem.P.repr_of_str ⟨.str _, H, I.tok _, ⟨_, rfl⟩, q⟩ hsz
  | list h1 h2 h3 h4 =>
    have nd := dp_nodict _ _ hd
    refine repr_of_reads' (.list h1 h2 h3 h4) hs (fun z => ?_) hgd (by omega) (fun _ _ e => e) (fun h' u tk hk => ⟨.str _, H, I.kept hk, ⟨_, rfl⟩, q⟩) hsz
    rw [nd] at z; cases z
  | tuple h1 h2 h3 h4 =>
    have nd := dp_nodict _ _ hd
    refine repr_of_reads' (.tuple h1 h2 h3 h4) hs (fun z => ?_) hgd (by omega) (fun _ _ e => e) (fun h' u tk hk => ⟨.str _, H, I.kept hk, ⟨_, rfl⟩, q⟩) hsz
    rw [nd] at z; cases z
  | dict h1 h2 h3 h4 h5 => cases hd

/-! ### the law's own call -/
section
variable {P : Program} {w : World} {K : PySem.W.Frag} {mg mb : Str → Option Value} {CX : CXT} {k : Nat} {fa a : Addr} {fd : FuncData} {x : Str} {sp : Sp} {s1 : Shared} {vs : List Value} {ns : List Int}

/-- from an abstract heap H that tracks the script at most -/
theorem law_core (KX : K.In s1.heap) (hns : s1.heap.Ns mainGlobals mg) (hb : s1.heap.Ns builtinsNs mb)
    (hbb : ∀ x : Str, x ≠ "__name__" → mb x = bootBuiltins x) (hlim : s1.heap.NoLimit) (hg : s1.gens = #[])
    (ha : s1.heap.get? a = some { cls := .type "list", data := .seq vs.toArray }) (hr : Room k callerA)
    (F : ∀ base : Heap, K.In base → base.Ns mainGlobals mg → FnG P w K mg base CX k fa fd [x] sp)
    (hbind : ∀ (s : Shared) (u : Value), BindsTo s fd ⟨[u], []⟩ [(x, u)])
    {H : Hp} (only : Only H) (hok : HOk P w H s1.heap) (hA : ∀ b, H b ≠ none → b = a) (hK : H a ≠ none → K.lookup a = none)
    (hsp : sp [.ref a] H (fun v _ => v = .bl true) fun _ _ _ => False)
    (hCX : ∀ e s', CX [] H s1 (fun _ _ _ => False) e s' → False) :
    codeAny (model P w) callerA (.call (.ref fa) ⟨[.ref a], []⟩)
      (fun r s' => r = .ok (.ret (.bool true)) ∧ OldK s1.heap s'.heap ∧ s'.os = s1.os ∧ AllBare s'.gens) s1 := by
  have tracked : ∀ {b : Addr} {u : HO}, H b = some u → b = a := fun {b u} q => hA b (by simp [q])
  have dictFree : ∀ {b : Addr} {o : Obj} {es : Array DictEntry} {ep : Nat}, s1.heap.get? b = some o → o.data = .dict es ep → H b = none := by
    intro b o es ep e d
    cases q : H b with
    | none => rfl
    | some u =>
      rw [tracked q, ha] at e
      cases e
      cases d
  have nsK : ∀ {b : Addr} {m : Str → Option Value}, s1.heap.Ns b m → (hidT s1.heap H).Ns b m := by
    rintro b m ⟨o, es, ep, e, d, r⟩
    exact ⟨o, es, ep, hidT_get e (dictFree e d), d, r⟩
  have kin : K.In (hidT s1.heap H) := by
    intro b o e
    refine hidT_get (KX b o e) ?_
    cases q : H b with
    | none => rfl
    | some u =>
      have eb := tracked q
      subst eb
      rw [hK (by simp [q])] at e
      cases e
  have md : Mod K mg (hidT s1.heap H) := by
    obtain ⟨mc, l1, l2⟩ := hlim
    exact ⟨kin, nsK hns, ⟨mb, nsK hb, hbb⟩, ⟨mc, nsK l1, l2⟩⟩
  have e0 : Env0 P w K mg (hidT s1.heap H) callerA [] s1 H :=
    { frames := rfl, mod := md, bs := fun b o e => of_hidT e, bsz := Nat.le_of_eq (hidT_size _ _), funs := trivial,
      frf := fun b z => absurd (show b ∈ ([] : List Addr) from z) List.not_mem_nil, hok := hok, bare := .of_eq hg }
  have go := (F _ kin (nsK hns)).goes callerA [] s1 H ⟨[.ref a], []⟩ [.ref a] [.ref a] _ _ hr rfl e0 (hbind s1 (.ref a)) (.cons rfl .nil) hsp
  refine codeAny_mono go fun r s' h => ?_
  cases r with
  | error e => exact (hCX e s' h).elim
  | ok fl =>
    cases fl with
    | next => exact h.elim
    | brk => exact h.elim
    | cont => exact h.elim
    | ret u =>
      obtain ⟨v, H', os, bare, un, hok', r', q⟩ := h
      have ev : v = .bl true := q
      subst ev
      have eu : u = Value.bool true := r'
      subst eu
      refine ⟨rfl, OldK.of_keep fun b o e => ?_, os, bare⟩
      rcases only b with z | ⟨ob, xs, z⟩
      · exact un.keep b o e z (fun y => absurd (show b ∈ ([] : List Addr) from y) List.not_mem_nil) List.not_mem_nil
      · obtain ⟨e1, _⟩ := hok b _ z
        obtain ⟨e2, _⟩ := hok' b _ (un.frzs b ob _ z)
        rw [e1] at e
        cases e
        exact e2

theorem law_callG (KX : K.In s1.heap) (hns : s1.heap.Ns mainGlobals mg) (hb : s1.heap.Ns builtinsNs mb)
    (hbb : ∀ x : Str, x ≠ "__name__" → mb x = bootBuiltins x) (hlim : s1.heap.NoLimit) (hg : s1.gens = #[])
    (ha : s1.heap.get? a = some { cls := .type "list", data := .seq vs.toArray }) (hi : IntsAre vs ns) (hl : ns.length ≤ sizeLine) (hr : Room k callerA)
    (F : ∀ base : Heap, K.In base → base.Ns mainGlobals mg → FnG P w K mg base CX k fa fd [x] sp)
    (hbind : ∀ (s : Shared) (u : Value), BindsTo s fd ⟨[u], []⟩ [(x, u)])
    (hsp : ∀ H : Hp, Only H → SqL K H a (ns.map V.int) → sp [.ref a] H (fun v _ => v = .bl true) fun _ _ _ => False)
    (hCX : ∀ H e s', CX [] H s1 (fun _ _ _ => False) e s' → False) :
    codeAny (model P w) callerA (.call (.ref fa) ⟨[.ref a], []⟩)
      (fun r s' => r = .ok (.ret (.bool true)) ∧ OldK s1.heap s'.heap ∧ s'.os = s1.os ∧ AllBare s'.gens) s1 := by
  have rv := vals_ints hi
  cases hk : K.lookup a with
  | some o =>
    have e := KX a o hk
    rw [ha] at e
    cases e
    have on : Only (fun _ => none) := fun _ => .inl rfl
    refine law_core KX hns hb hbb hlim hg ha hr F hbind on (fun b u z => by cases z) (fun b z => absurd rfl z) (fun z => absurd rfl z) (hsp _ on (.inr ?_)) (hCX _)
    exact ⟨_, vs.toArray, _, hk, rfl, rfl, rfl, by rw [List.size_toArray, hi.length]; exact hl, by simpa using rv⟩
  | none =>
    let o : Obj := { cls := .type "list", data := .seq vs.toArray }
    let H : Hp := upd (fun _ => none) a (.frz o (.lst (ns.map V.int)))
    have hH : H a = some (.frz o (.lst (ns.map V.int))) := upd_same
    have hN : ∀ b, b ≠ a → H b = none := fun b z => upd_ne z
    have on : Only H := by
      intro b
      by_cases e : b = a
      · subst e; exact .inr ⟨_, _, hH⟩
      · exact .inl (hN b e)
    refine law_core KX hns hb hbb hlim hg ha hr F hbind on (fun b u z => ?_) (fun b z => ?_) (fun _ => hk) (hsp H on (.inl (.inr ⟨o, hH⟩))) (hCX _)
    · by_cases e : b = a
      · subst e
        rw [hH] at z
        cases z
        exact ⟨ha, by rw [List.length_map]; exact hl, vs, _, rv, ha⟩
      · rw [hN b e] at z; cases z
    · by_cases e : b = a
      · exact e
      · exact absurd (hN b e) z
end

/-- the walk that a head by facts asks for, with the script's bits -/
theorem walkG {l : PySem.W.OpenLaw} {n k : Nat} {q : Program} {loose : List Str} {XP : (Str → Option Value) → Heap → Prop} {YP : World → Heap → Prop} {d : DefRec} {CX : CXT} {x : Str}
    (hn : l.most = some n) (hn2 : n ≤ sizeLine) (hdf : d.params.defaults = []) (hr : Room k callerA)
    (F : ∀ (w : World) (mg : Str → Option Value) (fa : Addr) (h : Heap), YP w h → h.Ns mainGlobals mg → mg d.name = some (.ref fa) →
      ∃ (K : PySem.W.Frag) (fd : FuncData) (sp : Sp), K.In h ∧ (∀ (s : Shared) (u : Value), BindsTo s fd ⟨[u], []⟩ [(x, u)]) ∧
        (∀ (H : Hp) (a : Addr) (ns : List Int), ns.length ≤ n → (∀ z ∈ ns, Builtin.Int.intBits z ≤ 1048576) → Only H → SqL K H a (ns.map V.int) →
          sp [.ref a] H (fun v _ => v = .bl true) fun _ _ _ => False) ∧
        ∀ base : Heap, K.In base → base.Ns mainGlobals mg → FnG l.prog w K mg base CX k fa fd [x] sp)
    (hCX : ∀ (H : Hp) (s : Shared) (e : Value) (s' : Shared), CX [] H s (fun _ _ _ => False) e s' → False) :
    PySem.W.WalkO q loose XP YP l.row.toRowW d [] (fun f vs => PySem.call f vs) := by
  refine Att.attach_callB hn hdf ?_
  intro w s₀ s₁ mg mb fa o pm cd doc a vs ns G Y ho hd hcd hmg hobj hints hlen hbits hg
  obtain ⟨K, fd, sp, KX, hb, hsp, hF⟩ := F w mg fa _ Y G.T.g hmg
  exact law_callG KX G.T.g G.T.b G.T.builtins G.T.nolimit hg hobj hints (Nat.le_trans hlen hn2) hr hF hb (fun H hO hS => hsp H a ns hlen hbits hO hS) (fun H e s' => hCX H s₁ e s')
end HG

set_option maxHeartbeats 4000000
/-! HW: short words over HG: defs called by name (Cal), data, frames. -/
namespace HG
open PySem PySem.Spec PyProof.Rows L2

/-! ### a def of the top, ready to be called -/
structure Cal (P : Program) (w : World) (K : PySem.W.Frag) (mg : Str → Option Value) (base : Heap) (x : Str) (k : Nat) (ps : List Str) (sp : Sp) : Prop where
  ex : ∃ fd, FnOk P w K mg base CX0 k (He.ga K x) fd ps sp ∧ Binds K fd ps []
  gl : mg x = some (.ref (He.ga K x))
  kp : PySem.W.keepIn K (.ref (He.ga K x)) = true
structure CalG (P : Program) (w : World) (K : PySem.W.Frag) (mg : Str → Option Value) (base : Heap) (x : Str) (k : Nat) (ps : List Str) (sp : Sp) : Prop where
  ex : ∃ fd, FnG P w K mg base CX0 k (He.ga K x) fd ps sp ∧ Binds K fd ps []
  gl : mg x = some (.ref (He.ga K x))
  kp : PySem.W.keepIn K (.ref (He.ga K x)) = true
/-- called by keywords alone -/
structure CalK (P : Program) (w : World) (K : PySem.W.Frag) (mg : Str → Option Value) (base : Heap) (x : Str) (k : Nat) (ks ps : List Str) (gV : List V → List V) (sp : Sp) : Prop where
  ex : ∃ fd g, FnOk P w K mg base CX0 k (He.ga K x) fd ps sp ∧ KBn K fd ps 0 ks g (fun _ zs => gV zs)
  gl : mg x = some (.ref (He.ga K x))
  kp : PySem.W.keepIn K (.ref (He.ga K x)) = true
section
variable {X : Cx} {k : Nat} {ps ks : List Str} {sp : Sp} {x : Str} {p pos : Pos} {e : Expr} {es : List Expr} {t tk : TA} {kws : List Keyword} {gV : List V → List V}
theorem pe_cal (C : Cal X.prog X.w X.K X.mg X.base x k ps sp) (hr : Room k X.A) (hg : Gl X x) (ha : PA X (e :: es) t)
    (hdb : (x == ("__debug__" : Str)) = false := by decide)
    (he : starEach (e :: es) X.env = (false, eval e X.env) :: starEach es X.env := by rfl)
    (hpl : (backTo pos (starEach es X.env)).any (·.1) = false := by rfl) : PE X (.Call (.Name x p) (e :: es) [] pos) (tCall sp [] E0 t) := by
  obtain ⟨fd, F, b⟩ := C.ex
  exact pe_call F hr hg C.gl C.kp b .nil pass0 ha hdb he hpl
theorem pe_calG (C : CalG X.prog X.w X.K X.mg X.base x k ps sp) (hr : Room k X.A) (hgd : X.A.guards = some []) (hg : Gl X x) (ha : PA X (e :: es) t)
    (hdb : (x == ("__debug__" : Str)) = false := by decide)
    (he : starEach (e :: es) X.env = (false, eval e X.env) :: starEach es X.env := by rfl)
    (hpl : (backTo pos (starEach es X.env)).any (·.1) = false := by rfl) : PE X (.Call (.Name x p) (e :: es) [] pos) (tCall sp [] E0 t) := by
  obtain ⟨fd, F, b⟩ := C.ex
  exact pe_callG F hr hgd hg C.gl C.kp b .nil pass0 ha hdb he hpl
def tCalK (m : Nat) (sp : Sp) (gV : List V → List V) (tk : TA) : TE := fun σ H Q => tk σ H fun zs H1 => zs.length = m ∧ sp (gV zs) H1 Q E0
theorem pe_calK (C : CalK X.prog X.w X.K X.mg X.base x k ks ps gV sp) (hr : Room k X.A) (hg : Gl X x) (hkw : PK X kws tk)
    (hall : (backToKw pos (keywordEach kws X.env)).all (·.1.isSome) = true := by rfl)
    (hks : (backToKw pos (keywordEach kws X.env)).filterMap (·.1) = ks := by rfl)
    (hdb : (x == ("__debug__" : Str)) = false := by decide)
    (hpl : ((backTo pos (starEach [] X.env)).any (·.1) || (backToKw pos (keywordEach kws X.env)).any (·.1.isNone)) = false := by rfl) :
    PE X (.Call (.Name x p) [] kws pos) (tCalK ks.length sp gV tk) := by
  obtain ⟨fd, g, F, b⟩ := C.ex
  constructor
  intro pins s σ H Q I h
  refine wpAny_Call_Name_kw (ld_glob I hg C.gl ?_ hdb)
  refine PySem.W.callWith_KW0 (h₀ := X.base) I.ok.mod.kin C.kp hall (thn (hkw.run pos pins s σ H _ I h) ?_) hpl
  rintro ws s2 ⟨zs, H2, I2, rz, l2, q2⟩
  rw [hks]
  exact ⟨I2.kIn, run_fnN (us := []) (vs := []) F hr b pass0 I2 .nil rz rfl l2 q2⟩
theorem pe_globI {i : Int} (h : ∃ t, X.mg x = some (.int i t)) (hg : Gl X x) (hd : (x == ("__debug__" : Str)) = false := by decide) : PE X (.Name x pos) (tC (.int i)) := by
  obtain ⟨t, h⟩ := h
  exact pe_glob hg h ⟨t, rfl⟩ hd
theorem pe_globS {z : Str} (h : ∃ t, X.mg x = some (.str z t)) (hg : Gl X x) (hd : (x == ("__debug__" : Str)) = false := by decide) : PE X (.Name x pos) (tC (.str z)) := by
  obtain ⟨t, h⟩ := h
  exact pe_glob hg h ⟨t, rfl⟩ hd
end

/-! ### data -/
def tyN : PyData → String
  | .none => "NoneType"
  | .bool _ => "bool"
  | .int _ => "int"
  | .str _ => "str"
  | .list _ => "list"
  | .tuple _ => "tuple"
  | .dict _ => "dict"
theorem dp_ty {K : PySem.W.Frag} {H : Hp} {v : V} {d : PyData} (h : Dp K H v d) : TyX K H v (.type (tyN d)) := by
  cases h with
  | non => exact .base .non
  | bl b => exact .base (.bl b)
  | int i => exact .base (.int i)
  | str x => exact .base (.str x)
  | lst s _ =>
    rcases s with (e | ⟨o, e⟩) | ⟨o, _, _, e, c, _⟩
    · exact .base (.lst e)
    · exact .base (.frz e)
    · exact .kList e c
  | tup s _ =>
    rcases s with (e | ⟨o, e⟩) | ⟨o, _, _, e, c, _⟩
    · exact .base (.tup e)
    · exact .fTuple e
    · exact .kTuple e c
theorem isi_of {K : PySem.W.Frag} {H : Hp} {v : V} {d : PyData} {n : String} {b : Bool} {Q : VK} (h : Dp K H v d) (hk : kitB (tyN d) n = some b) (q : Q (.bl b) H) : rIsi K [v, .ty n] H Q :=
  ⟨v, .ty n, _, _, b, rfl, .ty n, dp_ty h, kit_ty hk, q⟩
def isI : PyData → Bool
  | .int _ => true
  | .bool _ => true
  | _ => false
def isB : PyData → Bool
  | .bool _ => true
  | _ => false
def isS : PyData → Bool
  | .str _ => true
  | _ => false
def isL : PyData → Bool
  | .list _ => true
  | _ => false
def isT : PyData → Bool
  | .tuple _ => true
  | _ => false
theorem kit_int : ∀ d : PyData, kitB (tyN d) "int" = some (isI d)
  | .none => (by decide +kernel : kitB "NoneType" "int" = some false)
  | .bool _ => (by decide +kernel : kitB "bool" "int" = some true)
  | .int _ => (by decide +kernel : kitB "int" "int" = some true)
  | .str _ => (by decide +kernel : kitB "str" "int" = some false)
  | .list _ => (by decide +kernel : kitB "list" "int" = some false)
  | .tuple _ => (by decide +kernel : kitB "tuple" "int" = some false)
  | .dict _ => (by decide +kernel : kitB "dict" "int" = some false)
theorem kit_bool : ∀ d : PyData, kitB (tyN d) "bool" = some (isB d)
  | .none => (by decide +kernel : kitB "NoneType" "bool" = some false)
  | .bool _ => (by decide +kernel : kitB "bool" "bool" = some true)
  | .int _ => (by decide +kernel : kitB "int" "bool" = some false)
  | .str _ => (by decide +kernel : kitB "str" "bool" = some false)
  | .list _ => (by decide +kernel : kitB "list" "bool" = some false)
  | .tuple _ => (by decide +kernel : kitB "tuple" "bool" = some false)
  | .dict _ => (by decide +kernel : kitB "dict" "bool" = some false)
theorem kit_str : ∀ d : PyData, kitB (tyN d) "str" = some (isS d)
  | .none => (by decide +kernel : kitB "NoneType" "str" = some false)
  | .bool _ => (by decide +kernel : kitB "bool" "str" = some false)
  | .int _ => (by decide +kernel : kitB "int" "str" = some false)
  | .str _ => (by decide +kernel : kitB "str" "str" = some true)
  | .list _ => (by decide +kernel : kitB "list" "str" = some false)
  | .tuple _ => (by decide +kernel : kitB "tuple" "str" = some false)
  | .dict _ => (by decide +kernel : kitB "dict" "str" = some false)
theorem kit_list : ∀ d : PyData, kitB (tyN d) "list" = some (isL d)
  | .none => (by decide +kernel : kitB "NoneType" "list" = some false)
  | .bool _ => (by decide +kernel : kitB "bool" "list" = some false)
  | .int _ => (by decide +kernel : kitB "int" "list" = some false)
  | .str _ => (by decide +kernel : kitB "str" "list" = some false)
  | .list _ => (by decide +kernel : kitB "list" "list" = some true)
  | .tuple _ => (by decide +kernel : kitB "tuple" "list" = some false)
  | .dict _ => (by decide +kernel : kitB "dict" "list" = some false)
theorem kit_tuple : ∀ d : PyData, kitB (tyN d) "tuple" = some (isT d)
  | .none => (by decide +kernel : kitB "NoneType" "tuple" = some false)
  | .bool _ => (by decide +kernel : kitB "bool" "tuple" = some false)
  | .int _ => (by decide +kernel : kitB "int" "tuple" = some false)
  | .str _ => (by decide +kernel : kitB "str" "tuple" = some false)
  | .list _ => (by decide +kernel : kitB "list" "tuple" = some false)
  | .tuple _ => (by decide +kernel : kitB "tuple" "tuple" = some true)
  | .dict _ => (by decide +kernel : kitB "dict" "tuple" = some false)

mutual
theorem dp_mono {K : PySem.W.Frag} {H H' : Hp} (e : Same H H') : ∀ (d : PyData) (v : V), Dp K H v d → Dp K H' v d
  | .none, _, h => by cases h; exact .non
  | .bool b, _, h => by cases h; exact .bl b
  | .int i, _, h => by cases h; exact .int i
  | .str x, _, h => by cases h; exact .str x
  | .list ds, _, h => by
    cases h with
    | lst s a =>
      refine .lst ?_ (dpAll_mono e ds _ a)
      rcases s with (s | ⟨o, s⟩) | s
      · exact .inl (.inl (e _ _ s))
      · exact .inl (.inr ⟨o, e _ _ s⟩)
      · exact .inr s
  | .tuple ds, _, h => by
    cases h with
    | tup s a =>
      refine .tup ?_ (dpAll_mono e ds _ a)
      rcases s with (s | ⟨o, s⟩) | s
      · exact .inl (.inl (e _ _ s))
      · exact .inl (.inr ⟨o, e _ _ s⟩)
      · exact .inr s
  | .dict _, _, h => by cases h
theorem dpAll_mono {K : PySem.W.Frag} {H H' : Hp} (e : Same H H') : ∀ (ds : List PyData) (vs : List V), DpAll K H vs ds → DpAll K H' vs ds
  | [], _, h => by cases h; exact .nil
  | d :: ds, _, h => by
    cases h with
    | cons a b => exact .cons (dp_mono e d _ a) (dpAll_mono e ds _ b)
end
theorem dpAll_len {K : PySem.W.Frag} {H : Hp} : ∀ {vs : List V} {ds : List PyData}, DpAll K H vs ds → vs.length = ds.length
  | _, _, .nil => rfl
  | _, _, .cons _ h => congrArg (· + 1) (dpAll_len h)
theorem dpAll_app {K : PySem.W.Frag} {H : Hp} : ∀ {vs us : List V} {ds es : List PyData}, DpAll K H vs ds → DpAll K H us es → DpAll K H (vs ++ us) (ds ++ es)
  | _, _, _, _, .nil, h => h
  | _, _, _, _, .cons a b, h => .cons a (dpAll_app b h)
theorem dpAll_get {K : PySem.W.Frag} {H : Hp} : ∀ {vs : List V} {ds : List PyData} {i : Nat} {v : V}, DpAll K H vs ds → vs[i]? = some v → ∃ d, ds[i]? = some d ∧ Dp K H v d
  | _, _, _, _, .nil, h => by simp at h
  | _, _, 0, _, .cons a _, h => by
    simp at h
    subst h
    exact ⟨_, rfl, a⟩
  | _, _, i + 1, _, .cons _ b, h => by
    obtain ⟨d, e, q⟩ := dpAll_get (i := i) b (by simpa using h)
    exact ⟨d, by simpa using e, q⟩

theorem dpInts {K : PySem.W.Frag} {H : Hp} : ∀ ns : List Int, DpAll K H (ns.map V.int) (ns.map PyData.int)
  | [] => .nil
  | n :: ns => .cons (.int n) (dpInts ns)
theorem canLay_ints : ∀ ns : List Int, PyData.canLayAll0 (ns.map PyData.int) = true
  | [] => by simp only [List.map_nil, PyData.canLayAll0]
  | n :: ns => by simp only [List.map_cons, PyData.canLayAll0, PyData.canLay0, canLay_ints ns, Bool.and_self]
theorem depth_ints : ∀ ns : List Int, PyData.depthAll (ns.map PyData.int) ≤ 1
  | [] => by simp only [List.map_nil, PyData.depthAll]; omega
  | n :: ns => by
    have := depth_ints ns
    simp only [List.map_cons, PyData.depthAll, PyData.depth]
    omega
theorem shaped_ints (ns : List Int) : SeqAt.shaped (.list (ns.map PyData.int)) = true := by
  have h := depth_ints ns
  have h2 : (PyData.list (ns.map PyData.int)).depth ≤ 64 := by
    simp only [PyData.depth]
    omega
  unfold SeqAt.shaped
  simp only [PyData.canLay0, canLay_ints ns, Bool.true_and]
  exact decide_eq_true h2
theorem upd_get {H : Hp} {p b : Addr} {o u : HO} (hp : H p = none) (h : H b = some u) : upd H p o b = some u := by
  rw [upd_ne (ne_of_none h hp)]
  exact h

/-! ### heaps but for two places -/
def off (d c : Addr) (H : Hp) : Hp := fun b => if b = d ∨ b = c then none else H b
theorem off_same {d c : Addr} {H : Hp} : Same (off d c H) H := fun b o h => by
  unfold off at h
  split at h
  · cases h
  · exact h
theorem off_get {d c b : Addr} {H : Hp} (h1 : b ≠ d) (h2 : b ≠ c) : off d c H b = H b := if_neg (fun z => z.elim h1 h2)
def Ext (d c : Addr) (H H' : Hp) : Prop := Same (off d c H) (off d c H')
theorem Ext.refl {d c : Addr} (H : Hp) : Ext d c H H := fun _ _ h => h
theorem Ext.trans {d c : Addr} {H H1 H2 : Hp} (a : Ext d c H H1) (b : Ext d c H1 H2) : Ext d c H H2 := fun x o h => b x o (a x o h)
theorem Ext.d {d c : Addr} {H : Hp} {o : HO} : Ext d c H (upd H d o) := fun b u h => by
  unfold off at h ⊢
  split at h
  · cases h
  · rename_i n
    rw [if_neg n, upd_ne (fun z => n (.inl z))]
    exact h
theorem Ext.c {d c : Addr} {H : Hp} {o : HO} : Ext d c H (upd H c o) := fun b u h => by
  unfold off at h ⊢
  split at h
  · cases h
  · rename_i n
    rw [if_neg n, upd_ne (fun z => n (.inr z))]
    exact h
theorem Ext.new {d c p : Addr} {H : Hp} {o : HO} (hp : H p = none) : Ext d c H (upd H p o) := fun b u h => by
  unfold off at h ⊢
  split at h
  · cases h
  · rename_i n
    rw [if_neg n, upd_ne (ne_of_none h hp)]
    exact h
/-- an object that was not there may change -/
theorem Ext.mut {d c p : Addr} {H H' : Hp} {o : HO} (e : Ext d c H H') (hp : H p = none) : Ext d c H (upd H' p o) := fun b u h => by
  have h1 := e b u h
  unfold off at h h1 ⊢
  split at h
  · cases h
  · rename_i n
    rw [if_neg n] at h1
    rw [if_neg n, upd_ne (ne_of_none h hp)]
    exact h1
theorem Ext.at {d c b : Addr} {H H' : Hp} {o : HO} (e : Ext d c H H') (h1 : b ≠ d) (h2 : b ≠ c) (h : H b = some o) : H' b = some o := by
  have := e b o ((off_get h1 h2).trans h)
  rw [off_get h1 h2] at this
  exact this
/-- of H' what H had not -/
def news (H H' : Hp) : Hp := fun b => if (H b).isSome = true then none else H' b
theorem news_get {H H' : Hp} {b : Addr} {o : HO} : news H H' b = some o ↔ H b = none ∧ H' b = some o := by
  unfold news
  cases h : H b with
  | none => simp
  | some u => simp
theorem news_same {H H' : Hp} : Same (news H H') H' := fun b o h => (news_get.mp h).2
theorem Ext.sqL {K : PySem.W.Frag} {d c : Addr} {H H' : Hp} {a : Addr} {xs : List V} (e : Ext d c H H') (h : SqL K (off d c H) a xs) : SqL K (off d c H') a xs := Same.seq e h
theorem offL {K : PySem.W.Frag} {d c : Addr} {H : Hp} {a : Addr} {xs : List V} (h : SqL K (off d c H) a xs) : SqL K H a xs := Same.seq off_same h
theorem offD {K : PySem.W.Frag} {d c : Addr} {H : Hp} {v : V} {D : PyData} (h : Dp K (off d c H) v D) : Dp K H v D := dp_mono off_same D v h
theorem Ext.dp {K : PySem.W.Frag} {d c : Addr} {H H' : Hp} {v : V} {D : PyData} (e : Ext d c H H') (h : Dp K (off d c H) v D) : Dp K (off d c H') v D := dp_mono e D v h
theorem tyes {σ : L2.St} {H : Hp} {A B : Hp → Prop} (h : A H) : tYes σ H fun b H3 => if b = true then A H3 else B H3 := by
  show if true = true then A H else B H
  exact iteT h
/-! ### texts -/
abbrev cp (z : Str) : List Nat := z.cps.toList
theorem cp_len (z : Str) : (cp z).length = z.length := by unfold cp; simp [Str.length]
theorem cp_app (a b : Str) : cp (a ++ b) = cp a ++ cp b := by
  unfold cp
  rw [Str.cps_append, Array.toList_append]
theorem cp_ext {a b : Str} (h : cp a = cp b) : a = b := Str.ext' (Array.toList_inj.mp h)
structure OkS (m : Nat) (z : Str) : Prop where
  len : z.length ≤ m
  cps : ∀ c ∈ cp z, c < 128
theorem OkS.up {m n : Nat} {z : Str} (h : OkS m z) (hn : m ≤ n) : OkS n z := ⟨Nat.le_trans h.len hn, h.cps⟩
theorem OkS.app {m n : Nat} {a b : Str} (h : OkS m a) (g : OkS n b) : OkS (m + n) (a ++ b) := by
  refine ⟨?_, fun c hc => ?_⟩
  · rw [Str.length_append]
    have := h.len
    have := g.len
    omega
  · rw [cp_app] at hc
    rcases List.mem_append.mp hc with q | q
    · exact h.cps c q
    · exact g.cps c q
theorem OkS.cut {m : Nat} {z : Str} (h : OkS m z) (lo hi : Option Int) : OkS m (cutS z lo hi) := by
  have e : cp (cutS z lo hi) = ((cp z).drop (HT.sIx z.length 0 lo)).take (HT.sIx z.length z.length hi - HT.sIx z.length 0 lo) := by
    unfold cutS cp
    simp
  refine ⟨?_, fun c hc => ?_⟩
  · rw [← cp_len, e, List.length_take, List.length_drop, cp_len]
    have := h.len
    omega
  · rw [e] at hc
    exact h.cps c (List.mem_of_mem_drop (List.mem_of_mem_take hc))
theorem OkS.one {c : Nat} (h : c < 128) : OkS 1 ⟨#[c]⟩ := ⟨by simp [Str.length], fun x hx => by simp [cp] at hx; omega⟩
theorem OkS.repr {m : Nat} {z : Str} (h : OkS m z) : (reprText z).length ≤ 10 * m + 2 := by
  have h1 := StrLaws.reprText_len z (fun c hc => Nat.lt_of_lt_of_le (h.cps c hc) (by decide))
  have := h.len
  omega
theorem cp_join0 : ∀ l : List Str, cp (Str.join "" l) = (l.map cp).flatten
  | [] => rfl
  | [x] => by
    show cp x = _
    simp
  | x :: y :: r => by
    show cp (x ++ "" ++ Str.join "" (y :: r)) = _
    rw [cp_app, cp_app, cp_join0 (y :: r)]
    have e : cp ("" : Str) = [] := rfl
    rw [e]
    simp
theorem cp_joinT (l : List Str) : cp (Txt.join "" l) = (l.map cp).flatten := by
  rw [eq_of_beq (join_plain_closes "" l)]
  exact cp_join0 l
end HG

set_option maxHeartbeats 4000000
/-! HH: a head's facts by a Hook with one more Bool; written dicts with text keys; written tuples. -/
namespace HG
open PySem PySem.Spec PyProof.Rows L2

/-! ### the Hook -/
abbrev AlB : Type := He.AlT × Bool
def obsB (fa : List He.Fa) (fn : List He.DefD) (ts : List He.Tab) (bx : PySem.W.Frag → Bool) (K : PySem.W.Frag) : AlB := (He.obsT fa fn ts K, bx K)
def obsBG (n : Nat) (fa : List He.Fa) (fn : List He.DefD) (ts : List He.Tab) (bx : PySem.W.Frag → Bool) (g : Addr → Option Obj) : AlB := obsB fa fn ts bx (He.frG g (He.asD g n))
def SaysB (fa : List He.Fa) (fn : List He.DefD) (ts : List He.Tab) (bx : PySem.W.Frag → Bool) (w : World) (K : PySem.W.Frag) : Prop := obsB fa fn ts bx K = (He.valT fn ts w, true)
def hookB (n : Nat) (fa : List He.Fa) (fn : List He.DefD) (ts : List He.Tab) (bx : PySem.W.Frag → Bool) : PySem.W.Hook where
  α := AlB
  obs := fun s => obsBG n fa fn ts bx s.heap.get?
  val := fun w => (He.valT fn ts w, true)
  says := fun w h => ∃ K : PySem.W.Frag, K.In h ∧ SaysB fa fn ts bx w K
  of := fun _ _ e => ⟨_, He.frG_in, e⟩
  keeps := fun _ _ _ ⟨K, hK, c⟩ k => ⟨K, PySem.W.Frag.In.keeps hK k, c⟩
theorem obsBG_eq {n : Nat} {fa : List He.Fa} {fn : List He.DefD} {ts : List He.Tab} {bx : PySem.W.Frag → Bool} {g : Addr → Option Obj} {s : Shared} (h : ∀ a, g a = s.heap.get? a) :
    obsBG n fa fn ts bx g = (hookB n fa fn ts bx).obs s := by
  have e : g = s.heap.get? := funext h
  rw [e]
  rfl
section
variable {fa : List He.Fa} {fn : List He.DefD} {ts : List He.Tab} {bx : PySem.W.Frag → Bool} {w : World} {K : PySem.W.Frag}
theorem SaysB.t (c : SaysB fa fn ts bx w K) : He.SaysT fa fn ts w K := congrArg (fun z : AlB => z.1) c
theorem SaysB.d (c : SaysB fa fn ts bx w K) : He.SaysD fa fn K := c.t.d
theorem SaysB.b (c : SaysB fa fn ts bx w K) : bx K = true := congrArg (fun z : AlB => z.2) c
end

/-! ### a written dict with text keys -/
structure KTab (K : PySem.W.Frag) (w : World) (a : Addr) (kvs : List (Str × V)) : Prop where
  dict : ∃ es n, KDict K w a es n
  hit : ∀ q ∈ kvs, ∃ u, PySem.W.nsIn K a q.1 = some (some u) ∧ RelV q.2 u
  miss : ∀ z : Str, z ∉ kvs.map (·.1) → PySem.W.nsIn K a z = some none
theorem keys_mem {P : Params} : ∀ {l : List DictEntry} {ks : List Str}, l.map He.keyOf = He.keysIn P ks → ∀ e ∈ l, ∃ x t, e.key = .str x t ∧ x ∈ ks
  | [], _, _, e, he => nomatch he
  | e :: r, [], h, _, _ => by cases h
  | e :: r, k :: ks, h, d, hd => by
    have h1 : He.keyOf e :: r.map He.keyOf = some (k, PyData.keyHash P k) :: He.keysIn P ks := h
    injection h1 with h2 h3
    rcases List.mem_cons.mp hd with rfl | hd
    · unfold He.keyOf at h2
      split at h2
      · rename_i x t q
        have h4 := Option.some.inj h2
        obtain ⟨h5, h6⟩ := Prod.mk.inj h4
        exact ⟨x, t, q, by rw [h5]; exact List.mem_cons_self⟩
      · cases h2
    · obtain ⟨x, t, q, hx⟩ := keys_mem h3 d hd
      exact ⟨x, t, q, List.mem_cons_of_mem _ hx⟩
theorem ns_miss {K : PySem.W.Frag} {P : Params} {a : Addr} {ks : List Str} (h : He.dicW K a = some (He.keysIn P ks)) {z : Str} (hz : z ∉ ks) : PySem.W.nsIn K a z = some none := by
  unfold He.dicW at h
  cases q : K.lookup a with
  | none =>
    rw [q] at h
    cases h
  | some o =>
    obtain ⟨oc, od, dt, osl⟩ := o
    rw [q] at h
    cases oc with
    | type c =>
      cases od with
      | none =>
        cases dt with
        | dict es n =>
          have h1 : (match decide (c = "dict") && (osl.isEmpty && !(a == sysModules)) with
            | true => some (es.toList.map He.keyOf)
            | false => none) = some (He.keysIn P ks) := h
          have h2 : es.toList.map He.keyOf = He.keysIn P ks := by
            cases y : decide (c = "dict") && (osl.isEmpty && !(a == sysModules)) with
            | false =>
              rw [y] at h1
              cases h1
            | true =>
              rw [y] at h1
              exact Option.some.inj h1
          have hk := keys_mem h2
          unfold PySem.W.nsIn
          rw [q]
          have e1 : es.toList.find? (·.key.isStr z) = none := by
            rw [List.find?_eq_none]
            intro e he
            obtain ⟨x, t, ex, hx⟩ := hk e he
            rw [ex]
            show ¬ (Value.str x t).isStr z = true
            intro hs
            have : x = z := by
              first
                | exact (beq_iff_eq.mp hs)
                | exact of_decide_eq_true hs
                | (simp [Value.isStr] at hs; exact hs)
            exact hz (this ▸ hx)
          have e2 : es.toList.any (·.refKey) = false := by
            rw [List.any_eq_false]
            intro e he
            obtain ⟨x, t, ex, hx⟩ := hk e he
            unfold DictEntry.refKey
            rw [ex]
            simp
          show (match es.toList.find? (·.key.isStr z) with
            | some e => some (some e.val)
            | none => if es.toList.any (·.refKey) then none else some none) = some none
          rw [e1, e2]
          rfl
        | _ => cases h
      | some b => cases dt <;> cases h
    | _ => cases od <;> cases dt <;> cases h
theorem ktab_mk {fa : List He.Fa} {fn : List He.DefD} {ts : List He.Tab} {bx : PySem.W.Frag → Bool} {w : World} {K : PySem.W.Frag} (c : SaysB fa fn ts bx w K) (i : Nat) {t : He.Tab} {kvs : List (Str × He.Dv)}
    (h : ts[i]? = some t) (hk : t.2 = kvs.map (·.1)) (hv : He.valsB K (t.1 K) kvs = true) : KTab K w (t.1 K) (kvs.map fun q => (q.1, q.2.v K)) := by
  have e : ts.map (fun t => He.dicW K (t.1 K)) = ts.map fun t => some (He.keysIn w.params t.2) := congrArg (fun z : He.AlT => z.2) c.t
  have e2 : (ts.map fun t => He.dicW K (t.1 K))[i]? = (ts.map fun t => some (He.keysIn w.params t.2))[i]? := by rw [e]
  rw [List.getElem?_map, List.getElem?_map, h] at e2
  have e3 := Option.some.inj e2
  refine ⟨He.dicW_ok e3, fun q hq => ?_, fun z hz => ns_miss e3 ?_⟩
  · obtain ⟨p, hp, rfl⟩ := List.mem_map.mp hq
    exact He.valsB_ok hv hp
  · rw [hk]
    rw [List.map_map] at hz
    exact hz
def tabGet (kvs : List (Str × V)) (z : Str) : Option V := (kvs.find? fun q => decide (q.1 = z)).map (·.2)
section
variable {X : Cx} {a : Addr} {kvs : List (Str × V)}
theorem ktab_get {K : PySem.W.Frag} {w : World} (T : KTab K w a kvs) (z : Str) : (∃ v u, tabGet kvs z = some v ∧ PySem.W.nsIn K a z = some (some u) ∧ RelV v u) ∨ (tabGet kvs z = none ∧ PySem.W.nsIn K a z = some none) := by
  unfold tabGet
  cases e : kvs.find? fun q => decide (q.1 = z) with
  | none =>
    refine .inr ⟨rfl, T.miss z fun hz => ?_⟩
    obtain ⟨q, hq, rfl⟩ := List.mem_map.mp hz
    have := List.find?_eq_none.mp e q hq
    simp at this
  | some q =>
    have h1 : q.1 = z := by simpa using List.find?_some e
    obtain ⟨u, h2, h3⟩ := T.hit q (List.mem_of_find?_eq_some e)
    rw [h1] at h2
    exact .inl ⟨q.2, u, rfl, h2, h3⟩
/-- z in TABLE -/
theorem op_in_tab (T : KTab X.K X.w a kvs) : OpR X (compareOp .In) (fun x y H Q => ∃ z : Str, x = .str z ∧ y = .ref a ∧ Q (.bl (tabGet kvs z).isSome) H) := by
  obtain ⟨es, n, D⟩ := T.dict
  intro pins s σ H x y v u Q I rx ry h
  obtain ⟨z, rfl, rfl, q⟩ := h
  rcases ktab_get T z with ⟨v0, u0, e1, e2, _⟩ | ⟨e1, e2⟩
  · rw [e1] at q
    exact op_in_kd D pins s σ H _ _ v u Q I rx ry ⟨z, _, rfl, rfl, e2, q⟩
  · rw [e1] at q
    exact op_in_kd D pins s σ H _ _ v u Q I rx ry ⟨z, _, rfl, rfl, e2, q⟩
theorem op_notIn_tab (T : KTab X.K X.w a kvs) : OpR X (compareOp .NotIn) (fun x y H Q => ∃ z : Str, x = .str z ∧ y = .ref a ∧ Q (.bl (!(tabGet kvs z).isSome)) H) := by
  obtain ⟨es, n, D⟩ := T.dict
  intro pins s σ H x y v u Q I rx ry h
  obtain ⟨z, rfl, rfl, q⟩ := h
  rcases ktab_get T z with ⟨v0, u0, e1, e2, _⟩ | ⟨e1, e2⟩
  · rw [e1] at q
    exact op_notIn_kd D pins s σ H _ _ v u Q I rx ry ⟨z, _, rfl, rfl, e2, q⟩
  · rw [e1] at q
    exact op_notIn_kd D pins s σ H _ _ v u Q I rx ry ⟨z, _, rfl, rfl, e2, q⟩
/-- TABLE[z] -/
theorem ix_tab (T : KTab X.K X.w a kvs) : IxR X (fun x y H Q => ∃ (z : Str) (v : V), x = .ref a ∧ y = .str z ∧ tabGet kvs z = some v ∧ Q v H) := by
  intro value slice pins s σ H x y v u Q I rx ry h hs
  obtain ⟨z, v1, rfl, rfl, e, q⟩ := h
  obtain ⟨es, n, D⟩ := T.dict
  rcases ktab_get T z with ⟨v0, u0, e1, e2, e3⟩ | ⟨e1, e2⟩
  · rw [e] at e1
    cases e1
    exact ix_kdict value slice pins s σ H _ _ v u Q I rx ry ⟨a, z, v1, rfl, rfl, ⟨es, n, u0, D.at_, D.lit, e2, e3⟩, q⟩ hs
  · rw [e] at e1
    cases e1
end

/-! ### a written tuple of plain things -/
def tupB (K : PySem.W.Frag) (x : Str) (ds : List He.Dv) : Bool := match K.lookup (He.ga K x) with
  | some ⟨.type "tuple", _, .seq its _, _⟩ => He.relAll (ds.map (He.Dv.v K)) its.toList && decide (its.size ≤ 1000)
  | _ => false
theorem tupB_ok {K : PySem.W.Frag} {x : Str} {ds : List He.Dv} (h : tupB K x ds = true) (H : Hp) : SqT K H (He.ga K x) (ds.map (He.Dv.v K)) := by
  unfold tupB at h
  split at h
  · rename_i od its n sl q
    obtain ⟨h1, h2⟩ := He.ba h
    exact .inr ⟨_, its, n, q, rfl, rfl, Nat.le_trans (of_decide_eq_true h2) (by decide), He.relAll_ok h1⟩
  · cases h
end HG

set_option maxHeartbeats 4000000
/-! HX: more rules: x is True of any value, text * int, {None: .., True: .., False: ..}[x], len(set(texts)). -/
namespace HG
open PySem PySem.Spec PyProof.Rows L2
section
variable {X : Cx}
/-- x is True, x is False -/
theorem op_isTF : OpR X (compareOp .Is) (fun x y H Q => ∃ b : Bool, y = .bl b ∧ Q (.bl (decide (x = .bl b))) H) := by
  intro pins s σ H x y v u Q I rx ry h
  obtain ⟨b, rfl, q⟩ := h
  cases (show u = Value.bool b from ry)
  by_cases e : x = .bl b
  · subst e
    cases (show v = Value.bool b from rx)
    exact wpAny_is_self rfl ⟨.bl true, H, I, rfl, by simpa using q⟩
  · have q' : Q (.bl false) H := by simpa [e] using q
    cases x with
    | non => cases rx; exact wpAny_is_other rfl (fun z => nomatch z) ⟨.bl false, H, I, rfl, q'⟩
    | bl a => cases rx; exact wpAny_is_other rfl (fun z => e (congrArg V.bl (Value.bool.inj z))) ⟨.bl false, H, I, rfl, q'⟩
    | int i => obtain ⟨t, rfl⟩ := rx; exact wpAny_is_other rfl (fun z => nomatch z) ⟨.bl false, H, I, rfl, q'⟩
    | str i => obtain ⟨t, rfl⟩ := rx; exact wpAny_is_other rfl (fun z => nomatch z) ⟨.bl false, H, I, rfl, q'⟩
    | byt i => obtain ⟨t, rfl⟩ := rx; exact wpAny_is_other rfl (fun z => nomatch z) ⟨.bl false, H, I, rfl, q'⟩
    | flt i => obtain ⟨t, rfl⟩ := rx; exact wpAny_is_other rfl (fun z => nomatch z) ⟨.bl false, H, I, rfl, q'⟩
    | ref i => cases rx; exact wpAny_is_other rfl (fun z => nomatch z) ⟨.bl false, H, I, rfl, q'⟩
    | ty i => cases rx; exact wpAny_is_other rfl (fun z => nomatch z) ⟨.bl false, H, I, rfl, q'⟩
/-- text * int -/
theorem op_mul_str : OpR X (binaryOp .Mult) (fun x y H Q => ∃ (z : Str) (n : Int), x = .str z ∧ y = .int n ∧ MulOk z n ∧ Q (.str (Txt.mul z n)) H) := by
  intro pins s σ H x y v u Q I rx ry h
  obtain ⟨z, n, rfl, rfl, ok, q⟩ := h
  obtain ⟨t, rfl⟩ := rx
  obtain ⟨t', rfl⟩ := ry
  exact SB.mul ok fun t' k => ⟨.str _, H, I.tok _, ⟨_, rfl⟩, q⟩
end
theorem mulOk_of {z : Str} {n : Int} (h0 : 0 ≤ n) (h : z.length * n.toNat ≤ 1000000) (hn : n < 2 ^ 40) (hz : z.length ≤ 1000000) : MulOk z n := by
  refine ⟨?_, fun h1 _ h2 => ?_, fun h1 _ => ?_⟩
  · rw [decide_eq_false (by omega), decide_eq_false (by omega)]
    rfl
  · have h3 : (1000000 : Int) ≤ (2 ^ 63 - 1) / n := by
      refine (Int.le_ediv_iff_mul_le (by omega)).mpr ?_
      omega
    omega
  · show decide (_ > _) = false
    refine decide_eq_false ?_
    rw [show (sizeLine : Nat) = 16777216 from sizeLine_eq]
    omega

theorem call_reprK {X : Cx} {K : PySem.W.Frag} (hK : X.K = K) (hgd : X.A.guards = some []) (hr : Room 0 X.A) : CallR X (.builtin "repr") (rRepr K) := by
  subst hK
  exact call_repr hgd hr
/-! ### keywords alone -/
theorem kbn0 {K : PySem.W.Frag} {x qual : Str} {params : Arguments} {body : List Stmt} {scope : Scope} {kws : List (Str × V)} {f : Addr} {fd : FuncData} {ks ps : List Str} {g : List Value → List Value} {gV : List V → List V}
    (F : FunD K x qual params body scope [] kws f fd)
    (h : ∀ (kV doc pm : Value) (an : Option Addr) (cdv ct : Value) (ws : List Value), ws.length = ks.length → bindArgs (PySem.W.fnOf x qual params body scope .none kV doc pm an cdv ct) ⟨[], ks.zip ws⟩ = pure (ps.zip (g ws)))
    (rel : ∀ {zs : List V} {ws : List Value}, Vals zs ws → Vals (gV zs) (g ws)) : KBn K fd ps 0 ks (fun _ ws => g ws) (fun _ zs => gV zs) := by
  obtain ⟨oc, od, dV, kV, doc, pm, an, cdv, ct, osl, rfl, lk, hcd, hD, hK⟩ := F.ex
  rcases hD with ⟨_, rfl⟩ | ⟨e, _⟩
  · refine ⟨fun s us ws _ hu hw => ?_, fun _ r => rel r⟩
    obtain rfl : us = [] := List.length_eq_zero_iff.mp hu
    exact .of_eq (h kV doc pm an cdv ct ws hw)
  · exact absurd rfl e

/-! ### objects made by a class of the top -/
structure MkC (P : Program) (w : World) (K : PySem.W.Frag) (mg : Str → Option Value) (base : Heap) (x : Str) (k : Nat) (sp : Sp) : Prop where
  ex : ∃ (f : Addr) (fd : FuncData) (ps : List Str), Mk K (He.ga K x) f ∧ FnOk P w K mg base CX0 k f fd ps sp ∧ Binds K fd ps []
  gl : mg x = some (.ref (He.ga K x))
theorem pe_mk {X : Cx} {k : Nat} {x : Str} {sp : Sp} {p pos : Pos} {e : Expr} {es : List Expr} {t : TA} (C : MkC X.prog X.w X.K X.mg X.base x k sp) (hr : Room (k + 1) X.A) (hg : Gl X x) (ha : PA X (e :: es) t)
    (hdb : (x == ("__debug__" : Str)) = false := by decide)
    (he : starEach (e :: es) X.env = (false, eval e X.env) :: starEach es X.env := by rfl)
    (hpl : (backTo pos (starEach es X.env)).any (·.1) = false := by rfl) : PE X (.Call (.Name x p) (e :: es) [] pos) (tMake (He.ga X.K x) sp [] E0 t) := by
  obtain ⟨f, fd, ps, M, F, b⟩ := C.ex
  exact pe_make M F hr hg C.gl b .nil pass0 ha hdb he hpl

/-! ### None and bools as keys -/
def nbV : Option Bool → V
  | none => .non
  | some b => .bl b
def nbIs : Option Bool → Value → Bool
  | none, .none => true
  | none, _ => false
  | some k, v => PpSet.isB k v
theorem nb_none {v : Value} (h : nbIs none v = true) : v = .none := by
  cases v with
  | none => rfl
  | _ => exact nomatch (show false = true from h)
def nbU : Option Bool → Value
  | none => .none
  | some b => .bool b
theorem nb_shape {k : Option Bool} {v : Value} (h : nbIs k v = true) : v = nbU k := by
  cases k with
  | none => exact nb_none h
  | some b => exact PpSet.isB_shape h
theorem nb_of {k : Option Bool} {v : Value} (h : RelV (nbV k) v) : nbIs k v = true := by
  cases k with
  | none => cases (show v = Value.none from h); rfl
  | some b => cases (show v = Value.bool b from h); exact beq_self_eq_true b
def nbKind (prog : Program) (w : World) : PySem.KeyKind prog w (Option Bool) where
  is := nbIs
  hash := fun k => match k with
    | none => reduceHash 0xFCA86420
    | some k => PpSet.hB k
  inj := fun v a b ha hb => by
    have e1 := nb_shape ha
    have e2 := nb_shape hb
    rw [e1] at e2
    cases a with
    | none => cases b with
      | none => rfl
      | some _ => cases e2
    | some x => cases b with
      | none => cases e2
      | some y => exact congrArg some (Value.bool.inj e2)
  byValue := fun k v h => by
    rw [nb_shape h]
    cases k <;> rfl
  pyHash := @fun A E s k v Q hv h => by
    cases k with
    | none =>
      have e := nb_none hv
      subst e
      exact PySem.W.pyHash_slot (T := "NoneType") rfl PySem.F.slot_NoneType_hash PySem.F.entry_NoneType_hash (PySem.F.args_NoneType_hash_1 _) (beq_builtin_none _) (.inl rfl) (wpAny_bind (wpAny_pure (wpAny_bind (wpAny_mkInt (wpAny_pure ⟨_, _, rfl, h⟩)))))
    | some k => exact (PpSet.boolK prog w).pyHash (k := k) hv h
  eqBool := @fun A E s a b u v Q hu hv h => by
    have e1 := nb_shape hu
    have e2 := nb_shape hv
    subst e1 e2
    cases a with
    | none =>
      cases b with
      | none =>
        rw [decide_eq_true rfl] at h
        exact SeqAt.EqAt.same _ _ _ _ _ h
      | some k =>
        rw [decide_eq_false (fun z => nomatch z)] at h
        exact SeqAt.EqAt.none_bool k _ _ _ _ h
    | some k =>
      cases b with
      | none =>
        rw [decide_eq_false (fun z => nomatch z)] at h
        exact SeqAt.EqAt.bool_none k _ _ _ _ h
      | some j =>
        have e : decide ((some k : Option Bool) = some j) = (k == j) := by cases k <;> cases j <;> rfl
        rw [e] at h
        exact SeqAt.EqAt.bool_bool k j _ _ _ _ h
  «strs» := fun k x t v h => by
    cases k with
    | none => exact nomatch (show false = true from h)
    | some k => exact absurd h Bool.false_ne_true
abbrev NB (P : Program) (w : World) (a : Addr) (vs : List (Option Bool × Value)) : HO := .ext fun h => h.DictOf (nbKind P w) a vs
theorem nb_new {P : Program} {w : World} {H : Hp} {h : Heap} {a : Addr} {vs : List (Option Bool × Value)} (R : h.DictOf (nbKind P w) a vs) : ObjOk P w H h a (NB P w a vs) := by
  refine ⟨R, ?_, fun h1 h2 p k => ?_⟩
  · obtain ⟨o, _, _, ho, _⟩ := R
    exact ⟨o, ho⟩
  · obtain ⟨o, es, ep, ho, r⟩ := p
    exact ⟨o, es, ep, k o ho, r⟩
/-- {None: 'x', True: 'y', False: 'z'}[e] -/
def tNb3 (x y z : Str) (te : TE) : TE := fun σ H Q => ∀ (p : Addr) (o : HO), H p = none → te σ (upd H p o) fun v H2 => H2 p = some o ∧ ∃ k : Option Bool, v = nbV k ∧ Q (.str (match k with | none => x | some true => y | some false => z)) H2
section
variable {X : Cx}
theorem pe_nb3 {x y z : Str} {e : Expr} {te : TE} {p1 p2 p3 p4 p5 p6 p7 pos : Pos} {k4 k5 k6 k7 k8 k9 : Nat} (he : PE X e te) (hs : NoSl e) :
    PE X (.Subscript (.Dict [some (.Constant .none k4 p1), some (.Constant (.bool true) k5 p2), some (.Constant (.bool false) k6 p3)] [.Constant (.str x) k7 p4, .Constant (.str y) k8 p5, .Constant (.str z) k9 p6] p7) e pos) (tNb3 x y z te) := by
  refine ⟨fun pins s σ H Q I h => ?_⟩
  refine subD_of PySem.F.slot_dict_getitem.lookup hs ?_
  have hn := I.hok.fresh (Nat.le_refl s.heap.objs.size)
  have I1 := I.laid (a := s.heap.objs.size) (o := NB X.prog X.w s.heap.objs.size []) (h' := s.heap.push { cls := .type "dict", data := .dict #[] }) (t' := s.toks) (fun _ _ q => Heap.get?_push_of_some _ q) (Nat.le_refl _) (nb_new (Heap.DictOf.new _))
  have PP : PPs X p7 [some (.Constant .none k4 p1), some (.Constant (.bool true) k5 p2), some (.Constant (.bool false) k6 p3)] [.Constant (.str x) k7 p4, .Constant (.str y) k8 p5, .Constant (.str z) k9 p6]
      [(tC .non, tC (.str x)), (tC (.bl true), tC (.str y)), (tC (.bl false), tC (.str z))] := pps_cons pe_non pe_str (pps_cons pe_bl pe_str (pps_cons pe_bl pe_str pps_nil))
  refine wpAny_Dict_walk (knd := nbKind X.prog X.w) rfl rfl (fun z => nomatch z) (show 3 ≤ 15 by decide) ?_
  refine thn (PP.run pins _ σ _ (fun ps H2 => ps = [(.non, .str x), (.bl true, .str y), (.bl false, .str z)] ∧ H2 = upd H s.heap.objs.size (NB X.prog X.w s.heap.objs.size [])) I1 ⟨rfl, rfl⟩) ?_
  rintro ws s2 ⟨ps, H2, I2, rel, rfl, rfl⟩
  cases rel with
  | @cons _ a1 _ _ r1 rel =>
  cases rel with
  | @cons _ a2 _ _ r2 rel =>
  cases rel with
  | @cons _ a3 _ _ r3 rel =>
  cases rel
  obtain ⟨c1, d1⟩ := a1
  obtain ⟨c2, d2⟩ := a2
  obtain ⟨c3, d3⟩ := a3
  have dd := (I2.hok _ _ upd_same).1
  refine ⟨[(none, d1), (some true, d2), (some false, d3)], ⟨nb_of (k := none) r1.1, rfl, nb_of (k := some true) r2.1, rfl, nb_of (k := some false) r3.1, rfl, trivial⟩, dd, fun h' dd' hsb => ?_⟩
  have em : merged [] [((none : Option Bool), d1), (some true, d2), (some false, d3)] = [(none, d1), (some true, d2), (some false, d3)] := rfl
  rw [em] at dd'
  have he' : ∃ q, h'.get? s.heap.objs.size = some q := let ⟨q, _, _, hq, _⟩ := dd'; ⟨q, hq⟩
  have I3 := d_write (t' := s2.toks + 3) (ob := NB X.prog X.w s.heap.objs.size [(none, d1), (some true, d2), (some false, d3)]) I2 (by rw [upd_same]; exact True.intro) hsb he' (nb_new dd')
  have eu : upd (upd H s.heap.objs.size (NB X.prog X.w s.heap.objs.size [])) s.heap.objs.size (NB X.prog X.w s.heap.objs.size [(none, d1), (some true, d2), (some false, d3)]) = upd H s.heap.objs.size (NB X.prog X.w s.heap.objs.size [(none, d1), (some true, d2), (some false, d3)]) := by
    funext b
    by_cases e : b = s.heap.objs.size
    · subst e; rw [upd_same, upd_same]
    · rw [upd_ne e, upd_ne e, upd_ne e]
  rw [eu] at I3
  refine thn (he.run pins _ σ _ _ I3 (h _ _ hn)) ?_
  rintro iv s3 ⟨v, H3, I4, rv, h3, k, rfl, q⟩
  have D3 : s3.heap.DictOf (nbKind X.prog X.w) s.heap.objs.size [(none, d1), (some true, d2), (some false, d3)] := (I4.hok _ _ h3).1
  refine ⟨D3.mapOf.typeIs, ?_⟩
  cases k with
  | none => exact wpAny_getItem_of (k := none) (nb_of rv) D3.mapOf rfl ⟨.str x, H3, I4.tok _, r1.2, q⟩
  | some b =>
    cases b with
    | true => exact wpAny_getItem_of (k := some true) (nb_of rv) D3.mapOf rfl ⟨.str y, H3, I4.tok _, r2.2, q⟩
    | false => exact wpAny_getItem_of (k := some false) (nb_of rv) D3.mapOf rfl ⟨.str z, H3, I4.tok _, r3.2, q⟩
end
end HG

set_option maxHeartbeats 4000000
/-! HY: len(set(texts)), the texts in a list. -/
namespace HG
open PySem PySem.Spec PyProof.Rows L2
/-- the first of each text -/
def ddS (σ : List Str) (v : Str) : List Str := if v ∈ σ then σ else σ ++ [v]
def dd (l : List Str) : List Str := l.foldl ddS []
theorem dd_snoc (l : List Str) (v : Str) : dd (l ++ [v]) = ddS (dd l) v := by
  unfold dd
  rw [List.foldl_append]
  rfl
theorem ddS_mem {σ : List Str} {v k : Str} : k ∈ ddS σ v ↔ k ∈ σ ∨ k = v := by
  unfold ddS
  split
  · rename_i h
    constructor
    · exact .inl
    · rintro (e | rfl)
      · exact e
      · exact h
  · simp
theorem ddS_len (σ : List Str) (v : Str) : (ddS σ v).length ≤ σ.length + 1 := by
  unfold ddS
  split
  · omega
  · simp
theorem dd_len0 : ∀ (l σ : List Str), (l.foldl ddS σ).length ≤ σ.length + l.length
  | [], σ => Nat.le_refl _
  | v :: l, σ => by
    have h1 := dd_len0 l (ddS σ v)
    have h2 := ddS_len σ v
    rw [List.foldl_cons, List.length_cons]
    omega
theorem dd_len (l : List Str) : (dd l).length ≤ l.length := by
  have := dd_len0 l []
  rw [List.length_nil, Nat.zero_add] at this
  exact this
section
variable {prog : Program} {w : World} {A : Around} {R : Result → Shared → Prop} {I : Addr} {fp wr : List Addr} {G : Array GenState → Array GenState → Prop} {n : Nat} {P : Nat → Value → Prop} {St : Nat → Shared → Prop}
theorem loopTxt (W : WalksS prog w A.in1 I fp wr G n P St) (S : Addr) (hSf : S ∉ fp) (xs : List Str) (hsz : xs.length = n) (hb : n + 1 < scanBound)
    (hval : ∀ i v, P i v → ∃ x t, xs[i]? = some x ∧ v = .str x t) :
    ∀ (k i : Nat) (s : Shared), n - i = k → i ≤ n → St i s →
      s.heap.SetOf (PySem.strKind prog w) S (fun k' => decide (k' ∈ dd (xs.take i))) (dd (xs.take i)).length →
      (∀ s', Moved (S :: wr) G s s' → s'.heap.SetOf (PySem.strKind prog w) S (fun k' => decide (k' ∈ dd xs)) (dd xs).length → R (.ok (.ret .none)) s') →
      codeAny (model prog w) A (.builtin "set.update.loop" ⟨[.ref S, .ref I], []⟩) R s := by
  have hSw : S ∉ wr := fun h => hSf (W.sub _ h)
  have hsub : ∀ b ∈ wr, b ∈ S :: wr := fun b hb => List.mem_cons_of_mem _ hb
  have kept : ∀ {s s' : Shared} {i : Nat}, Moved wr G s s' → s.heap.SetOf (PySem.strKind prog w) S (fun k' => decide (k' ∈ dd (xs.take i))) (dd (xs.take i)).length →
      s'.heap.SetOf (PySem.strKind prog w) S (fun k' => decide (k' ∈ dd (xs.take i))) (dd (xs.take i)).length := fun hm hS => by
    obtain ⟨o, es, ep, t, ho, rest⟩ := hS
    exact ⟨o, es, ep, t, hm.heap S _ hSw ho, rest⟩
  intro k
  induction k with
  | zero =>
    intro i s hk hi hst hS hR
    have hin : i = n := by omega
    refine codeAny_builtin PyProof.Rows.F.entry_set_update_loop ?_
    rw [Around.under_plainId PyProof.Rows.F.plain_set_update_loop _]
    show wpAny _ A.in1 (pyNext (.ref I) >>= _) _ _ s
    refine wpAny_bind (W.done s _ _ (hin ▸ hst) fun s' hm => ?_)
    show wpAny _ A.in1 (ret Value.none) _ _ s'
    have e : xs.take i = xs := List.take_of_length_le (by omega)
    have hS' := kept hm hS
    rw [e] at hS'
    exact wpAny_pure (hR s' (hm.mono hsub) hS')
  | succ k ih =>
    intro i s hk hi hst hS hR
    have hlt : i < n := by omega
    refine codeAny_builtin PyProof.Rows.F.entry_set_update_loop ?_
    rw [Around.under_plainId PyProof.Rows.F.plain_set_update_loop _]
    show wpAny _ A.in1 (pyNext (.ref I) >>= _) _ _ s
    refine wpAny_bind (W.item i s _ _ hlt hst fun v s' hP hst' hm => ?_)
    obtain ⟨x, t, hx, rfl⟩ := hval i v hP
    show wpAny _ A.in1 (holding [Value.str x t] (setAdd S (.str x t)) >>= _) _ _ s'
    refine wpAny_bind (wpAny_holding ?_)
    unfold setAdd
    refine wpAny_holding ?_
    refine wpAny_bind ((PySem.strKind prog w).pyHash (k := x) (strKind_is _ _ _ _) ?_)
    have hS' := kept hm hS
    have room : (dd (xs.take i)).length + 1 < scanBound := by
      have h1 := dd_len (xs.take i)
      have h2 := List.length_take_le i xs
      omega
    refine wpAny_setAddHashed_of (knd := PySem.strKind prog w) (s := { s' with toks := s'.toks + 1 }) (strKind_is _ _ _ _) rfl hS' room fun h' hsb hS2 => ?_
    have et : dd (xs.take (i + 1)) = ddS (dd (xs.take i)) x := by
      rw [List.take_add_one, hx]
      exact dd_snoc _ _
    have hSi : h'.SetOf (PySem.strKind prog w) S (fun k' => decide (k' ∈ dd (xs.take (i + 1)))) (dd (xs.take (i + 1))).length := by
      rw [et]
      refine SetOf_congr hS2 (fun k' => ?_) ?_
      · rw [Bool.eq_iff_iff]
        simp [ddS_mem]
      · unfold ddS
        by_cases c : x ∈ dd (xs.take i)
        · rw [if_pos c, if_pos (decide_eq_true c)]
        · rw [if_neg c, if_neg (by simpa using c), List.length_append]
          rfl
    refine wpAny_pure ⟨plainId_quiet PyProof.Rows.F.plain_set_update_loop _, ih (i + 1) _ (by omega) hlt (W.frame _ s' _ _ hst' (Nat.le_succ _) fun b hb o e => ?_) hSi fun s'' hm'' hS'' => ?_⟩
    · rw [hsb.2 b (fun h : b = S => hSf (by rw [← h]; exact hb))]; exact e
    · refine hR s'' (Moved.trans W.gtrans ((hm.mono hsub).then_heap (Nat.le_succ _) fun b o hb e => ?_) hm'') hS''
      rw [hsb.2 b (fun h : b = S => hb (by rw [h]; exact List.mem_cons_self))]; exact e
end
section
variable {prog : Program} {w : World} {A : Around} {E : Value → Shared → Prop} {s : Shared}
theorem set_of_texts {l : Addr} {items : Array Value} {xs : List Str} {Q : Value → Shared → Prop}
    (hh : A.handled = none) (hl : s.heap.IsList l items) (hi : PyProof.Rows.StrsAre items.toList xs) (hb : xs.length + 1 < scanBound)
    (h : ∀ (h' : Heap) (tk : Nat), h'.SetOf (PySem.strKind prog w) s.heap.objs.size (fun k' => decide (k' ∈ dd xs)) (dd xs).length →
      (∀ b o, b < s.heap.objs.size → s.heap.get? b = some o → h'.get? b = some o) → Q (.ref s.heap.objs.size) { s with heap := h', toks := tk }) :
    wpAny (model prog w) A (call (.type "set") [.ref l]) Q E s := by
  obtain ⟨c, tl, hmro⟩ := PySem.F.called_set.mro
  have hmade := PySem.F.called_set.made
  have hsub := PySem.F.called_set.sub
  refine wpAny_call (codeAny_of_tree ?_)
  show wpAny _ _ (callAny (.type "set") _) _ _ _
  refine wpAny_pure ⟨Code.quiet_builtin _ (by decide +kernel), codeAny_builtin PySem.F.entry_type_call ?_⟩
  rw [Around.under_plain (weight_type_call_type "set" [.ref l] []) rfl]
  have h1 := PySem.F.called_set.notType
  have h2 := PySem.F.called_set.canCreate
  have hct := PySem.F.typeCall_set_1 (.ref l)
  repeat (any_goals (first | assumption | wp_step))
  refine codeAny_mono (code_set_new_1 (.ref l) (E := E) (Q₁ := fun obj s₁ => ∃ led : Bool, obj = .ref s.heap.objs.size ∧ s₁ = { s with heap := s.heap.push { cls := .type "set", dict := none, data := .set #[] 0 (.fresh 0 0 led) } }) fun led => ⟨led, rfl, rfl⟩) fun r s₁ hr => ?_
  cases r with
  | error e => exact hr
  | ok fl =>
    cases fl with
    | ret obj =>
      obtain ⟨led, rfl, rfl⟩ := hr
      generalize eN : s.heap.push { cls := .type "set", dict := none, data := .set #[] 0 (.fresh 0 0 led) } = hN
      have hS : hN.get? s.heap.objs.size = some { cls := .type "set", dict := none, data := .set #[] 0 (.fresh 0 0 led) } := by rw [← eN]; exact Heap.get?_push_size _ rfl
      have hK : ∀ b o, s.heap.get? b = some o → hN.get? b = some o := fun b o e => by rw [← eN]; exact Heap.get?_push_of_some _ e
      have hZ : hN.objs.size = s.heap.objs.size + 1 := by rw [← eN]; exact Heap.size_push ..
      have hT : Shared.TypeIs { s with heap := hN } (.ref s.heap.objs.size) "set" := ⟨_, hS, rfl⟩
      have hli := PySem.F.called_set.init.lookup
      have hbi := PySem.F.called_set.init.bind (.ref s.heap.objs.size)
      repeat (any_goals (first | assumption | wp_step))
      refine codeAny_mono (codeAny_call_builtin (R := wants (fun r s₂ => r = .none ∧ ∃ h' tk, s₂ = { s with heap := h', toks := tk } ∧
          h'.SetOf (PySem.strKind prog w) s.heap.objs.size (fun k' => decide (k' ∈ dd xs)) (dd xs).length ∧
          (∀ b o, b < s.heap.objs.size → s.heap.get? b = some o → h'.get? b = some o)) E) PySem.F.called_set.init.plain PySem.F.entry_set_init (check_set_init_1 hT ?_)) fun r₂ s₂ hr₂ => ?_
      · obtain ⟨⟨ocls, odict, odata, oslots⟩, hol, hcl, nl, hdl⟩ := hl
        simp only at hcl hdl
        subst hcl; subst hdl
        have hol' : hN.get? l = some { cls := .type "list", dict := odict, data := .seq items nl, slots := oslots } := hK _ _ hol
        have hsls := PySem.F.sub_list_set
        have hslf := PySem.F.sub_list_frozenset
        have hne : (Value.type "list" == Value.type "dict") = false := by decide
        have hl1 : hN.IsList l items := ⟨_, hol', rfl, nl, rfl⟩
        unfold Builtin.«set.__init__» noKeywords Builtin.Frozenset.updateFrom
        generalize hPI : pyIter = PI
        wp_walk
        subst hPI
        refine wpAny_pyIter_list hl1 ?_
        refine wpAny_bind (wpAny_runValue ?_)
        have hlS : l < s.heap.objs.size := Heap.lt_size hol
        have hh3 : A.in1.in1.in1.handled = none := by simp [hh]
        have hneI : l ≠ hN.objs.size := by rw [hZ]; exact Nat.ne_of_lt (Nat.lt_succ_of_lt hlS)
        have hSf : s.heap.objs.size ∉ [hN.objs.size, l] := by
          rw [hZ]
          simp only [List.mem_cons, List.mem_singleton, List.not_mem_nil, or_false, not_or]
          exact ⟨Nat.ne_of_lt (Nat.lt_succ_self _), Nat.ne_of_gt hlS⟩
        have hsz : xs.length = items.size := by rw [← StrsAre.len_eq hi, Array.length_toList]
        have hval : ∀ (i : Nat) (v : Value), items[i]? = some v → ∃ x t, xs[i]? = some x ∧ v = .str x t := fun i v hv => by
          have hlt : i < xs.length := by rw [hsz]; exact (Array.getElem?_eq_some_iff.mp hv).1
          obtain ⟨t, e⟩ := SS.strs_at hi i v (by rw [Array.getElem?_toList]; exact hv)
          refine ⟨xs[i], t, List.getElem?_eq_getElem hlt, ?_⟩
          rw [e, List.getD_eq_getElem?_getD, List.getElem?_eq_getElem hlt]
          rfl
        refine loopTxt ((Walks.list hh3 _ l hneI items).toS) s.heap.objs.size hSf xs hsz (by rw [← hsz]; exact hb) hval (items.size - 0) 0 _ (by omega) (Nat.zero_le _)
          ⟨⟨_, Heap.get?_push_size _ rfl, rfl, rfl⟩, (hl1.push _)⟩ ?hS0 ?hR
        case hS0 =>
          exact PyProof.Rows.SetOf_congr ((PyProof.Rows.setObjOf_fresh (knd := PySem.strKind prog w) led).setOf (Heap.get?_push_of_some _ hS) (by unfold scanBound; omega)) (fun _ => by simp [dd]) rfl
        case hR =>
          intro s' hm hS'
          obtain ⟨h', g', d', tk', os'⟩ := s'
          have eg : g' = s.gens := hm.gens
          have ed : d' = s.drawn := hm.drawn
          have eo : os' = s.os := hm.os
          subst eg; subst ed; subst eo
          show wpAny _ _ _ _ _ _
          refine wpAny_pure ?_
          show wpAny _ _ (ret Value.none) _ _ _
          refine wpAny_pure ⟨rfl, h', tk', rfl, hS', fun b o hb e => ?_⟩
          refine hm.heap b o ?_ (Heap.get?_push_of_some _ (hK _ _ e))
          rw [hZ]
          simp only [List.mem_cons, List.mem_singleton, List.not_mem_nil, or_false, not_or]
          exact ⟨Nat.ne_of_lt hb, Nat.ne_of_lt (Nat.lt_succ_of_lt hb)⟩
      · cases r₂ with
        | error e => exact hr₂
        | ok fl₂ =>
          cases fl₂ with
          | ret r =>
            obtain ⟨rfl, h', tk, rfl, hS', hk'⟩ := hr₂
            repeat (any_goals (first | assumption | wp_step))
            exact h _ _ hS' hk'
          | _ => exact hr₂.elim
    | _ => exact hr.elim
end
section
variable {X : Cx}
/-- len(set(xs)), xs a list of texts -/
def tLenSetS (K : PySem.W.Frag) (ta : TE) : TE := fun σ H Q => ta σ H fun x H1 => ∃ l, ∃ xs : List Str, x = .ref l ∧ SqL K H1 l (xs.map V.str) ∧ xs.length + 1 < 4096 ∧ Q (.int (dd xs).length) H1
theorem pe_lenSetS {a : Expr} {ta : TE} {p p2 q pos : Pos} (hc : X.calm = true) (hg : Gl X "len") (hm : X.mg "len" = none) (hg2 : Gl X "set") (hm2 : X.mg "set" = none) (ha : PE X a ta)
    (na : starEach [a] X.env = (false, eval a X.env) :: starEach [] X.env := by rfl) : PE X (.Call (.Name "len" p) [.Call (.Name "set" p2) [a] [] q] [] pos) (tLenSetS X.K ta) := by
  refine ⟨fun pins s σ H Q I h => ?_⟩
  refine Call_ (ld_blt I hg hm boot_len ?_)
  refine PyProof.Rows.callWith_builtin1 (PyProof.Rows.args_cons ?_ rfl) rfl rfl
  refine Call_ (ld_blt I hg2 hm2 boot_set ?_)
  refine PyProof.Rows.callWith_type1 (PyProof.Rows.args_cons (thn (ha.run pins s σ H _ I h) fun v s1 ⟨x, H1, I1, r1, q1⟩ => PyProof.Rows.args_nil ?_) na) na rfl
  obtain ⟨l, xs, rfl, hq, h1, q1⟩ := q1
  cases r1
  obtain ⟨its, r, pl, hz⟩ := I1.list hq
  refine set_of_texts (I1.ok.hd hc) pl.isList (by simpa using strsAre_of r) (by unfold scanBound; exact h1) fun h' tk hS hk => ?_
  refine PyProof.Rows.args_nil ?_
  have hdl := dd_len xs
  obtain ⟨o, es, ep, t, ho, hex, hd, _, _, _, hf, hn⟩ := hS
  have I2 : Inv X pins σ H1 { s1 with heap := h', toks := tk } := I1.kept fun b o e => hk b o (Heap.lt_size e) e
  exact call_len_set ho hex hd hf (by rw [hn]; omega) ⟨.int (dd xs).length, H1, I2.tok _, ⟨_, by rw [hn]⟩, q1⟩
end
end HG

set_option maxHeartbeats 0
namespace K13
open PySem PySem.Spec PyProof.Rows L2 HG
def top (i : Nat) : Stmt := PySem.Challenge.pw_wholeapart_k13_packed_values.main.body.getD i (.Pass ⟨0, 0, 0, 0⟩)
def dd (x : Str) (i : Nat) : He.DefD := ⟨(x, none), x, x, defArgs (top i), defBody (top i), defScope (top i), [], []⟩
def dm (C m q : Str) (i j : Nat) : He.DefD := ⟨(C, some m), m, q, defArgs (inClass (top i) j), defBody (inClass (top i) j), defScope (inClass (top i) j), [], []⟩
def fn : List He.DefD := [dd "pack" 8, dd "unpack" 10, dd "_law_deck" 12, dd "_law_draw" 13, dd "_law_pick" 14, dd "_law_string" 15, dd "_law_integer" 16, dd "_law_value" 17, dd "_law_packed" 18, dd "_law_right" 19, dd "law" 20, dm "Unpacker" "__init__" "Unpacker.__init__" 9 0, dm "Unpacker" "need" "Unpacker.need" 9 1, dm "Unpacker" "next_sign" "Unpacker.next_sign" 9 2, dm "Unpacker" "number" "Unpacker.number" 9 3, dm "Unpacker" "string" "Unpacker.string" 9 4, dm "Unpacker" "value" "Unpacker.value" 9 5]
def fa : List He.Fa := [.meth "Unpacker" "need", .meth "Unpacker" "next_sign", .meth "Unpacker" "number", .meth "Unpacker" "string", .meth "Unpacker" "value", .cls "Unpacker", .mkr "Unpacker", .noat "Unpacker" "text", .noat "Unpacker" "at", .str "DIGITS" "0123456789", .int "DEEPEST" 100, .int "LONGEST_NUMBER" 4300, .free "ValueError", .free "all", .free "bool", .free "int", .free "isinstance", .free "len", .free "list", .free "range", .free "repr", .free "set", .free "str", .free "super", .free "tuple", .glo "pack", .glo "unpack", .glo "_law_deck", .glo "_law_draw", .glo "_law_pick", .glo "_law_string", .glo "_law_integer", .glo "_law_value", .glo "_law_packed", .glo "_law_right", .glo "law", .glo "Unpacker", .glo "SIGNS"]
def ts : List He.Tab := [(fun K => He.ga K "SIGNS", ["T", "F", "N"])]
def bx (K : PySem.W.Frag) : Bool := He.valsB K (He.ga K "SIGNS") [("T", .bl true), ("F", .bl false), ("N", .non)] && (true)
abbrev R : PySem.W.OpenRow := PySem.W.OpenLaw.row PySem.Challenge.rw_wholeapart_k13_packed_values
abbrev hk : PySem.W.Hook := hookB 5 fa fn ts bx
def ob (s : PySem.W.SharedT) : AlB := obsBG 5 fa fn ts bx (HandSHeadRun.getT s)
theorem ob_eq (s : PySem.W.SharedT) : ob s = hk.obs s.abs := obsBG_eq (HandSHeadRun.getT_eq s)
def loose : List Str := (["WholeError", "InvalidText", "DIGITS", "DEEPEST", "LONGEST_NUMBER", "SIGNS", "pack", "Unpacker", "unpack", "_law_deck", "_law_draw", "_law_pick", "_law_string", "_law_integer", "_law_value", "_law_packed", "_law_right"] : List Str)
theorem runF (w : World) : HandSHeadRun.RunEq R (PySem.W.view R.prog [20]) hk ob 3000 loose (w.withFollow "special-get-raises" false) := by
  intro os
  kernel_rfl
theorem runT (w : World) : HandSHeadRun.RunEq R (PySem.W.view R.prog [20]) hk ob 3000 loose (w.withFollow "special-get-raises" true) := by
  intro os
  kernel_rfl
theorem run (w : World) : HandSHeadRun.RunEq R (PySem.W.view R.prog [20]) hk ob 3000 loose w := PySem.W.byRow2 "special-get-raises" (P := fun w => HandSHeadRun.RunEq R (PySem.W.view R.prog [20]) hk ob 3000 loose w) runF runT w
abbrev FnP (K : PySem.W.Frag) (x : Str) (st : Stmt) : Prop := ∃ fd, FunD K x x (defArgs st) (defBody st) (defScope st) [] [] (He.ga K x) fd
abbrev s_pack : Stmt := top 8
abbrev N_pack : List Str := ["value", "part"]
theorem sc_pack : FnScope N_pack ["value"] (defScope s_pack) := ⟨rfl, rfl, rfl, by decide +kernel, rfl, by decide +kernel, by decide +kernel⟩
abbrev s_unpack : Stmt := top 10
abbrev N_unpack : List Str := ["text", "unpacker", "value"]
theorem sc_unpack : FnScope N_unpack ["text"] (defScope s_unpack) := ⟨rfl, rfl, rfl, by decide +kernel, rfl, by decide +kernel, by decide +kernel⟩
abbrev s__law_deck : Stmt := top 12
abbrev N__law_deck : List Str := ["_law_script", "_law_cells", "_law_total", "_law_cell"]
theorem sc__law_deck : FnScope N__law_deck ["_law_script"] (defScope s__law_deck) := ⟨rfl, rfl, rfl, by decide +kernel, rfl, by decide +kernel, by decide +kernel⟩
abbrev s__law_draw : Stmt := top 13
abbrev N__law_draw : List Str := ["_law_deck_here", "_law_many", "_law_cell", "_law_made"]
theorem sc__law_draw : FnScope N__law_draw ["_law_deck_here", "_law_many"] (defScope s__law_draw) := ⟨rfl, rfl, rfl, by decide +kernel, rfl, by decide +kernel, by decide +kernel⟩
abbrev s__law_pick : Stmt := top 14
abbrev N__law_pick : List Str := ["_law_deck_here", "_law_items"]
theorem sc__law_pick : FnScope N__law_pick ["_law_deck_here", "_law_items"] (defScope s__law_pick) := ⟨rfl, rfl, rfl, by decide +kernel, rfl, by decide +kernel, by decide +kernel⟩
abbrev s__law_string : Stmt := top 15
abbrev N__law_string : List Str := ["_law_deck_here", "_law_signs", "_law_k"]
theorem sc__law_string : FnScope N__law_string ["_law_deck_here"] (defScope s__law_string) := ⟨rfl, rfl, rfl, by decide +kernel, rfl, by decide +kernel, by decide +kernel⟩
abbrev s__law_integer : Stmt := top 16
abbrev N__law_integer : List Str := ["_law_deck_here", "_law_way", "_law_some"]
theorem sc__law_integer : FnScope N__law_integer ["_law_deck_here"] (defScope s__law_integer) := ⟨rfl, rfl, rfl, by decide +kernel, rfl, by decide +kernel, by decide +kernel⟩
abbrev s__law_value : Stmt := top 17
abbrev N__law_value : List Str := ["_law_deck_here", "_law_deep", "_law_way", "_law_k"]
theorem sc__law_value : FnScope N__law_value ["_law_deck_here", "_law_deep"] (defScope s__law_value) := ⟨rfl, rfl, rfl, by decide +kernel, rfl, by decide +kernel, by decide +kernel⟩
abbrev s__law_packed : Stmt := top 18
abbrev N__law_packed : List Str := ["_law_thing", "_law_part"]
theorem sc__law_packed : FnScope N__law_packed ["_law_thing"] (defScope s__law_packed) := ⟨rfl, rfl, rfl, by decide +kernel, rfl, by decide +kernel, by decide +kernel⟩
abbrev s__law_right : Stmt := top 19
abbrev N__law_right : List Str := ["_law_thing", "_law_due", "_law_turn", "_law_found"]
theorem sc__law_right : FnScope N__law_right ["_law_thing"] (defScope s__law_right) := ⟨rfl, rfl, rfl, by decide +kernel, rfl, by decide +kernel, by decide +kernel⟩
abbrev s_law : Stmt := top 20
abbrev N_law : List Str := ["_law_script", "_law_deck_here", "_law_some", "_law_many", "_law_thing", "_law_k", "_law_texts", "_law_shown"]
theorem sc_law : FnScope N_law ["_law_script"] (defScope s_law) := ⟨rfl, rfl, rfl, by decide +kernel, rfl, by decide +kernel, by decide +kernel⟩
abbrev s_Unpacker___init__ : Stmt := inClass (top 9) 0
abbrev N_Unpacker___init__ : List Str := ["self", "text"]
theorem sc_Unpacker___init__ : FnScope N_Unpacker___init__ ["self", "text"] (defScope s_Unpacker___init__) := ⟨rfl, rfl, rfl, by decide +kernel, rfl, by decide +kernel, by decide +kernel⟩
abbrev s_Unpacker_need : Stmt := inClass (top 9) 1
abbrev N_Unpacker_need : List Str := ["self", "condition"]
theorem sc_Unpacker_need : FnScope N_Unpacker_need ["self", "condition"] (defScope s_Unpacker_need) := ⟨rfl, rfl, rfl, by decide +kernel, rfl, by decide +kernel, by decide +kernel⟩
abbrev s_Unpacker_next_sign : Stmt := inClass (top 9) 2
abbrev N_Unpacker_next_sign : List Str := ["self"]
theorem sc_Unpacker_next_sign : FnScope N_Unpacker_next_sign ["self"] (defScope s_Unpacker_next_sign) := ⟨rfl, rfl, rfl, by decide +kernel, rfl, by decide +kernel, by decide +kernel⟩
abbrev s_Unpacker_number : Stmt := inClass (top 9) 3
abbrev N_Unpacker_number : List Str := ["self", "end", "last", "digits", "plain", "sign"]
theorem sc_Unpacker_number : FnScope N_Unpacker_number ["self", "end"] (defScope s_Unpacker_number) := ⟨rfl, rfl, rfl, by decide +kernel, rfl, by decide +kernel, by decide +kernel⟩
abbrev s_Unpacker_string : Stmt := inClass (top 9) 4
abbrev N_Unpacker_string : List Str := ["self", "length"]
theorem sc_Unpacker_string : FnScope N_Unpacker_string ["self"] (defScope s_Unpacker_string) := ⟨rfl, rfl, rfl, by decide +kernel, rfl, by decide +kernel, by decide +kernel⟩
abbrev s_Unpacker_value : Stmt := inClass (top 9) 5
abbrev N_Unpacker_value : List Str := ["self", "depth", "sign", "parts"]
theorem sc_Unpacker_value : FnScope N_Unpacker_value ["self", "depth"] (defScope s_Unpacker_value) := ⟨rfl, rfl, rfl, by decide +kernel, rfl, by decide +kernel, by decide +kernel⟩
def gnames : List Str := ["pack", "unpack", "_law_deck", "_law_draw", "_law_pick", "_law_string", "_law_integer", "_law_value", "_law_packed", "_law_right", "law", "Unpacker", "SIGNS"]
structure Txt (w : World) (K : PySem.W.Frag) (mg : Str → Option Value) : Prop where
  d_pack : FnP K "pack" s_pack
  d_unpack : FnP K "unpack" s_unpack
  d__law_deck : FnP K "_law_deck" s__law_deck
  d__law_draw : FnP K "_law_draw" s__law_draw
  d__law_pick : FnP K "_law_pick" s__law_pick
  d__law_string : FnP K "_law_string" s__law_string
  d__law_integer : FnP K "_law_integer" s__law_integer
  d__law_value : FnP K "_law_value" s__law_value
  d__law_packed : FnP K "_law_packed" s__law_packed
  d__law_right : FnP K "_law_right" s__law_right
  d_law : FnP K "law" s_law
  d_Unpacker___init__ : ∃ fd, FunD K "__init__" "Unpacker.__init__" (defArgs s_Unpacker___init__) (defBody s_Unpacker___init__) (defScope s_Unpacker___init__) [] [] (He.ma K (He.ga K "Unpacker") "__init__") fd
  d_Unpacker_need : ∃ fd, FunD K "need" "Unpacker.need" (defArgs s_Unpacker_need) (defBody s_Unpacker_need) (defScope s_Unpacker_need) [] [] (He.ma K (He.ga K "Unpacker") "need") fd
  m_Unpacker_need : Meth K (He.ga K "Unpacker") "need" (He.ma K (He.ga K "Unpacker") "need")
  d_Unpacker_next_sign : ∃ fd, FunD K "next_sign" "Unpacker.next_sign" (defArgs s_Unpacker_next_sign) (defBody s_Unpacker_next_sign) (defScope s_Unpacker_next_sign) [] [] (He.ma K (He.ga K "Unpacker") "next_sign") fd
  m_Unpacker_next_sign : Meth K (He.ga K "Unpacker") "next_sign" (He.ma K (He.ga K "Unpacker") "next_sign")
  d_Unpacker_number : ∃ fd, FunD K "number" "Unpacker.number" (defArgs s_Unpacker_number) (defBody s_Unpacker_number) (defScope s_Unpacker_number) [] [] (He.ma K (He.ga K "Unpacker") "number") fd
  m_Unpacker_number : Meth K (He.ga K "Unpacker") "number" (He.ma K (He.ga K "Unpacker") "number")
  d_Unpacker_string : ∃ fd, FunD K "string" "Unpacker.string" (defArgs s_Unpacker_string) (defBody s_Unpacker_string) (defScope s_Unpacker_string) [] [] (He.ma K (He.ga K "Unpacker") "string") fd
  m_Unpacker_string : Meth K (He.ga K "Unpacker") "string" (He.ma K (He.ga K "Unpacker") "string")
  d_Unpacker_value : ∃ fd, FunD K "value" "Unpacker.value" (defArgs s_Unpacker_value) (defBody s_Unpacker_value) (defScope s_Unpacker_value) [] [] (He.ma K (He.ga K "Unpacker") "value") fd
  m_Unpacker_value : Meth K (He.ga K "Unpacker") "value" (He.ma K (He.ga K "Unpacker") "value")
  cl_Unpacker : Cls K (He.ga K "Unpacker")
  mk_Unpacker : Mk K (He.ga K "Unpacker") (He.ma K (He.ga K "Unpacker") "__init__")
  no_Unpacker_text : NoAttr K (He.ga K "Unpacker") "text"
  no_Unpacker_at : NoAttr K (He.ga K "Unpacker") "at"
  c_DIGITS : ∃ t, mg "DIGITS" = some (.str "0123456789" t)
  c_DEEPEST : ∃ t, mg "DEEPEST" = some (.int 100 t)
  c_LONGEST_NUMBER : ∃ t, mg "LONGEST_NUMBER" = some (.int 4300 t)
  t_SIGNS : KTab K w (He.ga K "SIGNS") [("T", .bl true), ("F", .bl false), ("N", .non)]
  n_ValueError : mg "ValueError" = none
  n_all : mg "all" = none
  n_bool : mg "bool" = none
  n_int : mg "int" = none
  n_isinstance : mg "isinstance" = none
  n_len : mg "len" = none
  n_list : mg "list" = none
  n_range : mg "range" = none
  n_repr : mg "repr" = none
  n_set : mg "set" = none
  n_str : mg "str" = none
  n_super : mg "super" = none
  n_tuple : mg "tuple" = none
  g : ∀ x ∈ gnames, mg x = some (.ref (He.ga K x))
theorem glos {K : PySem.W.Frag} {h : Heap} {mg : Str → Option Value} (X : K.In h) (G : h.Ns mainGlobals mg) : ∀ {l : List Str}, (∀ x ∈ l, (He.Fa.glo x).ok K = true) → ∀ x ∈ l, mg x = some (.ref (He.ga K x)) := fun h x hx => He.glo_ok X G (h x hx)
theorem txt {w : World} {K : PySem.W.Frag} {h : Heap} {mg : Str → Option Value} (X : K.In h) (G : h.Ns mainGlobals mg) (c : SaysB fa fn ts bx w K) : Txt w K mg where
  d_pack := c.d.def_ 0 (d := dd "pack" 8) rfl
  d_unpack := c.d.def_ 1 (d := dd "unpack" 10) rfl
  d__law_deck := c.d.def_ 2 (d := dd "_law_deck" 12) rfl
  d__law_draw := c.d.def_ 3 (d := dd "_law_draw" 13) rfl
  d__law_pick := c.d.def_ 4 (d := dd "_law_pick" 14) rfl
  d__law_string := c.d.def_ 5 (d := dd "_law_string" 15) rfl
  d__law_integer := c.d.def_ 6 (d := dd "_law_integer" 16) rfl
  d__law_value := c.d.def_ 7 (d := dd "_law_value" 17) rfl
  d__law_packed := c.d.def_ 8 (d := dd "_law_packed" 18) rfl
  d__law_right := c.d.def_ 9 (d := dd "_law_right" 19) rfl
  d_law := c.d.def_ 10 (d := dd "law" 20) rfl
  d_Unpacker___init__ := c.d.def_ 11 (d := dm "Unpacker" "__init__" "Unpacker.__init__" 9 0) rfl
  d_Unpacker_need := c.d.def_ 12 (d := dm "Unpacker" "need" "Unpacker.need" 9 1) rfl
  m_Unpacker_need := He.meth_ok (c.d.fact 0 (f := .meth "Unpacker" "need") rfl)
  d_Unpacker_next_sign := c.d.def_ 13 (d := dm "Unpacker" "next_sign" "Unpacker.next_sign" 9 2) rfl
  m_Unpacker_next_sign := He.meth_ok (c.d.fact 1 (f := .meth "Unpacker" "next_sign") rfl)
  d_Unpacker_number := c.d.def_ 14 (d := dm "Unpacker" "number" "Unpacker.number" 9 3) rfl
  m_Unpacker_number := He.meth_ok (c.d.fact 2 (f := .meth "Unpacker" "number") rfl)
  d_Unpacker_string := c.d.def_ 15 (d := dm "Unpacker" "string" "Unpacker.string" 9 4) rfl
  m_Unpacker_string := He.meth_ok (c.d.fact 3 (f := .meth "Unpacker" "string") rfl)
  d_Unpacker_value := c.d.def_ 16 (d := dm "Unpacker" "value" "Unpacker.value" 9 5) rfl
  m_Unpacker_value := He.meth_ok (c.d.fact 4 (f := .meth "Unpacker" "value") rfl)
  cl_Unpacker := He.cls_ok (c.d.fact 5 (f := .cls "Unpacker") rfl)
  mk_Unpacker := He.mkr_ok (c.d.fact 6 (f := .mkr "Unpacker") rfl)
  no_Unpacker_text := He.noat_ok (c.d.fact 7 (f := .noat "Unpacker" "text") rfl)
  no_Unpacker_at := He.noat_ok (c.d.fact 8 (f := .noat "Unpacker" "at") rfl)
  c_DIGITS := He.str_ok X G (c.d.fact 9 (f := .str "DIGITS" "0123456789") rfl)
  c_DEEPEST := He.int_ok X G (c.d.fact 10 (f := .int "DEEPEST" 100) rfl)
  c_LONGEST_NUMBER := He.int_ok X G (c.d.fact 11 (f := .int "LONGEST_NUMBER" 4300) rfl)
  t_SIGNS := ktab_mk c 0 (kvs := [("T", .bl true), ("F", .bl false), ("N", .non)]) rfl rfl (He.ba c.b).1
  n_ValueError := He.free_ok X G (c.d.fact 12 (f := .free "ValueError") rfl)
  n_all := He.free_ok X G (c.d.fact 13 (f := .free "all") rfl)
  n_bool := He.free_ok X G (c.d.fact 14 (f := .free "bool") rfl)
  n_int := He.free_ok X G (c.d.fact 15 (f := .free "int") rfl)
  n_isinstance := He.free_ok X G (c.d.fact 16 (f := .free "isinstance") rfl)
  n_len := He.free_ok X G (c.d.fact 17 (f := .free "len") rfl)
  n_list := He.free_ok X G (c.d.fact 18 (f := .free "list") rfl)
  n_range := He.free_ok X G (c.d.fact 19 (f := .free "range") rfl)
  n_repr := He.free_ok X G (c.d.fact 20 (f := .free "repr") rfl)
  n_set := He.free_ok X G (c.d.fact 21 (f := .free "set") rfl)
  n_str := He.free_ok X G (c.d.fact 22 (f := .free "str") rfl)
  n_super := He.free_ok X G (c.d.fact 23 (f := .free "super") rfl)
  n_tuple := He.free_ok X G (c.d.fact 24 (f := .free "tuple") rfl)
  g := by
    refine glos X G (l := gnames) ?_
    intro x hx
    obtain ⟨i, hi⟩ := List.getElem?_of_mem hx
    have e : fa[25 + i]? = some (He.Fa.glo x) := by
      have : (gnames.map He.Fa.glo)[i]? = some (He.Fa.glo x) := by rw [List.getElem?_map, hi]; rfl
      have h2 : fa.drop 25 = gnames.map He.Fa.glo := rfl
      rw [← h2, List.getElem?_drop] at this
      exact this
    exact c.d.fact (25 + i) e
end K13

set_option maxHeartbeats 4000000
namespace K13
open PySem PySem.Spec PyProof.Rows L2 HG
open TL (numL tl_num numL_digits numL_ne numL_inj numL_val numL_len)
/-! ### ints as codes -/
def numI (i : Int) : List Nat := if i < 0 then 45 :: numL i.natAbs else numL i.natAbs
theorem cp_num (i : Int) : cp (Str.ofString (toString i)) = numI i := by
  unfold numI
  by_cases h : i < 0
  · rw [if_pos h]
    rw [toString_neg h]
    obtain ⟨n, hn⟩ := Int.eq_ofNat_of_zero_le (show 0 ≤ 0 - i by omega)
    rw [hn]
    have e2 : cp (Str.ofString ("-" ++ toString ((n : Nat) : Int))) = 45 :: cp (Str.ofString (toString ((n : Nat) : Int))) := by
      unfold cp
      rw [Str.ofString_eq_toList, Str.ofString_eq_toList, String.toList_append, List.map_append]
      rfl
    rw [e2]
    have e3 : cp (Str.ofString (toString ((n : Nat) : Int))) = numL n := tl_num n
    rw [e3]
    have e4 : i.natAbs = n := by omega
    rw [e4]
  · rw [if_neg h]
    obtain ⟨n, rfl⟩ := Int.eq_ofNat_of_zero_le (Int.not_lt.mp h)
    exact tl_num n
theorem numI_sign (i : Int) : ∀ c ∈ numI i, c = 45 ∨ (48 ≤ c ∧ c ≤ 57) := by
  intro c hc
  unfold numI at hc
  split at hc
  · rcases List.mem_cons.mp hc with rfl | hc
    · exact .inl rfl
    · exact .inr (numL_digits _ c hc)
  · exact .inr (numL_digits _ c hc)
theorem numI_ne (i : Int) : numI i ≠ [] := by
  unfold numI
  split
  · simp
  · exact numL_ne _
theorem numI_inj {i j : Int} (h : numI i = numI j) : i = j := by
  have key : ∀ n m : Nat, numL n ≠ 45 :: numL m := fun n m e => by
    have := numL_digits n 45 (by rw [e]; exact List.mem_cons_self)
    omega
  unfold numI at h
  split at h
  · split at h
    · injection h with _ h
      have := numL_inj h
      omega
    · exact absurd h.symm (key _ _)
  · split at h
    · exact absurd h (key _ _)
    · have := numL_inj h
      omega
/-- up to the first sign that p is not so of -/
theorem cut_at {p : Nat → Bool} {a b r s : List Nat} (ha : ∀ c ∈ a, p c = true) (hb : ∀ c ∈ b, p c = true) (hr : ∀ c, r.head? = some c → p c = false) (hs : ∀ c, s.head? = some c → p c = false)
    (h : a ++ r = b ++ s) : a = b ∧ r = s := by
  induction a generalizing b with
  | nil =>
    cases b with
    | nil => exact ⟨rfl, h⟩
    | cons x b =>
      have h1 : r = x :: (b ++ s) := h
      have := hr x (by rw [h1]; rfl)
      rw [hb x List.mem_cons_self] at this
      cases this
  | cons x a ih =>
    cases b with
    | nil =>
      have h1 : x :: (a ++ r) = s := h
      have := hs x (by rw [← h1]; rfl)
      rw [ha x List.mem_cons_self] at this
      cases this
    | cons y b =>
      have h1 : x :: (a ++ r) = y :: (b ++ s) := h
      injection h1 with e h2
      obtain ⟨e1, e2⟩ := ih (fun c hc => ha c (List.mem_cons_of_mem _ hc)) (fun c hc => hb c (List.mem_cons_of_mem _ hc)) h2
      exact ⟨by rw [e, e1], e2⟩
/-! ### packed -/
mutual
def pk : PyData → List Nat
  | .none => [78]
  | .bool b => if b then [84] else [70]
  | .int i => 105 :: (numI i ++ [59])
  | .str z => 115 :: (numL z.length ++ 58 :: cp z)
  | .tuple ds => 40 :: (pkAll ds ++ [41])
  | .list _ => []
  | .dict _ => []
def pkAll : List PyData → List Nat
  | [] => []
  | d :: ds => pk d ++ pkAll ds
end
/-! ### which values -/
def goodC (c : Nat) : Bool := decide (c = 10) || (decide (32 ≤ c) && decide (c ≤ 126) && !decide (c = 39) && !decide (c = 34) && !decide (c = 92))
mutual
def okD : PyData → Bool
  | .none => true
  | .bool _ => true
  | .int i => decide (i.natAbs < 10 ^ 41)
  | .str z => decide (z.length ≤ 100) && (cp z).all goodC
  | .tuple ds => okAll ds
  | .list _ => false
  | .dict _ => false
def okAll : List PyData → Bool
  | [] => true
  | d :: ds => okD d && okAll ds
end
theorem okAll_mem : ∀ {ds : List PyData}, okAll ds = true ↔ ∀ d ∈ ds, okD d = true
  | [] => by simp [okAll]
  | d :: ds => by
    have ih := okAll_mem (ds := ds)
    simp only [okAll, Bool.and_eq_true, List.mem_cons]
    constructor
    · rintro ⟨a, b⟩ x (rfl | hx)
      · exact a
      · exact ih.mp b x hx
    · intro h
      exact ⟨h d (.inl rfl), ih.mpr fun x hx => h x (.inr hx)⟩
/-- the first sign of a packed value -/
theorem pk_head {d : PyData} (h : okD d = true) : ∃ c r, pk d = c :: r ∧ c ≠ 41 := by
  cases d with
  | none => exact ⟨78, [], rfl, by decide⟩
  | bool b =>
    cases b with
    | true => exact ⟨84, [], rfl, by decide⟩
    | false => exact ⟨70, [], rfl, by decide⟩
  | int i => exact ⟨105, numI i ++ [59], by simp only [pk], by decide⟩
  | str z => exact ⟨115, numL z.length ++ 58 :: cp z, by simp only [pk], by decide⟩
  | tuple ds => exact ⟨40, pkAll ds ++ [41], by simp only [pk], by decide⟩
  | list ds => simp [okD] at h
  | dict ds => simp [okD] at h
mutual
theorem pk_pre : ∀ {d e : PyData} {r s : List Nat}, okD d = true → okD e = true → pk d ++ r = pk e ++ s → d = e ∧ r = s
  | .none, .none, r, s, _, _, h => ⟨rfl, by simpa [pk] using h⟩
  | .bool a, .bool b, r, s, _, _, h => by
    cases a <;> cases b <;> simp [pk] at h
    · exact ⟨rfl, h⟩
    · exact ⟨rfl, h⟩
  | .int i, .int j, r, s, _, _, h => by
    simp only [pk, List.cons_append, List.append_assoc] at h
    injection h with _ h
    obtain ⟨e1, e2⟩ := cut_at (p := fun c => decide (c = 45) || (decide (48 ≤ c) && decide (c ≤ 57))) (fun c hc => by
        have := numI_sign i c hc
        simp only [Bool.or_eq_true, Bool.and_eq_true, decide_eq_true_eq]
        exact this) (fun c hc => by
        have := numI_sign j c hc
        simp only [Bool.or_eq_true, Bool.and_eq_true, decide_eq_true_eq]
        exact this) (fun c hc => by
        have : 59 = c := Option.some.inj hc
        subst this
        rfl) (fun c hc => by
        have : 59 = c := Option.some.inj hc
        subst this
        rfl) h
    injection e2 with _ e2
    exact ⟨by rw [numI_inj e1], e2⟩
  | .str x, .str y, r, s, _, _, h => by
    simp only [pk, List.cons_append, List.append_assoc] at h
    injection h with _ h
    obtain ⟨e1, e2⟩ := cut_at (p := fun c => decide (48 ≤ c) && decide (c ≤ 57)) (fun c hc => by
        have := numL_digits x.length c hc
        simp only [Bool.and_eq_true, decide_eq_true_eq]
        exact this) (fun c hc => by
        have := numL_digits y.length c hc
        simp only [Bool.and_eq_true, decide_eq_true_eq]
        exact this) (fun c hc => by
        have : 58 = c := Option.some.inj hc
        subst this
        rfl) (fun c hc => by
        have : 58 = c := Option.some.inj hc
        subst this
        rfl) h
    injection e2 with _ e2
    have hl := numL_inj e1
    obtain ⟨a, b⟩ := List.append_inj e2 (by rw [cp_len, cp_len]; exact hl)
    exact ⟨by rw [cp_ext a], b⟩
  | .tuple ds, .tuple es, r, s, hd, he, h => by
    simp only [pk, List.cons_append, List.append_assoc] at h
    injection h with _ h
    obtain ⟨a, b⟩ := pkAll_pre (by simpa [okD] using hd) (by simpa [okD] using he) h
    exact ⟨by rw [a], b⟩
  | .none, .bool b, r, s, _, _, h => by cases b <;> simp [pk] at h
  | .none, .int _, r, s, _, _, h => by simp [pk] at h
  | .none, .str _, r, s, _, _, h => by simp [pk] at h
  | .none, .tuple _, r, s, _, _, h => by simp [pk] at h
  | .bool b, .none, r, s, _, _, h => by cases b <;> simp [pk] at h
  | .bool b, .int _, r, s, _, _, h => by cases b <;> simp [pk] at h
  | .bool b, .str _, r, s, _, _, h => by cases b <;> simp [pk] at h
  | .bool b, .tuple _, r, s, _, _, h => by cases b <;> simp [pk] at h
  | .int _, .none, r, s, _, _, h => by simp [pk] at h
  | .int _, .bool b, r, s, _, _, h => by cases b <;> simp [pk] at h
  | .int _, .str _, r, s, _, _, h => by simp [pk] at h
  | .int _, .tuple _, r, s, _, _, h => by simp [pk] at h
  | .str _, .none, r, s, _, _, h => by simp [pk] at h
  | .str _, .bool b, r, s, _, _, h => by cases b <;> simp [pk] at h
  | .str _, .int _, r, s, _, _, h => by simp [pk] at h
  | .str _, .tuple _, r, s, _, _, h => by simp [pk] at h
  | .tuple _, .none, r, s, _, _, h => by simp [pk] at h
  | .tuple _, .bool b, r, s, _, _, h => by cases b <;> simp [pk] at h
  | .tuple _, .int _, r, s, _, _, h => by simp [pk] at h
  | .tuple _, .str _, r, s, _, _, h => by simp [pk] at h
  | .list _, _, r, s, hd, _, _ => by simp [okD] at hd
  | .dict _, _, r, s, hd, _, _ => by simp [okD] at hd
  | .none, .list _, r, s, _, he, _ => by simp [okD] at he
  | .none, .dict _, r, s, _, he, _ => by simp [okD] at he
  | .bool _, .list _, r, s, _, he, _ => by simp [okD] at he
  | .bool _, .dict _, r, s, _, he, _ => by simp [okD] at he
  | .int _, .list _, r, s, _, he, _ => by simp [okD] at he
  | .int _, .dict _, r, s, _, he, _ => by simp [okD] at he
  | .str _, .list _, r, s, _, he, _ => by simp [okD] at he
  | .str _, .dict _, r, s, _, he, _ => by simp [okD] at he
  | .tuple _, .list _, r, s, _, he, _ => by simp [okD] at he
  | .tuple _, .dict _, r, s, _, he, _ => by simp [okD] at he
theorem pkAll_pre : ∀ {ds es : List PyData} {r s : List Nat}, okAll ds = true → okAll es = true → pkAll ds ++ 41 :: r = pkAll es ++ 41 :: s → ds = es ∧ r = s
  | [], [], r, s, _, _, h => by
    simp [pkAll] at h
    exact ⟨rfl, h⟩
  | [], e :: es, r, s, _, he, h => by
    have he' : okD e = true ∧ okAll es = true := by simpa [okAll] using he
    obtain ⟨c, t, e1, e2⟩ := pk_head he'.1
    simp only [pkAll, e1, List.nil_append, List.cons_append] at h
    injection h with h1 _
    exact absurd h1.symm e2
  | d :: ds, [], r, s, hd, _, h => by
    have hd' : okD d = true ∧ okAll ds = true := by simpa [okAll] using hd
    obtain ⟨c, t, e1, e2⟩ := pk_head hd'.1
    simp only [pkAll, e1, List.nil_append, List.cons_append] at h
    injection h with h1 _
    exact absurd h1 e2
  | d :: ds, e :: es, r, s, hd, he, h => by
    have hd' : okD d = true ∧ okAll ds = true := by simpa [okAll] using hd
    have he' : okD e = true ∧ okAll es = true := by simpa [okAll] using he
    simp only [pkAll, List.append_assoc] at h
    obtain ⟨a, b⟩ := pk_pre hd'.1 he'.1 h
    obtain ⟨a2, b2⟩ := pkAll_pre hd'.2 he'.2 b
    exact ⟨by rw [a, a2], b2⟩
end
theorem pk_inj {d e : PyData} (hd : okD d = true) (he : okD e = true) (h : pk d = pk e) : d = e :=
  (pk_pre (r := []) (s := []) hd he (by rw [h])).1
end K13

set_option maxHeartbeats 4000000
namespace K13
open PySem PySem.Spec PyProof.Rows L2 HG
open TL (numL tl_num numL_digits numL_ne numL_inj numL_val numL_len)
/-! ### what repr shows of a text -/
def esc (c : Nat) : List Nat := if c = 10 then [92, 110] else [c]
theorem good_lt {c : Nat} (h : goodC c = true) : c < 127 := by
  unfold goodC at h
  simp at h
  omega
theorem good_esc {c : Nat} (h : goodC c = true) : Builtin.Str.reprChar 39 c = esc c := by
  have all : ∀ c : Nat, c < 127 → goodC c = true → Builtin.Str.reprChar 39 c = esc c := by decide +kernel
  exact all c (good_lt h) h
theorem fold_esc : ∀ (l : List Nat) (acc : Array Nat), (∀ c ∈ l, goodC c = true) → (l.foldl (fun out c => out ++ (Builtin.Str.reprChar 39 c).toArray) acc).toList = acc.toList ++ l.flatMap esc
  | [], acc, _ => by simp
  | c :: r, acc, h => by
    rw [List.foldl_cons, fold_esc r _ fun d hd => h d (List.mem_cons_of_mem _ hd), good_esc (h c List.mem_cons_self), List.flatMap_cons]
    simp
theorem cp_repr {z : Str} (h : (cp z).all goodC = true) : cp (reprText z) = 39 :: ((cp z).flatMap esc ++ [39]) := by
  have hg : ∀ c ∈ cp z, goodC c = true := List.all_eq_true.mp h
  have q : reprQuote z = 39 := by
    unfold reprQuote
    have : z.cps.contains 39 = false := by
      rw [← Array.contains_toList]
      cases e : z.cps.toList.contains 39 with
      | false => rfl
      | true =>
        have hm : 39 ∈ cp z := by simpa using e
        exact absurd (hg 39 hm) (by decide)
    rw [this]
    rfl
  unfold cp reprText
  rw [q, Array.toList_push, ← Array.foldl_toList, fold_esc _ _ hg]
  simp
theorem esc_free {l : List Nat} (h : ∀ c ∈ l, goodC c = true) : ∀ c ∈ l.flatMap esc, c ≠ 39 := by
  intro c hc
  obtain ⟨d, hd, hc⟩ := List.mem_flatMap.mp hc
  have hg := h d hd
  unfold esc at hc
  split at hc
  · simp at hc
    omega
  · have : c = d := by simpa using hc
    subst this
    rintro rfl
    exact absurd hg (by decide)
theorem esc_inj : ∀ {a b : List Nat}, (∀ c ∈ a, goodC c = true) → (∀ c ∈ b, goodC c = true) → a.flatMap esc = b.flatMap esc → a = b
  | [], [], _, _, _ => rfl
  | [], y :: b, _, _, h => by
    exfalso
    rw [List.flatMap_cons] at h
    unfold esc at h
    split at h <;> simp at h
  | x :: a, [], _, _, h => by
    exfalso
    rw [List.flatMap_cons] at h
    unfold esc at h
    split at h <;> simp at h
  | x :: a, y :: b, ha, hb, h => by
    have gx := ha x List.mem_cons_self
    have gy := hb y List.mem_cons_self
    have x92 : x ≠ 92 := by rintro rfl; exact absurd gx (by decide)
    have y92 : y ≠ 92 := by rintro rfl; exact absurd gy (by decide)
    rw [List.flatMap_cons, List.flatMap_cons] at h
    have ih := fun h => esc_inj (a := a) (b := b) (fun c hc => ha c (List.mem_cons_of_mem _ hc)) (fun c hc => hb c (List.mem_cons_of_mem _ hc)) h
    have ex : esc x = if x = 10 then [92, 110] else [x] := rfl
    have ey : esc y = if y = 10 then [92, 110] else [y] := rfl
    rw [ex, ey] at h
    by_cases h1 : x = 10
    · by_cases h2 : y = 10
      · rw [if_pos h1, if_pos h2] at h
        have h3 := List.append_cancel_left h
        rw [ih h3, h1, h2]
      · rw [if_pos h1, if_neg h2] at h
        injection h with h3 _
        exact absurd h3.symm y92
    · by_cases h2 : y = 10
      · rw [if_neg h1, if_pos h2] at h
        injection h with h3 _
        exact absurd h3 x92
      · rw [if_neg h1, if_neg h2] at h
        injection h with h3 h4
        rw [ih h4, h3]
/-! ### what repr shows of a value, as codes -/
mutual
def sh : PyData → List Nat
  | .none => [78, 111, 110, 101]
  | .bool b => if b then [84, 114, 117, 101] else [70, 97, 108, 115, 101]
  | .int i => numI i
  | .str z => 39 :: ((cp z).flatMap esc ++ [39])
  | .tuple ds => 40 :: shT ds
  | .list _ => []
  | .dict _ => []
/-- the rest of a tuple -/
def shT : List PyData → List Nat
  | [] => [41]
  | d :: ds => sh d ++ shR ds
def shR : List PyData → List Nat
  | [] => [44, 41]
  | d :: ds => 44 :: 32 :: (sh d ++ shU ds)
def shU : List PyData → List Nat
  | [] => [41]
  | d :: ds => 44 :: 32 :: (sh d ++ shU ds)
end
theorem join_cons (x y : Str) (r : List Str) : Str.join ", " (x :: y :: r) = x ++ ", " ++ Str.join ", " (y :: r) := rfl
theorem comma : cp (", " : Str) = [44, 32] := by decide +kernel
mutual
theorem cp_shown : ∀ d : PyData, okD d = true → cp d.shown = sh d
  | .none, _ => by
    simp only [PyData.shown, sh]
    decide +kernel
  | .bool b, _ => by
    cases b
    · simp only [PyData.shown, sh]
      decide +kernel
    · simp only [PyData.shown, sh]
      decide +kernel
  | .int i, _ => by
    simp only [PyData.shown, sh]
    exact cp_num i
  | .str z, h => by
    have h2 : (cp z).all goodC = true := by
      have : z.length ≤ 100 ∧ (cp z).all goodC = true := by simpa [okD] using h
      exact this.2
    simp only [PyData.shown, sh]
    exact cp_repr h2
  | .tuple ds, h => by
    have h2 : okAll ds = true := by simpa [okD] using h
    simp only [PyData.shown, sh, tupleText]
    rw [cp_app, cp_app]
    have e1 : cp ("(" : Str) = [40] := by decide +kernel
    rw [e1]
    match ds, h2 with
    | [], _ =>
      simp only [PyData.shownAll, shT]
      decide +kernel
    | [d], h2 =>
      have hd : okD d = true := by simpa [okAll] using h2
      have e3 : cp ((if (PyData.shownAll [d]).length == 1 then ",)" else ")" : String) : Str) = [44, 41] := by
        have : ((PyData.shownAll [d]).length == 1) = true := by
          simp only [PyData.shownAll, List.length_cons]
          simp
        rw [this]
        show cp (",)" : Str) = [44, 41]
        decide +kernel
      rw [e3]
      have e : cp (Str.join ", " (PyData.shownAll [d])) = sh d := by
        simp only [PyData.shownAll]
        exact cp_shown d hd
      rw [e]
      simp only [shT, shR]
      simp
    | d :: e :: r, h2 =>
      have hd : okD d = true ∧ okAll (e :: r) = true := by
        have : okD d = true ∧ okAll (e :: r) = true := by simpa [okAll] using h2
        exact this
      have ej := cp_joinU (e :: r) hd.2 (by simp)
      have e3 : cp ((if (PyData.shownAll (d :: e :: r)).length == 1 then ",)" else ")" : String) : Str) = [41] := by
        have : ((PyData.shownAll (d :: e :: r)).length == 1) = false := by
          simp only [PyData.shownAll, List.length_cons]
          simp
        rw [this]
        show cp (")" : Str) = [41]
        decide +kernel
      rw [e3]
      simp only [PyData.shownAll] at ej ⊢
      rw [join_cons, cp_app, cp_app, comma, cp_shown d hd.1]
      simp only [shT, shR]
      have e4 : sh e ++ shU r = cp (Str.join ", " (e.shown :: PyData.shownAll r)) ++ [41] := ej.symm
      rw [e4]
      simp
theorem cp_joinU : ∀ ds : List PyData, okAll ds = true → ds ≠ [] → cp (Str.join ", " (PyData.shownAll ds)) ++ [41] = match ds with | [] => [] | d :: r => sh d ++ shU r
  | [], _, h => absurd rfl h
  | [d], h2, _ => by
    have hd : okD d = true := by simpa [okAll] using h2
    simp only [PyData.shownAll, shU]
    have e : cp (Str.join ", " [d.shown]) = sh d := cp_shown d hd
    rw [e]
  | d :: e :: r, h2, _ => by
    have hd : okD d = true ∧ okAll (e :: r) = true := by
      have : okD d = true ∧ okAll (e :: r) = true := by simpa [okAll] using h2
      exact this
    have ej := cp_joinU (e :: r) hd.2 (by simp)
    simp only [PyData.shownAll] at ej ⊢
    rw [join_cons, cp_app, cp_app, comma, cp_shown d hd.1]
    simp only [shU]
    have e4 : cp (Str.join ", " (e.shown :: PyData.shownAll r)) ++ [41] = sh e ++ shU r := ej
    rw [← e4]
    simp
end
/-! ### it tells the value -/
def stop (c : Nat) : Bool := decide (c = 44) || decide (c = 41)
/-- r begins with a comma, a bracket, or not at all -/
def Stops (r : List Nat) : Prop := ∀ c, r.head? = some c → stop c = true
theorem stops_cons {c : Nat} {r : List Nat} (h : stop c = true) : Stops (c :: r) := fun d e => by
  have : c = d := Option.some.inj e
  rw [← this]
  exact h
theorem stops_R (ds : List PyData) (r : List Nat) : Stops (shR ds ++ r) := by
  cases ds with
  | nil => simp only [shR]; exact stops_cons rfl
  | cons d ds => simp only [shR]; exact stops_cons rfl
theorem stops_U (ds : List PyData) (r : List Nat) : Stops (shU ds ++ r) := by
  cases ds with
  | nil => simp only [shU]; exact stops_cons rfl
  | cons d ds => simp only [shU]; exact stops_cons rfl
/-- the first sign -/
theorem sh_head {d : PyData} (h : okD d = true) : ∃ c r, sh d = c :: r ∧ c ≠ 41 ∧ c ≠ 32 := by
  cases d with
  | none => exact ⟨78, _, by simp only [sh]; rfl, by decide, by decide⟩
  | bool b =>
    cases b with
    | true => exact ⟨84, _, by simp only [sh]; rfl, by decide, by decide⟩
    | false => exact ⟨70, _, by simp only [sh]; rfl, by decide, by decide⟩
  | int i =>
    cases e : numI i with
    | nil => exact absurd e (numI_ne i)
    | cons c r =>
      have := numI_sign i c (by rw [e]; exact List.mem_cons_self)
      exact ⟨c, r, by simp only [sh]; exact e, by omega, by omega⟩
  | str z => exact ⟨39, (cp z).flatMap esc ++ [39], by simp only [sh], by decide, by decide⟩
  | tuple ds => exact ⟨40, shT ds, by simp only [sh], by decide, by decide⟩
  | list ds => simp [okD] at h
  | dict ds => simp [okD] at h
/-- the first sign tells the sort -/
def sort1 : PyData → Nat
  | .none => 1
  | .bool true => 2
  | .bool false => 3
  | .int _ => 4
  | .str _ => 5
  | .tuple _ => 6
  | .list _ => 7
  | .dict _ => 7
def sortC (c : Nat) : Nat := if c = 78 then 1 else if c = 84 then 2 else if c = 70 then 3 else if c = 39 then 5 else if c = 40 then 6 else 4
theorem sh_sort {d : PyData} (h : okD d = true) {r : List Nat} {c : Nat} (e : (sh d ++ r).head? = some c) : sortC c = sort1 d := by
  cases d with
  | none => simp [sh] at e; subst e; rfl
  | bool b => cases b <;> (simp [sh] at e; subst e; rfl)
  | int i =>
    simp only [sh] at e
    cases e2 : numI i with
    | nil => exact absurd e2 (numI_ne i)
    | cons c' r' =>
      rw [e2] at e
      have hc : c' = c := by simpa using e
      have := numI_sign i c' (by rw [e2]; exact List.mem_cons_self)
      subst hc
      unfold sortC sort1
      rw [if_neg (by omega), if_neg (by omega), if_neg (by omega), if_neg (by omega), if_neg (by omega)]
  | str z => simp [sh] at e; subst e; rfl
  | tuple ds => simp [sh] at e; subst e; rfl
  | list ds => simp [okD] at h
  | dict ds => simp [okD] at h
mutual
theorem sh_pre : ∀ {d e : PyData} {r s : List Nat}, okD d = true → okD e = true → Stops r → Stops s → sh d ++ r = sh e ++ s → d = e ∧ r = s := by
  intro d e r s hd he hr hs h
  have same : sort1 d = sort1 e := by
    obtain ⟨c, t, e1, _⟩ := sh_head hd
    have h1 := sh_sort (r := r) hd (c := c) (by rw [e1]; rfl)
    have h2 := sh_sort (r := s) he (c := c) (by rw [← h, e1]; rfl)
    exact h1.symm.trans h2
  match d, e, hd, he, same with
  | .none, .none, _, _, _ =>
    simp only [sh] at h
    exact ⟨rfl, List.append_cancel_left h⟩
  | .bool true, .bool true, _, _, _ =>
    simp only [sh] at h
    exact ⟨rfl, List.append_cancel_left h⟩
  | .bool false, .bool false, _, _, _ =>
    simp only [sh] at h
    exact ⟨rfl, List.append_cancel_left h⟩
  | .int i, .int j, _, _, _ =>
    simp only [sh] at h
    have num : ∀ (i : Int), ∀ c ∈ numI i, (!stop c) = true := fun i c hc => by
      have := numI_sign i c hc
      unfold stop
      rw [decide_eq_false (by omega), decide_eq_false (by omega)]
      rfl
    obtain ⟨e1, e2⟩ := cut_at (p := fun c => !stop c) (num i) (num j) (fun c hc => by rw [hr c hc]; rfl) (fun c hc => by rw [hs c hc]; rfl) h
    exact ⟨by rw [numI_inj e1], e2⟩
  | .str x, .str y, hd, he, _ =>
    have gx : ∀ c ∈ cp x, goodC c = true := by
      have : x.length ≤ 100 ∧ (cp x).all goodC = true := by simpa [okD] using hd
      exact List.all_eq_true.mp this.2
    have gy : ∀ c ∈ cp y, goodC c = true := by
      have : y.length ≤ 100 ∧ (cp y).all goodC = true := by simpa [okD] using he
      exact List.all_eq_true.mp this.2
    simp only [sh, List.cons_append, List.append_assoc] at h
    injection h with _ h
    obtain ⟨e1, e2⟩ := cut_at (p := fun c => !decide (c = 39)) (fun c hc => by rw [decide_eq_false (esc_free gx c hc)]; rfl) (fun c hc => by rw [decide_eq_false (esc_free gy c hc)]; rfl)
      (fun c hc => by
        have : 39 = c := Option.some.inj hc
        subst this
        rfl) (fun c hc => by
        have : 39 = c := Option.some.inj hc
        subst this
        rfl) h
    injection e2 with _ e2
    exact ⟨by rw [cp_ext (esc_inj gx gy e1)], e2⟩
  | .tuple ds, .tuple es, hd, he, _ =>
    simp only [sh, List.cons_append] at h
    injection h with _ h
    obtain ⟨a, b⟩ := shT_pre (by simpa [okD] using hd) (by simpa [okD] using he) h
    exact ⟨by rw [a], b⟩
theorem shT_pre : ∀ {ds es : List PyData} {r s : List Nat}, okAll ds = true → okAll es = true → shT ds ++ r = shT es ++ s → ds = es ∧ r = s
  | [], [], r, s, _, _, h => by
    simp only [shT] at h
    exact ⟨rfl, List.append_cancel_left h⟩
  | [], e :: es, r, s, _, he, h => by
    have he' : okD e = true ∧ okAll es = true := by simpa [okAll] using he
    obtain ⟨c, t, e1, e2, _⟩ := sh_head he'.1
    simp only [shT, e1, List.cons_append] at h
    injection h with h1 _
    exact absurd h1.symm e2
  | d :: ds, [], r, s, hd, _, h => by
    have hd' : okD d = true ∧ okAll ds = true := by simpa [okAll] using hd
    obtain ⟨c, t, e1, e2, _⟩ := sh_head hd'.1
    simp only [shT, e1, List.cons_append] at h
    injection h with h1 _
    exact absurd h1 e2
  | d :: ds, e :: es, r, s, hd, he, h => by
    have hd' : okD d = true ∧ okAll ds = true := by simpa [okAll] using hd
    have he' : okD e = true ∧ okAll es = true := by simpa [okAll] using he
    simp only [shT, List.append_assoc] at h
    obtain ⟨a, b⟩ := sh_pre hd'.1 he'.1 (stops_R _ _) (stops_R _ _) h
    obtain ⟨a2, b2⟩ := shR_pre hd'.2 he'.2 b
    exact ⟨by rw [a, a2], b2⟩
theorem shR_pre : ∀ {ds es : List PyData} {r s : List Nat}, okAll ds = true → okAll es = true → shR ds ++ r = shR es ++ s → ds = es ∧ r = s
  | [], [], r, s, _, _, h => by
    simp only [shR] at h
    exact ⟨rfl, List.append_cancel_left h⟩
  | [], e :: es, r, s, _, he, h => by
    simp only [shR, List.cons_append] at h
    injection h with _ h
    injection h with h1 _
    cases h1
  | d :: ds, [], r, s, hd, _, h => by
    simp only [shR, List.cons_append] at h
    injection h with _ h
    injection h with h1 _
    cases h1
  | d :: ds, e :: es, r, s, hd, he, h => by
    have hd' : okD d = true ∧ okAll ds = true := by simpa [okAll] using hd
    have he' : okD e = true ∧ okAll es = true := by simpa [okAll] using he
    simp only [shR, List.cons_append, List.append_assoc] at h
    injection h with _ h
    injection h with _ h
    obtain ⟨a, b⟩ := sh_pre hd'.1 he'.1 (stops_U _ _) (stops_U _ _) h
    obtain ⟨a2, b2⟩ := shU_pre hd'.2 he'.2 b
    exact ⟨by rw [a, a2], b2⟩
theorem shU_pre : ∀ {ds es : List PyData} {r s : List Nat}, okAll ds = true → okAll es = true → shU ds ++ r = shU es ++ s → ds = es ∧ r = s
  | [], [], r, s, _, _, h => by
    simp only [shU] at h
    exact ⟨rfl, List.append_cancel_left h⟩
  | [], e :: es, r, s, _, he, h => by
    simp only [shU, List.cons_append] at h
    injection h with h1 _
    cases h1
  | d :: ds, [], r, s, hd, _, h => by
    simp only [shU, List.cons_append] at h
    injection h with h1 _
    cases h1
  | d :: ds, e :: es, r, s, hd, he, h => by
    have hd' : okD d = true ∧ okAll ds = true := by simpa [okAll] using hd
    have he' : okD e = true ∧ okAll es = true := by simpa [okAll] using he
    simp only [shU, List.cons_append, List.append_assoc] at h
    injection h with _ h
    injection h with _ h
    obtain ⟨a, b⟩ := sh_pre hd'.1 he'.1 (stops_U _ _) (stops_U _ _) h
    obtain ⟨a2, b2⟩ := shU_pre hd'.2 he'.2 b
    exact ⟨by rw [a, a2], b2⟩
end
theorem shown_inj {d e : PyData} (hd : okD d = true) (he : okD e = true) (h : d.shown = e.shown) : d = e := by
  have h1 := cp_shown d hd
  rw [h, cp_shown e he] at h1
  exact (sh_pre (r := []) (s := []) hd he (fun _ z => nomatch z) (fun _ z => nomatch z) (by rw [h1])).1
end K13

set_option maxHeartbeats 4000000
namespace K13
open PySem PySem.Spec PyProof.Rows L2 HG
open TL (numL tl_num numL_digits numL_ne numL_inj numL_val numL_len)
theorem getD_cp (z : Str) (v : Nat) : z.cps.getD v 0 = (cp z)[v]?.getD 0 := by
  unfold cp
  rw [Array.getElem?_toList, Array.getD_eq_getD_getElem?]
theorem from_nat {n k : Nat} : PySem.fromIndex n (k : Int) = k := by
  unfold PySem.fromIndex
  rw [if_neg (by omega)]
  omega
/-- find of a sign from a place on -/
theorem find_at {z : Str} {pre a post : List Nat} {c : Nat} (h : cp z = pre ++ (a ++ c :: post)) (ha : ∀ x ∈ a, x ≠ c) : Txt.find3 z ⟨#[c]⟩ (pre.length : Int) = ((pre.length + a.length : Nat) : Int) := by
  have hlen : z.length = pre.length + (a.length + (post.length + 1)) := by
    rw [← cp_len, h, List.length_append, List.length_append, List.length_cons]
  have at1 : z.cps.getD (pre.length + a.length) 0 = c := by
    rw [getD_cp, h, List.getElem?_append_right (by omega), Nat.add_sub_cancel_left, List.getElem?_append_right (Nat.le_refl _), Nat.sub_self]
    rfl
  have before : ∀ v, pre.length ≤ v → v < pre.length + a.length → z.cps.getD v 0 ≠ c := fun v h1 h2 => by
    rw [getD_cp, h, List.getElem?_append_right h1, List.getElem?_append_left (by omega)]
    have hlt : v - pre.length < a.length := by omega
    rw [List.getElem?_eq_getElem hlt]
    exact ha _ (List.getElem_mem hlt)
  rcases StrLaws.find3_spec z c (pre.length : Int) with ⟨_, hn⟩ | ⟨k, h1, h2, h3, h4, h5⟩
  · rw [from_nat] at hn
    exact absurd at1 (hn _ (by omega) (by omega))
  · rw [from_nat] at h2 h5
    rw [h1]
    have : k = pre.length + a.length := by
      rcases Nat.lt_trichotomy k (pre.length + a.length) with q | q | q
      · exact absurd h4 (before k h2 q)
      · exact q
      · exact absurd at1 (h5 _ (by omega) q)
    rw [this]
theorem sIx_at {n k d : Nat} (h : k ≤ n) : HT.sIx n d (some (k : Int)) = k := by
  rw [HT.sIx_nat, Nat.min_eq_left h]
/-- a cut in the middle -/
theorem cut_mid {z : Str} {pre a post : List Nat} (h : cp z = pre ++ (a ++ post)) : cp (cutS z (some (pre.length : Int)) (some ((pre.length + a.length : Nat) : Int))) = a := by
  have hlen : z.length = pre.length + (a.length + post.length) := by
    rw [← cp_len, h, List.length_append, List.length_append]
  have e : cp (cutS z (some (pre.length : Int)) (some ((pre.length + a.length : Nat) : Int))) = ((cp z).drop pre.length).take (pre.length + a.length - pre.length) := by
    unfold cutS
    rw [sIx_at (by omega), sIx_at (by omega)]
  rw [e, h, List.drop_left, Nat.add_sub_cancel_left, List.take_left]
/-- the cut of one sign, may be none -/
theorem cut_one {z : Str} {pre post : List Nat} {c : Nat} (h : cp z = pre ++ c :: post) : cutS z (some (pre.length : Int)) (some ((pre.length : Int) + 1)) = ⟨#[c]⟩ := by
  have := cut_mid (z := z) (pre := pre) (a := [c]) (post := post) h
  exact cp_ext this
theorem cut_head {z : Str} {c : Nat} {r : List Nat} (h : cp z = c :: r) : cutS z none (some 1) = ⟨#[c]⟩ := by
  have hlen : z.length = r.length + 1 := by rw [← cp_len, h, List.length_cons]
  have e1 : HT.sIx z.length z.length (some (1 : Int)) = 1 := sIx_at (k := 1) (by omega)
  refine cp_ext ?_
  unfold cutS cp
  rw [HT.sIx_none, e1]
  show ((cp z).drop 0).take (1 - 0) = [c]
  rw [h]
  rfl
theorem cut_tail {z : Str} {c : Nat} {r : List Nat} (h : cp z = c :: r) : cp (cutS z (some 1) none) = r := by
  have hlen : z.length = r.length + 1 := by rw [← cp_len, h, List.length_cons]
  have e1 : HT.sIx z.length 0 (some (1 : Int)) = 1 := sIx_at (k := 1) (by omega)
  unfold cutS cp
  rw [HT.sIx_none, e1]
  show ((cp z).drop 1).take (z.length - 1) = r
  rw [h, hlen]
  simp
/-! ### the digits of a number -/
theorem dv_lt : ∀ (cs : List Nat) (acc : Nat), (∀ c ∈ cs, 48 ≤ c ∧ c ≤ 57) → cs.foldl (fun acc c => acc * 10 + (c - 48)) acc < (acc + 1) * 10 ^ cs.length
  | [], acc, _ => by simp
  | c :: cs, acc, h => by
    have hc := h c List.mem_cons_self
    have ih := dv_lt cs (acc * 10 + (c - 48)) fun x hx => h x (List.mem_cons_of_mem _ hx)
    rw [List.foldl_cons, List.length_cons]
    refine Nat.lt_of_lt_of_le ih ?_
    rw [Nat.pow_succ, Nat.mul_comm (10 ^ cs.length) 10, ← Nat.mul_assoc]
    exact Nat.mul_le_mul_right _ (by omega)
theorem numL_zero : numL 0 = [48] := by decide +kernel
theorem numL_head {n : Nat} {r : List Nat} (h : numL n = 48 :: r) : n = 0 := by
  cases r with
  | nil =>
    have := numL_val n
    rw [h] at this
    rw [← this]
    rfl
  | cons c r =>
    exfalso
    -- the value of 0c.. is that of c.., whose number has fewer digits
    have hv := numL_val n
    have hd := numL_digits n
    rw [h] at hv hd
    have e : NumText.digitsVal (48 :: c :: r) = NumText.digitsVal (c :: r) := rfl
    have hlt : NumText.digitsVal (c :: r) < 10 ^ (c :: r).length := by
      have := dv_lt (c :: r) 0 fun x hx => hd x (List.mem_cons_of_mem _ hx)
      rw [Nat.zero_add, Nat.one_mul] at this
      exact this
    have hl := numL_len (n := n) (k := (c :: r).length) (by simp) (by rw [← hv, e]; exact hlt)
    rw [h] at hl
    simp at hl
    omega
theorem int_text {z : Str} {i : Int} (h : cp z = numI i) (hl : z.length ≤ 4300) : PySem.intText? z = some i := by
  unfold numI at h
  split at h
  · rename_i hi
    have e := intText_neg (x := z) (cs := numL i.natAbs) h (numL_digits _) (numL_ne _) hl
    rw [numL_val] at e
    rw [e]
    congr 1
    omega
  · rename_i hi
    have e := intText_digits (x := z) (by rw [show z.cps.toList = numL i.natAbs from h]; exact numL_digits _) (by rw [show z.cps.toList = numL i.natAbs from h]; exact numL_ne _) hl
    rw [show z.cps.toList = numL i.natAbs from h, numL_val] at e
    rw [e]
    congr 1
    omega
end K13

set_option maxHeartbeats 4000000
namespace K13
open PySem PySem.Spec PyProof.Rows L2 HG
/-! ### the deck: a list of three -/
structure Deck (d c : Addr) (n : Nat) (H : Hp) : Prop where
  ex : ∃ (ns : List Int) (m t : Int), H d = some (.lst [.ref c, .int m, .int t]) ∧ H c = some (.lst (ns.map V.int)) ∧ 0 ≤ t ∧ t ≤ n ∧ ns.length ≤ 63
  ne : d ≠ c
theorem Deck.up {d c : Addr} {n m : Nat} {H : Hp} (D : Deck d c n H) (h : n ≤ m) : Deck d c m H := by
  obtain ⟨ns, x, t, h1, h2, h4, h5, h6⟩ := D.ex
  exact ⟨⟨ns, x, t, h1, h2, h4, by omega, h6⟩, D.ne⟩
theorem Deck.upd {d c p : Addr} {n : Nat} {H : Hp} {o : HO} (D : Deck d c n H) (h1 : p ≠ d) (h2 : p ≠ c) : Deck d c n (upd H p o) := by
  obtain ⟨ns, m, t, e1, e2, r⟩ := D.ex
  exact ⟨⟨ns, m, t, by rw [upd_ne h1.symm]; exact e1, by rw [upd_ne h2.symm]; exact e2, r⟩, D.ne⟩
theorem Deck.has {d c p : Addr} {n : Nat} {H : Hp} (D : Deck d c n H) (hp : H p = none) : p ≠ d ∧ p ≠ c := by
  obtain ⟨ns, m, t, e1, e2, r⟩ := D.ex
  exact ⟨(ne_of_none e1 hp).symm, (ne_of_none e2 hp).symm⟩
theorem Deck.new {d c p : Addr} {n : Nat} {H : Hp} {o : HO} (D : Deck d c n H) (hp : H p = none) : Deck d c n (L2.upd H p o) := D.upd (D.has hp).1 (D.has hp).2
section
variable {P : Program} {w : World} {K : PySem.W.Frag} {mg : Str → Option Value} {base : Heap}
/-! ### _law_draw -/
def spDraw : Sp := fun vs H Q _ => ∃ (d c : Addr) (n : Nat) (many : Int), vs = [.ref d, .int many] ∧ 0 < many ∧ many < 10 ^ 40 ∧ n < 2 ^ 60 ∧ Deck d c n H ∧
  ∀ (r : Int) (H' : Hp), 0 ≤ r → r < many → Deck d c (n + 1) H' → Ext d c H H' → Q (.int r) H'
theorem many_small {many : Int} (h0 : 0 < many) (h : many < 10 ^ 40) : many.natAbs < 2 ^ 200 := by
  have e : (10 : Int) ^ 40 < 2 ^ 200 := by decide
  omega
theorem mod_small (x : Int) {m : Int} (h0 : 0 < m) (hm : m < 2 ^ 63) : -(2 ^ 64) < x % m ∧ x % m < 2 ^ 64 := by
  have h1 := Int.emod_nonneg x (show m ≠ 0 by omega)
  have h2 := Int.emod_lt_of_pos x h0
  omega
theorem ok_draw (T : Txt w K mg) : ∃ fd, FnOk P w K mg base CX0 1 (He.ga K "_law_draw") fd ["_law_deck_here", "_law_many"] spDraw ∧ Binds K fd ["_law_deck_here", "_law_many"] [] := by
  obtain ⟨fd, F⟩ := T.d__law_draw
  refine ⟨fd, F.ok sc__law_draw (fun vs H Q E h => ?_) (fun cdv A outer s H vs Q E hr h => ?_), F.bindsN fun _ _ _ _ _ _ us hl => match us, hl with | [_, _], _ => rfl⟩
  · obtain ⟨d, c, n, many, rfl, _⟩ := h
    rfl
  obtain ⟨d, c, n, many, rfl, hm0, hm1, hn, D, q⟩ := h
  obtain ⟨ns, m, t, hd, hc, ht, htn, hns⟩ := D.ex
  have ndc := D.ne
  refine ⟨_, PSs.nox (pss_cons (ps_asg (pe_op op_add (pe_ix ix_list (pv 0) pe_int (fun _ _ => rfl)) pe_int) (pg_sub (pv 0) pe_int set_list))
      (pss_cons (ps_set (i := 2) sc__law_draw.nd rfl (.inl rfl) (pe_ix ix_list (pv 0) pe_int (fun _ _ => rfl)))
      (pss_cons (ps_if (pt_cmpR (op_neD hr.units) (pe_ix ix_list (pv 0) pe_int (fun _ _ => rfl)) (pe_lst pa_nil) (nomark _)) (pss_cons (ps_set (i := 2) sc__law_draw.nd rfl (.inl rfl) (pe_bm0 PySem.F.plainAttrs_list PySem.F.slot_list_pop PySem.F.type_list_pop mt_pop (pe_ix ix_list (pv 0) pe_int (fun _ _ => rfl))))
      (pss_cons (ps_if (pt_cmpR op_ge (pv 2) (pe_op op_pow pe_int pe_int) (nomark _)) (pss_cons (ps_expr (pe_bm PySem.F.plainAttrs_list PySem.F.slot_list_append PySem.F.type_list_append mt_append (pe_ix ix_list (pv 0) pe_int (fun _ _ => rfl)) (pa_cons (pe_op op_fdivW (pv 2) (pv 1)) pa_nil)))
      (pss_one (ps_ret (pe_op op_mod (pv 2) (pv 1))))) pss_nil)
      (pss_one (ps_set (i := 2) sc__law_draw.nd rfl (.inl rfl) (pe_op op_add (pv 2) (pe_ix ix_list (pv 0) pe_int (fun _ _ => rfl))))))) pss_nil)
      (pss_cons (ps_set (i := 3) sc__law_draw.nd rfl (.inl rfl) (pe_op op_mod (pe_op op_mul (pe_op op_add (pe_op op_add (pe_op op_mod (pv 2) pe_int) (pe_op op_mul (pe_op op_mul pe_int (pe_ix ix_list (pv 0) pe_int (fun _ _ => rfl))) (pe_ix ix_list (pv 0) pe_int (fun _ _ => rfl)))) pe_int) pe_int) pe_int))
      (pss_cons (ps_set (i := 3) sc__law_draw.nd rfl (.inl rfl) (pe_op op_mod (pe_op op_add (pe_op op_add (pe_op op_mul (pv 3) (pv 3)) (pe_op op_mul pe_int (pe_ix ix_list (pv 0) pe_int (fun _ _ => rfl)))) pe_int) pe_int))
      (pss_one (ps_ret (pe_op op_mod (pe_op op_fdiv (pe_op op_mod (pe_op op_mul (pv 3) pe_int) pe_int) pe_int) (pv 1))))))))), ?_⟩
  -- deck[2] = deck[2] + 1
  refine ⟨.ref d, rfl, d, _, _, .int t, rfl, rfl, .inl (.inl hd), rfl, t, 1, rfl, rfl, .ref d, rfl, d, _, _, _, rfl, rfl, hd, rfl, ?_⟩
  generalize eH1 : upd H d _ = H1
  have hd1 : H1 d = some (.lst [.ref c, .int m, .int (t + 1)]) := by rw [← eH1]; exact upd_same
  have hc1 : H1 c = some (.lst (ns.map V.int)) := by rw [← eH1, upd_ne ndc.symm]; exact hc
  have x1 : Ext d c H H1 := by rw [← eH1]; exact Ext.d
  -- cell = deck[1]
  refine ⟨.ref d, rfl, d, _, _, .int m, rfl, rfl, .inl (.inl hd1), rfl, ?_⟩
  -- if deck[0] != []
  refine ⟨.ref d, rfl, d, _, _, .ref c, rfl, rfl, .inl (.inl hd1), rfl, Nat.zero_le _, fun p hp => ?_⟩
  have hd2 := upd_get (o := .lst []) hp hd1
  have hc2 := upd_get (o := .lst []) hp hc1
  have x2 : Ext d c H (upd H1 p (.lst [])) := x1.trans (Ext.new hp)
  have hp2 : (upd H1 p (.lst [])) p = some (.lst []) := upd_same
  generalize upd H1 p (.lst []) = H2 at hd2 hc2 x2 hp2 ⊢
  refine ⟨.list (ns.map PyData.int), .list [], .lst (.inl (.inl hc2)) (dpInts ns), .lst (.inl (.inl hp2)) .nil, shaped_ints ns, shaped_ints [], _, rfl, ?_⟩
  have dk : ∀ (H3 : Hp) (ns' : List Int), H3 d = some (.lst [.ref c, .int m, .int (t + 1)]) → H3 c = some (.lst (ns'.map V.int)) → ns'.length ≤ 63 → Deck d c (n + 1) H3 :=
    fun H3 ns' a1 a2 a4 => ⟨⟨ns', m, t + 1, a1, a2, by omega, by omega, a4⟩, ndc⟩
  cases ns with
  | nil =>
    refine iteF ?_
    exact ⟨.int m, rfl, m, _, rfl, rfl, (by decide : (0 : Int) < 2147483629), .ref d, rfl, d, _, _, .int (t + 1), rfl, rfl, .inl (.inl hd2), rfl, _, _, rfl, rfl, .inl ⟨by decide, by decide⟩,
      .ref d, rfl, d, _, _, .int (t + 1), rfl, rfl, .inl (.inl hd2), rfl, _, _, rfl, rfl, .inr ⟨by omega, by omega⟩, _, _, rfl, rfl, _, _, rfl, rfl, _, _, rfl, rfl, .inr ⟨by decide, by decide⟩, _, _, rfl, rfl, (by decide : (0 : Int) < 2147483647), 
      _, rfl, _, rfl, _, _, rfl, rfl, .inl (mod_small _ (by decide) (by decide)), .ref d, rfl, d, _, _, .int (t + 1), rfl, rfl, .inl (.inl hd2), rfl, _, _, rfl, rfl, .inl ⟨by decide, by decide⟩, _, _, rfl, rfl, _, _, rfl, rfl, _, _, rfl, rfl, (by decide : (0 : Int) < 2147483587),
      _, rfl, _, _, rfl, rfl, .inr ⟨by decide, by decide⟩, _, _, rfl, rfl, (by decide : (0 : Int) < 2147483563), _, _, rfl, rfl, ⟨by decide, by decide⟩, .int many, rfl, _, _, rfl, rfl, hm0,
      q _ _ (Int.emod_nonneg _ (by omega)) (Int.emod_lt_of_pos _ hm0) (dk H2 [] hd2 hc2 hns) x2⟩
  | cons x r =>
    refine iteT ?_
    -- cell = deck[0].pop()
    obtain ⟨y, hy⟩ : ∃ y, (x :: r)[(x :: r).length - 1]? = some y := ⟨_, List.getElem?_eq_getElem (by simp)⟩
    refine ⟨.ref d, rfl, d, _, _, .ref c, rfl, rfl, .inl (.inl hd2), rfl, .inl ⟨rfl, _, .inl (.inl hc2)⟩, c, _, .int y, rfl, rfl, hc2, ?_, ?_⟩
    · rw [List.length_map, List.getElem?_map, hy]
      rfl
    have er : ((x :: r).map V.int).dropLast = ((x :: r).dropLast).map V.int := (List.map_dropLast ..).symm
    rw [er]
    have hr1 : ((x :: r).dropLast).length ≤ 62 := by rw [List.length_dropLast]; omega
    generalize (x :: r).dropLast = rs at hr1 ⊢
    generalize eH : upd H2 c (.lst (rs.map V.int)) = H3
    have hd3 : H3 d = some (.lst [.ref c, .int m, .int (t + 1)]) := by rw [← eH, upd_ne ndc]; exact hd2
    have hc3 : H3 c = some (.lst (rs.map V.int)) := by rw [← eH]; exact upd_same
    have x3 : Ext d c H H3 := by rw [← eH]; exact x2.trans Ext.c
    refine ⟨.int y, rfl, _, _, rfl, rfl, ⟨by decide, by decide, by decide⟩, _, _, rfl, rfl, _, rfl, ite2 (fun e1 => ?_) (fun e1 => ?_)⟩
    · have wx : CDivW y many := wide_div hm0 (many_small hm0 hm1) (by decide) (by decide)
      refine ⟨.ref d, rfl, d, _, _, .ref c, rfl, rfl, .inl (.inl hd3), rfl, .inl ⟨rfl, _, .inl (.inl hc3)⟩, .int y, rfl, .int many, rfl, y, many, rfl, rfl, wx, c, _, _, rfl, rfl, hc3, ?_, ?_⟩
      · rw [List.length_map]
        exact Nat.lt_of_le_of_lt hr1 (by decide)
      refine ⟨.int y, rfl, .int many, rfl, y, many, rfl, rfl, hm0, ?_⟩
      refine q _ _ (Int.emod_nonneg _ (by omega)) (Int.emod_lt_of_pos _ hm0) (dk _ (rs ++ [y / many]) ?_ ?_ ?_) (x3.trans Ext.c)
      · rw [upd_ne ndc]; exact hd3
      · rw [upd_same, List.map_append]; rfl
      · rw [List.length_append]
        show rs.length + 1 ≤ 63
        omega
    refine ⟨.int y, rfl, .ref d, rfl, d, _, _, .int m, rfl, rfl, .inl (.inl hd3), rfl, y, m, rfl, rfl, ?_⟩
    exact ⟨.int (y + m), rfl, (y + m), _, rfl, rfl, (by decide : (0 : Int) < 2147483629), .ref d, rfl, d, _, _, .int (t + 1), rfl, rfl, .inl (.inl hd3), rfl, _, _, rfl, rfl, .inl ⟨by decide, by decide⟩,
      .ref d, rfl, d, _, _, .int (t + 1), rfl, rfl, .inl (.inl hd3), rfl, _, _, rfl, rfl, .inr ⟨by omega, by omega⟩, _, _, rfl, rfl, _, _, rfl, rfl, _, _, rfl, rfl, .inr ⟨by decide, by decide⟩, _, _, rfl, rfl, (by decide : (0 : Int) < 2147483647), 
      _, rfl, _, rfl, _, _, rfl, rfl, .inl (mod_small _ (by decide) (by decide)), .ref d, rfl, d, _, _, .int (t + 1), rfl, rfl, .inl (.inl hd3), rfl, _, _, rfl, rfl, .inl ⟨by decide, by decide⟩, _, _, rfl, rfl, _, _, rfl, rfl, _, _, rfl, rfl, (by decide : (0 : Int) < 2147483587),
      _, rfl, _, _, rfl, rfl, .inr ⟨by decide, by decide⟩, _, _, rfl, rfl, (by decide : (0 : Int) < 2147483563), _, _, rfl, rfl, ⟨by decide, by decide⟩, .int many, rfl, _, _, rfl, rfl, hm0,
      q _ _ (Int.emod_nonneg _ (by omega)) (Int.emod_lt_of_pos _ hm0) (dk H3 rs hd3 hc3 (by omega)) x3⟩
end
end K13

set_option maxHeartbeats 4000000
namespace K13
open PySem PySem.Spec PyProof.Rows L2 HG
/-! ### tuples stay -/
def tupO : HO → Bool
  | .tup _ => true
  | .frz _ (.tup _) => true
  | _ => false
def SameT (H H' : Hp) : Prop := ∀ a o, H a = some o → tupO o = true → H' a = some o
theorem SameT.refl (H : Hp) : SameT H H := fun _ _ h _ => h
theorem SameT.trans {H H1 H2 : Hp} (a : SameT H H1) (b : SameT H1 H2) : SameT H H2 := fun x o h t => b x o (a x o h t) t
theorem Same.T {H H' : Hp} (s : Same H H') : SameT H H' := fun a o h _ => s a o h
theorem SameT.new {H : Hp} {p : Addr} {o : HO} (hp : H p = none) : SameT H (upd H p o) := fun a u h _ => upd_get hp h
theorem SameT.put {H : Hp} {p : Addr} {o u : HO} (hp : H p = some u) (hu : tupO u = false) : SameT H (upd H p o) := fun a x h t => by
  have : a ≠ p := fun z => by
    rw [z, hp] at h
    cases h
    rw [hu] at t
    cases t
  rw [upd_ne this]
  exact h
theorem Ext.T {d c : Addr} {n : Nat} {H H' : Hp} (D : Deck d c n H) (X : Ext d c H H') : SameT H H' := fun a o h t => by
  obtain ⟨ns, m, q, e1, e2, _⟩ := D.ex
  refine X.at (fun z => ?_) (fun z => ?_) h
  · rw [z, e1] at h
    cases h
    cases t
  · rw [z, e2] at h
    cases h
    cases t
mutual
theorem dp_T {K : PySem.W.Frag} {H H' : Hp} (e : SameT H H') : ∀ (d : PyData) (v : V), okD d = true → Dp K H v d → Dp K H' v d
  | .none, _, _, h => by cases h; exact .non
  | .bool b, _, _, h => by cases h; exact .bl b
  | .int i, _, _, h => by cases h; exact .int i
  | .str x, _, _, h => by cases h; exact .str x
  | .list ds, _, k, h => by simp [okD] at k
  | .tuple ds, _, k, h => by
    cases h with
    | tup s a =>
      refine .tup ?_ (dpAll_T e ds _ (by simpa [okD] using k) a)
      rcases s with (s | ⟨o, s⟩) | s
      · exact .inl (.inl (e _ _ s rfl))
      · exact .inl (.inr ⟨o, e _ _ s rfl⟩)
      · exact .inr s
  | .dict _, _, _, h => by cases h
theorem dpAll_T {K : PySem.W.Frag} {H H' : Hp} (e : SameT H H') : ∀ (ds : List PyData) (vs : List V), okAll ds = true → DpAll K H vs ds → DpAll K H' vs ds
  | [], _, _, h => by cases h; exact .nil
  | d :: ds, _, k, h => by
    cases h with
    | cons a b =>
      have k' : okD d = true ∧ okAll ds = true := by simpa [okAll] using k
      exact .cons (dp_T e d _ k'.1 a) (dpAll_T e ds _ k'.2 b)
end
theorem okAll_app {a b : List PyData} (ha : okAll a = true) (hb : okAll b = true) : okAll (a ++ b) = true := by
  rw [okAll_mem] at ha hb ⊢
  intro d hd
  rcases List.mem_append.mp hd with h | h
  · exact ha d h
  · exact hb d h
/-! ### sizes -/
mutual
def sz : PyData → Nat
  | .tuple ds => 1 + szAll ds
  | _ => 1
def szAll : List PyData → Nat
  | [] => 0
  | d :: ds => sz d + szAll ds
end
theorem szAll_app : ∀ a b : List PyData, szAll (a ++ b) = szAll a + szAll b
  | [], b => by simp [szAll]
  | d :: a, b => by simp only [List.cons_append, szAll, szAll_app a b]; omega
/-- what a drawn value is -/
structure Sz (m : Nat) (D : PyData) : Prop where
  ok : okD D = true
  dep : D.depth ≤ m + 1
  size : sz D ≤ 2 * 5 ^ m
theorem depthAll_le : ∀ {m : Nat} {ds : List PyData}, (∀ d ∈ ds, d.depth ≤ m) → PyData.depthAll ds ≤ m
  | m, [], _ => by simp only [PyData.depthAll]; omega
  | m, d :: ds, h => by
    have h1 := h d List.mem_cons_self
    have h2 := depthAll_le (m := m) (ds := ds) fun e he => h e (List.mem_cons_of_mem _ he)
    simp only [PyData.depthAll]
    omega
theorem one_le5 (m : Nat) : 1 ≤ 5 ^ m := Nat.one_le_pow _ _ (by decide)
theorem Sz.flat {m : Nat} {D : PyData} (h : okD D = true) (hd : D.depth ≤ 1) (hs : sz D = 1) : Sz m D := ⟨h, by omega, by have := one_le5 m; omega⟩
theorem Sz.tup {m : Nat} {ds : List PyData} (hl : ds.length ≤ 4) (h : ∀ d ∈ ds, Sz m d) : Sz (m + 1) (.tuple ds) := by
  refine ⟨?_, ?_, ?_⟩
  · simp only [okD]
    exact okAll_mem.mpr fun d hd => (h d hd).ok
  · simp only [PyData.depth]
    have := depthAll_le (m := m + 1) (ds := ds) fun d hd => (h d hd).dep
    omega
  · simp only [sz]
    have key : ∀ l : List PyData, (∀ d ∈ l, sz d ≤ 2 * 5 ^ m) → szAll l ≤ l.length * (2 * 5 ^ m) := by
      intro l
      induction l with
      | nil => intro _; simp [szAll]
      | cons d l ih =>
        intro hh
        have h1 := hh d List.mem_cons_self
        have h2 := ih fun e he => hh e (List.mem_cons_of_mem _ he)
        rw [List.length_cons, Nat.add_mul, Nat.one_mul]
        simp only [szAll]
        omega
    have h1 := key ds fun d hd => (h d hd).size
    have h2 : ds.length * (2 * 5 ^ m) ≤ 4 * (2 * 5 ^ m) := Nat.mul_le_mul_right _ hl
    have h3 := one_le5 m
    have h4 : 5 ^ (m + 1) = 5 * 5 ^ m := by rw [Nat.pow_succ, Nat.mul_comm]
    omega
theorem cut_to (xs : List V) (k : Nat) : cutV xs none (some (k : Int)) = xs.take k := by
  unfold cutV
  rw [HT.sIx_none, HT.sIx_nat, Nat.sub_zero, List.drop_zero]
  by_cases h : k ≤ xs.length
  · rw [Nat.min_eq_left h]
  · rw [Nat.min_eq_right (by omega), List.take_length, List.take_of_length_le (by omega)]
theorem cut63 {ns : List Int} (h : ns.length ≤ 63) : cutV (ns.map V.int) none (some 63) = ns.map V.int := by
  have e := cut_to (ns.map V.int) 63
  rw [List.take_of_length_le (by rw [List.length_map]; exact h)] at e
  exact e
section
variable {P : Program} {w : World} {K : PySem.W.Frag} {mg : Str → Option Value} {base : Heap}
/-! ### _law_deck -/
def spDeck (K : PySem.W.Frag) : Sp := fun vs H Q _ => ∃ (a : Addr) (ns : List Int), vs = [.ref a] ∧ SqL K H a (ns.map V.int) ∧ ns.length ≤ 63 ∧
  ∀ (d c : Addr) (H' : Hp), H d = none → H c = none → Same H H' → Deck d c 0 H' → Q (.ref d) H'
theorem ok_deck (T : Txt w K mg) : ∃ fd, FnOk P w K mg base CX0 1 (He.ga K "_law_deck") fd ["_law_script"] (spDeck K) ∧ Binds K fd ["_law_script"] [] := by
  obtain ⟨fd, F⟩ := T.d__law_deck
  refine ⟨fd, F.ok sc__law_deck (fun vs H Q E h => ?_) (fun cdv A outer s H vs Q E hr h => ?_), F.bindsN fun _ _ _ _ _ _ us hl => match us, hl with | [_], _ => rfl⟩
  · obtain ⟨a, ns, rfl, _⟩ := h
    rfl
  obtain ⟨a, ns, rfl, hS, hn, q⟩ := h
  refine ⟨_, PSs.nox (pss_cons (ps_par (i := 1) (j := 2) rfl sc__law_deck.nd rfl rfl (by decide) rfl rfl (pa_cons (pe_callTy call_list_of (by rfl) T.n_list (by decide +kernel) (pa_cons (pe_slice sl_list (pv 0) po_none (po_some pe_int)) pa_nil)) (pa_cons pe_int pa_nil)) (by rfl))
      (pss_cons (ps_for PassesOwn.never rfl (pi_list (pv 1)) (pg_name (i := 3) sc__law_deck.nd rfl (.inl rfl)) (pss_one (ps_set (i := 2) sc__law_deck.nd rfl (.inl rfl) (pe_op op_mod (pe_op op_add (pe_op op_add (pe_op op_mul (pv 2) pe_int) (pe_op op_mod (pv 3) pe_int)) pe_int) pe_int))))
      (pss_one (ps_ret (pe_lst (pa_cons (pe_revL (pv 1)) (pa_cons (pv 2) (pa_cons pe_int pa_nil)))))))), ?_⟩
  refine ⟨.ref a, rfl, 63, rfl, a, _, rfl, hS, fun p hp => ?_⟩
  rw [cut63 hn]
  have s1 : Same H (upd H p (.lst (ns.map V.int))) := fun b o h => upd_get hp h
  have h1 : (upd H p (.lst (ns.map V.int))) p = some (.lst (ns.map V.int)) := upd_same
  generalize upd H p (.lst (ns.map V.int)) = H1 at s1 h1 ⊢
  refine ⟨p, _, rfl, .inl (.inl (.inl h1)), fun l hl => ?_⟩
  have s2 : Same H1 (upd H1 l (.lst (ns.map V.int))) := fun b o h => upd_get hl h
  have h2 : (upd H1 l (.lst (ns.map V.int))) l = some (.lst (ns.map V.int)) := upd_same
  generalize upd H1 l (.lst (ns.map V.int)) = H2 at s2 h2 ⊢
  refine ⟨_, _, rfl, .ref l, rfl, l, rfl, ⟨_, .inl (.inl h2)⟩, for_list (xs := ns.map V.int) (fun i σ H3 => ∃ m y, σ = [some (.ref a), some (.ref l), some (.int m), y] ∧ -(2 ^ 64) < m ∧ m < 2 ^ 64 ∧ H3 = H2) ⟨70013, none, rfl, by decide, by decide, rfl⟩ ?_ ?_ ?_⟩
  · rintro i σ H3 _ ⟨m, y, rfl, _, _, rfl⟩
    exact .inl (.inl h2)
  · rintro i x σ H3 hx ⟨m, y, rfl, hm1, hm2, rfl⟩
    obtain ⟨z, rfl⟩ : ∃ z : Int, x = .int z := by
      rw [List.getElem?_map] at hx
      cases e : ns[i]? with
      | none => rw [e] at hx; cases hx
      | some z => rw [e] at hx; cases hx; exact ⟨z, rfl⟩
    refine ⟨.int m, rfl, _, _, rfl, rfl, .inl ⟨hm1, hm2⟩, .int z, rfl, _, _, rfl, rfl, (by decide : (0 : Int) < 2147483563), _, _, rfl, rfl, _, _, rfl, rfl, _, _, rfl, rfl, (by decide : (0 : Int) < 2147483579), ?_⟩
    have hs := mod_small (m * 48271 + z % 2147483563 + 61) (m := 2147483579) (by decide) (by decide)
    exact ⟨_, some (.int z), rfl, hs.1, hs.2, rfl⟩
  · rintro σ H3 ⟨m, y, rfl, hm1, hm2, rfl⟩
    refine ⟨.ref l, rfl, l, _, rfl, .inl (.inl h2), fun c hc => ?_⟩
    rw [← List.map_reverse]
    have s3 : Same H3 (upd H3 c (.lst (ns.reverse.map V.int))) := fun b o h => upd_get hc h
    have h3 : (upd H3 c (.lst (ns.reverse.map V.int))) c = some (.lst (ns.reverse.map V.int)) := upd_same
    generalize upd H3 c (.lst (ns.reverse.map V.int)) = H4 at s3 h3 ⊢
    refine ⟨.int m, rfl, (by show 3 ≤ sizeLine; decide), fun d hd => ?_⟩
    have ndc : d ≠ c := (ne_of_none h3 hd).symm
    refine q d c _ (s1.free (s2.free (s3.free hd))) (s1.free (s2.free hc)) (fun b o h => upd_get hd (s3 _ _ (s2 _ _ (s1 _ _ h)))) ⟨⟨ns.reverse, m, 0, upd_same, ?_, by decide, by decide, by rw [List.length_reverse]; exact hn⟩, ndc⟩
    rw [upd_ne ndc.symm]
    exact h3
/-! ### _law_pick -/
def spPick (K : PySem.W.Frag) : Sp := fun vs H Q _ => ∃ (d c : Addr) (n : Nat) (x : V), vs = [.ref d, x] ∧ n < 2 ^ 60 ∧ Deck d c n H ∧
  ((∃ z : Str, x = .str z ∧ 0 < z.length ∧ z.length ≤ 1000 ∧ ∀ (ch : Nat) (H' : Hp), ch ∈ cp z → Deck d c (n + 1) H' → Ext d c H H' → Q (.str ⟨#[ch]⟩) H') ∨
   ∃ (a : Addr) (xs : List V), x = .ref a ∧ SqL K (off d c H) a xs ∧ 0 < xs.length ∧ xs.length ≤ 1000 ∧ ∀ (y : V) (H' : Hp), y ∈ xs → Deck d c (n + 1) H' → Ext d c H H' → Q y H')
theorem c_draw (T : Txt w K mg) : Cal P w K mg base "_law_draw" 1 ["_law_deck_here", "_law_many"] spDraw := ⟨ok_draw T, T.g _ (by decide), by obtain ⟨fd, F⟩ := T.d__law_draw; exact F.kp⟩
theorem ok_pick (T : Txt w K mg) : ∃ fd, FnOk P w K mg base CX0 2 (He.ga K "_law_pick") fd ["_law_deck_here", "_law_items"] (spPick K) ∧ Binds K fd ["_law_deck_here", "_law_items"] [] := by
  obtain ⟨fd, F⟩ := T.d__law_pick
  have C__law_draw := c_draw (P := P) (w := w) (base := base) T
  refine ⟨fd, F.ok sc__law_pick (fun vs H Q E h => ?_) (fun cdv A outer s H vs Q E hr h => ?_), F.bindsN fun _ _ _ _ _ _ us hl => match us, hl with | [_, _], _ => rfl⟩
  · obtain ⟨d, c, n, x, rfl, _⟩ := h
    rfl
  obtain ⟨d, c, n, x, rfl, hn, D, h⟩ := h
  refine ⟨_, PSs.nox (pss_one (ps_ret (pe_ix ix_seq (pv 1) (pe_cal C__law_draw (hr.mono (by omega)) (by rfl) (pa_cons (pv 0) (pa_cons (pe_callB call_len (by rfl) T.n_len (by decide +kernel) (pa_cons (pv 1) pa_nil)) pa_nil))) (fun _ _ => rfl)))), ?_⟩
  rcases h with ⟨z, rfl, h0, h1, q⟩ | ⟨a, xs, rfl, hS, h0, h1, q⟩
  · have hz : z.length ≤ sizeLine := Nat.le_trans h1 (by decide)
    refine ⟨.str z, rfl, .ref d, rfl, .str z, rfl, .str z, z.length, rfl, ⟨hz, rfl⟩, d, c, n, z.length, rfl, by omega, ?_, hn, D, fun r H' r0 r1 D' X => ?_⟩
    · have : (1000 : Int) < 10 ^ 40 := by decide
      omega
    · obtain ⟨j, rfl⟩ := Int.eq_ofNat_of_zero_le r0
      have hj : j < (cp z).length := by rw [cp_len]; omega
      exact .inr (.inr ⟨z, j, (cp z)[j], rfl, rfl, hz, atI_nat (List.getElem?_eq_getElem hj), q _ _ (List.getElem_mem hj) D' X⟩)
  · refine ⟨.ref a, rfl, .ref d, rfl, .ref a, rfl, .ref a, xs.length, rfl, .inl ⟨xs, offL hS, rfl⟩, d, c, n, xs.length, rfl, by omega, ?_, hn, D, fun r H' r0 r1 D' X => ?_⟩
    · have : (1000 : Int) < 10 ^ 40 := by decide
      omega
    · obtain ⟨j, rfl⟩ := Int.eq_ofNat_of_zero_le r0
      have hj : j < xs.length := by omega
      exact .inl ⟨a, xs, j, xs[j], rfl, rfl, offL (X.sqL hS), atI_nat (List.getElem?_eq_getElem hj), q _ _ (List.getElem_mem hj) D' X⟩
theorem c_pick (T : Txt w K mg) : Cal P w K mg base "_law_pick" 2 ["_law_deck_here", "_law_items"] (spPick K) := ⟨ok_pick T, T.g _ (by decide), by obtain ⟨fd, F⟩ := T.d__law_pick; exact F.kp⟩
end
end K13

set_option maxHeartbeats 4000000
namespace K13
open PySem PySem.Spec PyProof.Rows L2 HG
abbrev sgn (ch : Nat) : Str := ⟨#[ch]⟩
theorem signs_cp : ∀ zs : List Nat, ((zs.map sgn).map cp).flatten = zs
  | [] => rfl
  | z :: zs => by
    rw [List.map_cons, List.map_cons, List.flatten_cons, signs_cp zs]
    rfl
theorem signs_len : ∀ zs : List Nat, ((zs.map sgn).map (·.length)).sum = zs.length
  | [] => rfl
  | a :: r => by
    rw [List.map_cons, List.map_cons, List.sum_cons, signs_len r, List.length_cons]
    show 1 + r.length = r.length + 1
    omega
section
variable {P : Program} {w : World} {K : PySem.W.Frag} {mg : Str → Option Value} {base : Heap}
/-! ### _law_string -/
def spString : Sp := fun vs H Q _ => ∃ (d c : Addr) (n : Nat), vs = [.ref d] ∧ n + 50 < 2 ^ 60 ∧ Deck d c n H ∧
  ∀ (z : Str) (H' : Hp), okD (.str z) = true → Deck d c (n + 50) H' → Ext d c H H' → Q (.str z) H'
theorem ok_string (T : Txt w K mg) : ∃ fd, FnOk P w K mg base CX0 3 (He.ga K "_law_string") fd ["_law_deck_here"] spString ∧ Binds K fd ["_law_deck_here"] [] := by
  obtain ⟨fd, F⟩ := T.d__law_string
  have C__law_pick := c_pick (P := P) (w := w) (base := base) T
  refine ⟨fd, F.ok sc__law_string (fun vs H Q E h => ?_) (fun cdv A outer s H vs Q E hr h => ?_), F.bindsN fun _ _ _ _ _ _ us hl => match us, hl with | [_], _ => rfl⟩
  · obtain ⟨d, c, n, rfl, _⟩ := h
    rfl
  obtain ⟨d, c, n, rfl, hn, dk, q⟩ := h
  refine ⟨_, PSs.nox (pss_cons (ps_set (i := 1) sc__law_string.nd rfl (.inr rfl) pe_str)
      (pss_one (ps_ret (pe_join pe_str (pe_lc (own := [("_law_k", 2)]) (by rfl) sc__law_string.nd (pi_range1 (by rfl) T.n_range (pa_cons (pe_cal C__law_pick (hr.mono (by omega)) (by rfl) (pa_cons (pv 0) (pa_cons (pe_lst (pa_cons pe_int (pa_cons pe_int (pa_cons pe_int (pa_cons pe_int (pa_cons pe_int pa_nil)))))) pa_nil))) pa_nil)) (blkOk_by (own := [("_law_k", 2)]) (N := N__law_string) (sc := defScope s__law_string) (by decide +kernel)) (fun _ _ _ _ _ => (pg_name (i := 2) sc__law_string.nd rfl (.inl rfl))) (fun _ _ _ _ _ => pts_nil) (fun _ _ _ _ _ => (pe_cal C__law_pick (hr.mono (by omega)) (by rfl) (pa_cons (pv 0) (pa_cons (pv 1) pa_nil))))))))), ?_⟩
  refine ⟨⟨_, rfl⟩, .ref d, rfl, (by show 5 ≤ sizeLine; decide), fun a ha => ?_⟩
  have hs := dk.has ha
  refine ⟨d, c, n, .ref a, rfl, by omega, dk.new ha, .inr ⟨a, _, rfl, .inl (.inl ((off_get hs.1 hs.2).trans upd_same)), (by show 0 < 5; decide), (by show 5 ≤ 1000; decide), fun y H1 hy dk1 X1 => ?_⟩⟩
  have X1' := (Ext.new (o := .lst [V.int 0, .int 1, .int 2, .int 9, .int 40]) ha).trans X1
  obtain ⟨many, rfl, hm⟩ : ∃ many : Nat, y = .int many ∧ many ≤ 40 := by
    simp only [List.mem_cons, List.not_mem_nil, or_false] at hy
    rcases hy with rfl | rfl | rfl | rfl | rfl
    · exact ⟨0, rfl, by decide⟩
    · exact ⟨1, rfl, by decide⟩
    · exact ⟨2, rfl, by decide⟩
    · exact ⟨9, rfl, by decide⟩
    · exact ⟨40, rfl, by decide⟩
  have hm2 : ((many : Nat) : Int) < 2 ^ 62 := by
    have : (100 : Int) < 2 ^ 62 := by decide
    omega
  refine ⟨many, rfl, by omega, hm2, fun D hD => ?_⟩
  have e0 : ((many : Nat) : Int).toNat = many := by omega
  have nd := dk1.has hD
  refine lc_range (lo := 0) (n := (many : Int).toNat) (fun i H2 => ∃ zs : List Nat, zs.length = i ∧ (∀ ch ∈ zs, goodC ch = true) ∧ H2 D = some (.lst ((zs.map sgn).map V.str)) ∧ Deck d c (n + 1 + i) H2 ∧ Ext d c H1 H2) ?_ ?_ ?_
  · exact ⟨[], rfl, (fun _ h => nomatch h), upd_same, dk1.new hD, Ext.new hD⟩
  · rintro i H2 hi ⟨zs, hl, hc, hD2, dk2, X2⟩
    have nc : ∀ ch ∈ cp ("(:;)TFNis0123456789 ~az-\n" : Str), goodC ch = true := by decide +kernel
    refine ⟨rfl, tyes ⟨.ref d, rfl, .str "(:;)TFNis0123456789 ~az-\n", rfl, d, c, n + 1 + i, .str "(:;)TFNis0123456789 ~az-\n", rfl, by omega, dk2, .inl ⟨_, rfl, by decide, by decide, fun ch H3 hch dk3 X3 => ?_⟩⟩⟩
    have hD3 := X3.at nd.1 nd.2 hD2
    refine ⟨_, hD3, ?_, zs ++ [ch], by rw [List.length_append, hl]; rfl, fun x hx => ?_, ?_, dk3.upd nd.1 nd.2, (X2.trans X3).mut hD⟩
    · rw [List.length_map, List.length_map]
      exact small1000 (by omega)
    · rcases List.mem_append.mp hx with z | z
      · exact hc x z
      · rw [List.mem_singleton.mp z]
        exact nc ch hch
    · rw [upd_same, List.map_append, List.map_append]
      rfl
  · rintro H2 ⟨zs, hl, hc, hD2, dk2, X2⟩
    have ecp : cp (Txt.join "" (zs.map sgn)) = zs := (cp_joinT _).trans (signs_cp zs)
    have elen : (Txt.join "" (zs.map sgn)).length = many := by rw [← cp_len, ecp, hl, e0]
    refine ⟨"", D, zs.map sgn, rfl, rfl, .inl (.inl (.inl hD2)), ?_, q _ _ ?_ (dk2.up (by omega)) (X1'.trans X2)⟩
    · rw [signs_len, List.length_map, hl]
      show (many : Int).toNat + (many : Int).toNat * 0 ≤ 16777216
      omega
    · simp only [okD]
      rw [ecp, elen, decide_eq_true (show many ≤ 100 by omega), Bool.true_and]
      exact List.all_eq_true.mpr hc
/-! ### _law_integer -/
theorem ten_text : ∀ k : Nat, k < 40 → PySem.intText? ("1" ++ Txt.mul "0" (k : Int)) = some (10 ^ k) ∧ ("1" ++ Txt.mul "0" (k : Int) : Str).length ≤ 640 ∧ (Txt.mul "0" (k : Int)).length ≤ 100 := by decide +kernel
def spInteger : Sp := fun vs H Q _ => ∃ (d c : Addr) (n : Nat), vs = [.ref d] ∧ n + 10 < 2 ^ 60 ∧ Deck d c n H ∧
  ∀ (i : Int) (H' : Hp), i.natAbs < 10 ^ 41 → Deck d c (n + 10) H' → Ext d c H H' → Q (.int i) H'
theorem two_at {x y : V} {r : Int} (h0 : 0 ≤ r) (h1 : r < 2) : ∃ v, atI [x, y] r = some v ∧ (v = x ∨ v = y) := by
  have : r = 0 ∨ r = 1 := by omega
  rcases this with rfl | rfl
  · exact ⟨x, rfl, .inl rfl⟩
  · exact ⟨y, rfl, .inr rfl⟩
theorem ok_integer (T : Txt w K mg) : ∃ fd, FnOk P w K mg base CX0 2 (He.ga K "_law_integer") fd ["_law_deck_here"] spInteger ∧ Binds K fd ["_law_deck_here"] [] := by
  obtain ⟨fd, F⟩ := T.d__law_integer
  have C__law_draw := c_draw (P := P) (w := w) (base := base) T
  refine ⟨fd, F.ok sc__law_integer (fun vs H Q E h => ?_) (fun cdv A outer s H vs Q E hr h => ?_), F.bindsN fun _ _ _ _ _ _ us hl => match us, hl with | [_], _ => rfl⟩
  · obtain ⟨d, c, n, rfl, _⟩ := h
    rfl
  obtain ⟨d, c, n, rfl, hn, dk, q⟩ := h
  refine ⟨_, PSs.nox (pss_cons (ps_set (i := 1) sc__law_integer.nd rfl (.inl rfl) (pe_cal C__law_draw (hr.mono (by omega)) (by rfl) (pa_cons (pv 0) (pa_cons pe_int pa_nil))))
      (pss_cons (ps_set (i := 2) sc__law_integer.nd rfl (.inl rfl) (pe_lst (pa_cons pe_int (pa_cons (pe_cal C__law_draw (hr.mono (by omega)) (by rfl) (pa_cons (pv 0) (pa_cons pe_int pa_nil))) (pa_cons (pe_op op_sub pe_int (pe_cal C__law_draw (hr.mono (by omega)) (by rfl) (pa_cons (pv 0) (pa_cons pe_int pa_nil)))) (pa_cons pe_int (pa_cons (pe_cal C__law_draw (hr.mono (by omega)) (by rfl) (pa_cons (pv 0) (pa_cons (pe_op op_pow pe_int pe_int) pa_nil))) pa_nil)))))))
      (pss_cons (ps_expr (pe_bm PySem.F.plainAttrs_list PySem.F.slot_list_append PySem.F.type_list_append mt_append (pv 2) (pa_cons (pe_op op_mul (pe_op op_sub (pe_callTy call_int_str (by rfl) T.n_int (by decide +kernel) (pa_cons (pe_op op_add_str pe_str (pe_op op_mul_str pe_str (pe_cal C__law_draw (hr.mono (by omega)) (by rfl) (pa_cons (pv 0) (pa_cons pe_int pa_nil))))) pa_nil)) (pe_cal C__law_draw (hr.mono (by omega)) (by rfl) (pa_cons (pv 0) (pa_cons pe_int pa_nil)))) (pe_ix ix_list (pe_lst (pa_cons pe_int (pa_cons (pe_un un_neg pe_int) pa_nil))) (pe_cal C__law_draw (hr.mono (by omega)) (by rfl) (pa_cons (pv 0) (pa_cons pe_int pa_nil))) (fun _ _ => rfl))) pa_nil)))
      (pss_one (ps_ret (pe_ix ix_list (pv 2) (pv 1) (fun _ _ => rfl))))))), ?_⟩
  refine ⟨.ref d, rfl, d, c, n, 6, rfl, by decide, by decide, by omega, dk, fun way H1 w0 w1 dk1 X1 => ?_⟩
  refine ⟨.ref d, rfl, d, c, n + 1, 10, rfl, by decide, by decide, by omega, dk1, fun r2 H2 a2 b2 dk2 X2 => ?_⟩
  refine ⟨.ref d, rfl, d, c, n + 2, 1000, rfl, by decide, by decide, by omega, dk2, fun r3 H3 a3 b3 dk3 X3 => ⟨_, _, rfl, rfl, ?_⟩⟩
  refine ⟨.ref d, rfl, 10, 12, rfl, rfl, ⟨by decide, by decide, by decide⟩, d, c, n + 3, _, rfl, by decide, by decide, by omega, dk3, fun r4 H4 a4 b4 dk4 X4 => ?_⟩
  refine ⟨(by show 5 ≤ sizeLine; decide), fun a ha => ?_⟩
  have na := dk4.has ha
  have X04 := (((X1.trans X2).trans X3).trans X4).trans (Ext.new (o := .lst [V.int 0, .int r2, .int (0 - r3), .int 65535, .int r4]) ha)
  have hA : (upd H4 a (.lst [V.int 0, .int r2, .int (0 - r3), .int 65535, .int r4])) a = some (.lst [V.int 0, .int r2, .int (0 - r3), .int 65535, .int r4]) := upd_same
  have dk5 := dk4.new (o := .lst [V.int 0, .int r2, .int (0 - r3), .int 65535, .int r4]) ha
  have haH : H a = none := by
    cases e : H a with
    | none => rfl
    | some o =>
      have := (((X1.trans X2).trans X3).trans X4).at na.1 na.2 e
      rw [ha] at this
      cases this
  generalize eH5 : upd H4 a _ = H5 at X04 hA dk5 ⊢
  refine ⟨.ref a, rfl, .inl ⟨rfl, _, .inl (.inl hA)⟩, ?_⟩
  refine ⟨.ref d, rfl, d, c, n + 4, 40, rfl, by decide, by decide, by omega, dk5, fun r6 H6 a6 b6 dk6 X6 => ?_⟩
  obtain ⟨k, rfl⟩ := Int.eq_ofNat_of_zero_le a6
  obtain ⟨t1, t2, t3⟩ := ten_text k (by omega)
  refine ⟨_, _, rfl, rfl, mulOk_of (by omega) ?_ (by omega) (by decide), _, _, rfl, rfl, ?_, _, _, rfl, t1, t2, ?_⟩
  · have : ("0" : Str).length = 1 := by decide
    rw [this]
    omega
  · have : ("1" : Str).length = 1 := by decide
    rw [this]
    exact Nat.le_trans (Nat.add_le_add_left t3 1) (by decide)
  refine ⟨.ref d, rfl, d, c, n + 5, 9, rfl, by decide, by decide, by omega, dk6, fun r7 H7 a7 b7 dk7 X7 => ⟨_, _, rfl, rfl, ?_⟩⟩
  refine ⟨_, rfl, (by show 2 ≤ sizeLine; decide), fun p hp => ?_⟩
  have np := dk7.has hp
  refine ⟨.ref d, rfl, d, c, n + 6, 2, rfl, by decide, by decide, by omega, dk7.new hp, fun r8 H8 a8 b8 dk8 X8 => ?_⟩
  obtain ⟨v, hv1, hv2⟩ := two_at (x := .int 1) (y := .int (-1)) a8 b8
  have hp8 := X8.at np.1 np.2 (upd_same (H := H7) (a := p))
  obtain ⟨sg, rfl, hsg⟩ : ∃ sg : Int, v = .int sg ∧ (sg = 1 ∨ sg = -1) := by
    rcases hv2 with rfl | rfl
    · exact ⟨1, rfl, .inl rfl⟩
    · exact ⟨-1, rfl, .inr rfl⟩
  refine ⟨p, _, r8, .int sg, rfl, rfl, .inl (.inl hp8), hv1, _, _, rfl, rfl, .inr (by omega), ?_⟩
  have hA8 := (((X6.trans X7).trans (Ext.new hp)).trans X8).at na.1 na.2 hA
  refine ⟨a, _, _, rfl, rfl, hA8, (by show 5 < sizeLine; decide), ?_⟩
  have h10 : (10 : Int) ^ k ≤ 10 ^ 40 := by
    have : (10 : Nat) ^ k ≤ 10 ^ 40 := Nat.pow_le_pow_right (by decide) (by omega)
    exact_mod_cast this
  have h10' : (0 : Int) ≤ 10 ^ k := by
    have : 0 ≤ (10 : Nat) ^ k := Nat.zero_le _
    exact_mod_cast this
  have big : ((10 ^ k - r7) * sg).natAbs < 10 ^ 41 := by
    have h40 : (10 : Int) ^ 40 + 9 < 10 ^ 41 := by decide
    rcases hsg with rfl | rfl
    · omega
    · omega
  have hdd : ∀ i : Int, i.natAbs < 10 ^ 41 → Q (.int i) (upd H8 a (.lst ([V.int 0, .int r2, .int (0 - r3), .int 65535, .int r4] ++ [.int ((10 ^ k - r7) * sg)]))) := fun i hi =>
    q i _ hi ((dk8.upd na.1 na.2).up (by omega)) ((X04.trans (((X6.trans X7).trans (Ext.new hp)).trans X8)).mut haH)
  have b4' : r4 < 10 ^ 12 := b4
  have hw : way = 0 ∨ way = 1 ∨ way = 2 ∨ way = 3 ∨ way = 4 ∨ way = 5 := by omega
  refine ⟨.ref a, rfl, .int way, rfl, a, [V.int 0, .int r2, .int (0 - r3), .int 65535, .int r4] ++ [.int ((10 ^ k - r7) * sg)], way, ?_⟩
  rcases hw with rfl | rfl | rfl | rfl | rfl | rfl
  · exact ⟨.int 0, rfl, rfl, .inl (.inl upd_same), rfl, hdd _ (by decide)⟩
  · exact ⟨.int r2, rfl, rfl, .inl (.inl upd_same), rfl, hdd _ (by omega)⟩
  · exact ⟨.int (0 - r3), rfl, rfl, .inl (.inl upd_same), rfl, hdd _ (by omega)⟩
  · exact ⟨.int 65535, rfl, rfl, .inl (.inl upd_same), rfl, hdd _ (by decide)⟩
  · exact ⟨.int r4, rfl, rfl, .inl (.inl upd_same), rfl, hdd _ (by omega)⟩
  · exact ⟨.int ((10 ^ k - r7) * sg), rfl, rfl, .inl (.inl upd_same), rfl, hdd _ big⟩
end
end K13

set_option maxHeartbeats 4000000
namespace K13
open PySem PySem.Spec PyProof.Rows L2 HG
theorem grow {d c p : Addr} {n : Nat} {H H' : Hp} (X : Ext d c H H') (D : Deck d c n H') (h : H' p = none) : H p = none := by
  have nd := D.has h
  cases e : H p with
  | none => rfl
  | some o =>
    have := X.at nd.1 nd.2 e
    rw [h] at this
    cases this
section
variable {P : Program} {w : World} {K : PySem.W.Frag} {mg : Str → Option Value} {base : Heap}
/-! ### _law_value -/
def spValue (K : PySem.W.Frag) : Nat → Sp
  | 0 => fun _ _ _ _ => False
  | m + 1 => fun vs H Q _ => ∃ (d c : Addr) (n k : Nat), vs = [.ref d, .int k] ∧ k ≤ m ∧ n + 60 * 5 ^ m < 2 ^ 60 ∧ Deck d c n H ∧
    ∀ (v : V) (D : PyData) (H' : Hp), Dp K H' v D → Sz m D → Deck d c (n + 60 * 5 ^ m) H' → Ext d c H H' → Q v H'
theorem ok_value (T : Txt w K mg) : ∀ m : Nat, ∃ fd, FnOk P w K mg base CX0 (5 + m) (He.ga K "_law_value") fd ["_law_deck_here", "_law_deep"] (spValue K m) ∧ Binds K fd ["_law_deck_here", "_law_deep"] []
  | 0 => by
    obtain ⟨fd, F⟩ := T.d__law_value
    exact ⟨fd, ⟨fun _ _ _ _ h => h.elim, fun _ _ _ _ _ _ _ _ _ _ _ _ _ h => h.elim⟩, F.bindsN fun _ _ _ _ _ _ us hl => match us, hl with | [_, _], _ => rfl⟩
  | m + 1 => by
    have C__law_value : Cal P w K mg base "_law_value" (5 + m) ["_law_deck_here", "_law_deep"] (spValue K m) := ⟨ok_value T m, T.g _ (by decide), by obtain ⟨fd, F⟩ := T.d__law_value; exact F.kp⟩
    have C__law_draw := c_draw (P := P) (w := w) (base := base) T
    have C__law_pick := c_pick (P := P) (w := w) (base := base) T
    have C__law_string : Cal P w K mg base "_law_string" 3 ["_law_deck_here"] spString := ⟨ok_string T, T.g _ (by decide), by obtain ⟨fd, F⟩ := T.d__law_string; exact F.kp⟩
    have C__law_integer : Cal P w K mg base "_law_integer" 2 ["_law_deck_here"] spInteger := ⟨ok_integer T, T.g _ (by decide), by obtain ⟨fd, F⟩ := T.d__law_integer; exact F.kp⟩
    obtain ⟨fd, F⟩ := T.d__law_value
    refine ⟨fd, F.ok (k := 5 + m) sc__law_value (fun vs H Q E h => ?_) (fun cdv A outer s H vs Q E hr h => ?_), F.bindsN fun _ _ _ _ _ _ us hl => match us, hl with | [_, _], _ => rfl⟩
    · obtain ⟨d, c, n, k, rfl, _⟩ := h
      rfl
    obtain ⟨d, c, n, k, rfl, hk, hn, dk, q⟩ := h
    have p5 := one_le5 m
    refine ⟨_, PSs.nox (pss_cons (ps_set (i := 2) sc__law_value.nd rfl (.inl rfl) (pe_cal C__law_draw (hr.mono (by omega)) (by rfl) (pa_cons (pv 0) (pa_cons pe_int pa_nil))))
      (pss_cons (ps_if (PW.pt (pw_and (pt_cmpR op_lt (pv 2) pe_int (nomark _)) (pw_and1 (pt_cmpR op_gt (pv 1) pe_int (nomark _))))) (pss_one (ps_ret (pe_callTy call_tuple_of (by rfl) T.n_tuple (by decide +kernel) (pa_cons (pe_lc (own := [("_law_k", 3)]) (by rfl) sc__law_value.nd (pi_range1 (by rfl) T.n_range (pa_cons (pe_cal C__law_draw (hr.mono (by omega)) (by rfl) (pa_cons (pv 0) (pa_cons pe_int pa_nil))) pa_nil)) (blkOk_by (own := [("_law_k", 3)]) (N := N__law_value) (sc := defScope s__law_value) (by decide +kernel)) (fun _ _ _ _ _ => (pg_name (i := 3) sc__law_value.nd rfl (.inl rfl))) (fun _ _ _ _ _ => pts_nil) (fun _ _ _ _ _ => (pe_cal C__law_value (hr.mono (by omega)) (by rfl) (pa_cons (pv 0) (pa_cons (pe_op op_sub (pv 1) pe_int) pa_nil))))) pa_nil)))) pss_nil)
      (pss_cons (ps_if (pt_cmpR op_lt (pv 2) pe_int (nomark _)) (pss_one (ps_ret (pe_cal C__law_integer (hr.mono (by omega)) (by rfl) (pa_cons (pv 0) pa_nil)))) pss_nil)
      (pss_cons (ps_if (pt_cmpR op_lt (pv 2) pe_int (nomark _)) (pss_one (ps_ret (pe_cal C__law_string (hr.mono (by omega)) (by rfl) (pa_cons (pv 0) pa_nil)))) pss_nil)
      (pss_one (ps_ret (pe_cal C__law_pick (hr.mono (by omega)) (by rfl) (pa_cons (pv 0) (pa_cons (pe_lst (pa_cons pe_bl (pa_cons pe_bl (pa_cons pe_non (pa_cons pe_int (pa_cons pe_int (pa_cons pe_str (pa_cons (pe_tup pa_nil) (pa_cons pe_str (pa_cons pe_str pa_nil)))))))))) pa_nil))))))))), ?_⟩
    refine ⟨.ref d, rfl, d, c, n, 8, rfl, by decide, by decide, by omega, dk, fun x H1 x0 x1 dk1 X1 => ?_⟩
    have rest : ∀ {A : Prop}, A → (A → A) := fun a _ => a
    refine ⟨.int x, rfl, _, _, rfl, rfl, _, rfl, ite2 (fun e3 => ⟨.int k, rfl, _, _, rfl, rfl, _, rfl, ite2 (fun ek => ?_) (fun ek => ?_)⟩) (fun e3 => ?_)⟩
    · -- a tuple
      have hk0 : 0 < k := by
        have := of_decide_eq_true ek
        omega
      obtain ⟨m', rfl⟩ : ∃ m', m = m' + 1 := ⟨m - 1, by omega⟩
      have e5 : 5 ^ (m' + 1) = 5 * 5 ^ m' := by rw [Nat.pow_succ, Nat.mul_comm]
      have p5' := one_le5 m'
      refine ⟨.ref d, rfl, d, c, n + 1, 5, rfl, by decide, by decide, by omega, dk1, fun r H2 r0 r1 dk2 X2 => ⟨r, rfl, by omega, by omega, fun D hD => ?_⟩⟩
      have X12 := X1.trans X2
      have nd := dk2.has hD
      have hDH : H D = none := grow X12 dk2 hD
      refine lc_range (lo := 0) (n := r.toNat) (fun i H3 => ∃ vs ds, vs.length = i ∧ H3 D = some (.lst vs) ∧ DpAll K H3 vs ds ∧ (∀ e ∈ ds, Sz m' e) ∧ Deck d c (n + 2 + i * (60 * 5 ^ m')) H3 ∧ Ext d c H H3) ?_ ?_ ?_
      · exact ⟨[], [], rfl, upd_same, .nil, (fun _ h => nomatch h), by rw [Nat.zero_mul]; exact dk2.new hD, X12.trans (Ext.new hD)⟩
      · rintro i H3 hi ⟨vs, ds, hl, hD3, hA, hsz, dk3, X3⟩
        have hi4 : i < 4 := by omega
        have hib : i * (60 * 5 ^ m') ≤ 3 * (60 * 5 ^ m') := Nat.mul_le_mul_right _ (by omega)
        refine ⟨rfl, tyes ⟨.ref d, rfl, .int k, rfl, k, 1, rfl, rfl, d, c, n + 2 + i * (60 * 5 ^ m'), k - 1, ?_, by omega, by omega, dk3, fun v D2 H4 hv hz dk4 X4 => ?_⟩⟩
        · show [V.ref d, V.int ((k : Int) - 1)] = _
          have ek : ((k : Nat) : Int) - 1 = ((k - 1 : Nat) : Int) := by omega
          rw [ek]
        have hD4 := X4.at nd.1 nd.2 hD3
        have sT : SameT H4 (upd H4 D (.lst (vs ++ [v]))) := SameT.put hD4 rfl
        have okA : okAll ds = true := okAll_mem.mpr fun e he => (hsz e he).ok
        refine ⟨vs, hD4, small1000 (by omega), vs ++ [v], ds ++ [D2], by rw [List.length_append, hl]; rfl, upd_same, dpAll_app (dpAll_T ((Ext.T dk3 X4).trans sT) _ _ okA hA) (.cons (dp_T sT _ _ hz.ok hv) .nil), fun e he => ?_, ?_, (X3.trans X4).mut hDH⟩
        · rcases List.mem_append.mp he with z | z
          · exact hsz e z
          · rw [List.mem_singleton.mp z]
            exact hz
        · rw [Nat.add_mul, Nat.one_mul, ← Nat.add_assoc]
          exact dk4.upd nd.1 nd.2
      · rintro H3 ⟨vs, ds, hl, hD3, hA, hsz, dk3, X3⟩
        have hr2 : r.toNat ≤ 4 := by omega
        have hib : r.toNat * (60 * 5 ^ m') ≤ 4 * (60 * 5 ^ m') := Nat.mul_le_mul_right _ hr2
        have hdl : ds.length ≤ 4 := by rw [← dpAll_len hA, hl]; exact hr2
        refine ⟨D, vs, rfl, .inl ⟨.inl (.inl hD3), fun l hl1 => ?_⟩⟩
        refine q (.ref l) (.tuple ds) _ (.tup (.inl (.inl upd_same)) (dpAll_T (SameT.new hl1) _ _ (okAll_mem.mpr fun e he => (hsz e he).ok) hA)) (Sz.tup hdl hsz) ((dk3.new hl1).up (by omega)) (X3.trans (Ext.new hl1))
    all_goals
      refine ⟨.int x, rfl, _, _, rfl, rfl, _, rfl, ite2 (fun e => ?_) (fun e5 => ?_)⟩
      · exact ⟨.ref d, rfl, d, c, n + 1, rfl, by omega, dk1, fun i H2 hi dk2 X2 => q (.int i) (.int i) H2 (.int i) (Sz.flat (by simp only [okD]; exact decide_eq_true hi) (by simp only [PyData.depth]; omega) (by simp only [sz])) (dk2.up (by omega)) (X1.trans X2)⟩
      refine ⟨.int x, rfl, _, _, rfl, rfl, _, rfl, ite2 (fun e => ?_) (fun e7 => ?_)⟩
      · exact ⟨.ref d, rfl, d, c, n + 1, rfl, by omega, dk1, fun z H2 hz dk2 X2 => q (.str z) (.str z) H2 (.str z) (Sz.flat hz (by simp only [PyData.depth]; omega) (by simp only [sz])) (dk2.up (by omega)) (X1.trans X2)⟩
      refine ⟨.ref d, rfl, (by show 0 ≤ sizeLine; exact Nat.zero_le _), fun tp htp => ⟨(by show 9 ≤ sizeLine; decide), fun a ha => ?_⟩⟩
      have dk2 := dk1.new (o := .tup []) htp
      have hs := dk2.has ha
      have htp2 : (upd (upd H1 tp (.tup [])) a (.lst [.bl true, .bl false, .non, .int 1, .int 0, .str "", .ref tp, .str "T", .str "N"])) tp = some (.tup []) := upd_get ha upd_same
      refine ⟨d, c, n + 1, .ref a, rfl, by omega, dk2.new ha, .inr ⟨a, _, rfl, .inl (.inl ((off_get hs.1 hs.2).trans upd_same)), (by show 0 < 9; decide), (by show 9 ≤ 1000; decide), fun y H' hy dk' X' => ?_⟩⟩
      have X := ((X1.trans (Ext.new (o := .tup []) htp)).trans (Ext.new ha)).trans X'
      have hd : Deck d c (n + 60 * 5 ^ m) H' := dk'.up (by omega)
      have ts := dk1.has htp
      have htp3 := X'.at ts.1 ts.2 htp2
      simp only [List.mem_cons, List.not_mem_nil, or_false] at hy
      rcases hy with rfl | rfl | rfl | rfl | rfl | rfl | rfl | rfl | rfl
      · exact q _ _ _ (.bl _) (Sz.flat (by decide) (by decide) (by simp only [sz])) hd X
      · exact q _ _ _ (.bl _) (Sz.flat (by decide) (by decide) (by simp only [sz])) hd X
      · exact q _ _ _ .non (Sz.flat (by decide) (by decide) (by simp only [sz])) hd X
      · exact q _ _ _ (.int _) (Sz.flat (by decide) (by decide) (by simp only [sz])) hd X
      · exact q _ _ _ (.int _) (Sz.flat (by decide) (by decide) (by simp only [sz])) hd X
      · exact q _ _ _ (.str _) (Sz.flat (by decide +kernel) (by decide) (by simp only [sz])) hd X
      · exact q _ _ _ (.tup (.inl (.inl htp3)) .nil) (Sz.flat (by decide) (by decide) (by simp only [sz, szAll])) hd X
      · exact q _ _ _ (.str _) (Sz.flat (by decide +kernel) (by decide) (by simp only [sz])) hd X
      · exact q _ _ _ (.str _) (Sz.flat (by decide +kernel) (by decide) (by simp only [sz])) hd X
end
end K13

set_option maxHeartbeats 4000000
namespace K13
open PySem PySem.Spec PyProof.Rows L2 HG
open TL (numL tl_num numL_digits numL_ne numL_inj numL_val numL_len)
theorem numI_len {i : Int} (h : i.natAbs < 10 ^ 41) : (numI i).length ≤ 42 := by
  have := numL_len (n := i.natAbs) (k := 41) (by decide) h
  unfold numI
  split
  · rw [List.length_cons]; omega
  · omega
theorem log_small {i : Int} (h : i.natAbs < 10 ^ 41) : i.natAbs.log2 < 1920 := by
  by_cases h0 : i.natAbs = 0
  · rw [h0]; decide
  · have h1 : 10 ^ 41 < 2 ^ 200 := by decide
    have := (Nat.log2_lt h0 (k := 200)).mpr (by omega)
    omega
theorem ok_str {z : Str} (h : okD (.str z) = true) : z.length ≤ 100 ∧ ∀ c ∈ cp z, goodC c = true := by
  have : z.length ≤ 100 ∧ (cp z).all goodC = true := by simpa [okD] using h
  exact ⟨this.1, List.all_eq_true.mp this.2⟩
theorem ok_int {i : Int} (h : okD (.int i) = true) : i.natAbs < 10 ^ 41 := by
  simp only [okD] at h
  exact of_decide_eq_true h
mutual
theorem pk_len : ∀ {d : PyData}, okD d = true → (pk d).length ≤ 200 * sz d
  | .none, _ => by simp only [pk, sz]; decide
  | .bool b, _ => by cases b <;> (simp only [pk, sz]; decide)
  | .int i, h => by
    have := numI_len (ok_int h)
    simp only [pk, sz, List.length_cons, List.length_append, List.length_nil]
    omega
  | .str z, h => by
    have h1 := (ok_str h).1
    have h2 := numL_len (n := z.length) (k := 3) (by decide) (by omega)
    have h3 := cp_len z
    simp only [pk, sz, List.length_cons, List.length_append]
    omega
  | .tuple ds, h => by
    have := pkAll_len (ds := ds) (by simpa [okD] using h)
    simp only [pk, sz, List.length_cons, List.length_append, List.length_nil]
    omega
  | .list _, h => by simp [okD] at h
  | .dict _, h => by simp [okD] at h
theorem pkAll_len : ∀ {ds : List PyData}, okAll ds = true → (pkAll ds).length ≤ 200 * szAll ds
  | [], _ => by simp [pkAll, szAll]
  | d :: ds, h => by
    have h' : okD d = true ∧ okAll ds = true := by simpa [okAll] using h
    have h1 := pk_len h'.1
    have h2 := pkAll_len h'.2
    simp only [pkAll, szAll, List.length_append]
    omega
end
theorem sz_mem : ∀ {ds : List PyData} {d : PyData}, d ∈ ds → sz d ≤ szAll ds
  | e :: ds, d, h => by
    simp only [szAll]
    rcases List.mem_cons.mp h with rfl | h
    · omega
    · have := sz_mem h
      omega
theorem dep_mem : ∀ {ds : List PyData} {d : PyData}, d ∈ ds → d.depth ≤ PyData.depthAll ds
  | e :: ds, d, h => by
    simp only [PyData.depthAll]
    rcases List.mem_cons.mp h with rfl | h
    · omega
    · have := dep_mem h
      omega
theorem len_szAll : ∀ ds : List PyData, ds.length ≤ szAll ds
  | [] => Nat.le_refl _
  | d :: ds => by
    have := len_szAll ds
    have h1 : 1 ≤ sz d := by cases d <;> simp only [sz] <;> omega
    simp only [szAll, List.length_cons]
    omega
theorem sqT_mono {K : PySem.W.Frag} {H H' : Hp} {a : Addr} {xs : List V} (e : Same H H') (s : SqT K H a xs) : SqT K H' a xs := by
  rcases s with (s | ⟨o, s⟩) | s
  · exact .inl (.inl (e _ _ s))
  · exact .inl (.inr ⟨o, e _ _ s⟩)
  · exact .inr s
/-- the texts of the parts -/
def Parts (ds : List PyData) (zs : List Str) : Prop := zs.length = ds.length ∧ ∀ i (h : i < zs.length) (g : i < ds.length), cp zs[i] = pk ds[i]
theorem pkAll_flat : ∀ {ds : List PyData} {zs : List Str}, zs.map cp = ds.map pk → (zs.map cp).flatten = pkAll ds
  | [], [], _ => rfl
  | d :: ds, z :: zs, h => by
    rw [List.map_cons, List.map_cons] at h
    injection h with h1 h2
    rw [List.map_cons, List.flatten_cons, pkAll_flat h2, h1]
    simp only [pkAll]
  | [], z :: zs, h => by simp at h
  | d :: ds, [], h => by simp at h
theorem sum_len : ∀ zs : List Str, (zs.map (·.length)).sum = ((zs.map cp).flatten).length
  | [] => rfl
  | z :: zs => by
    rw [List.map_cons, List.sum_cons, List.map_cons, List.flatten_cons, List.length_append, sum_len zs, cp_len]
section
variable {P : Program} {w : World} {K : PySem.W.Frag} {mg : Str → Option Value} {base : Heap}
def spPack (K : PySem.W.Frag) : Nat → Sp
  | 0 => fun _ _ _ _ => False
  | m + 1 => fun vs H Q _ => ∃ (v : V) (D : PyData), vs = [v] ∧ Dp K H v D ∧ okD D = true ∧ D.depth ≤ m ∧ sz D ≤ 5000 ∧ ∀ (z : Str) (H' : Hp), cp z = pk D → Same H H' → Q (.str z) H'
theorem len_of {z : Str} {D : PyData} (h : cp z = pk D) (ok : okD D = true) (hs : sz D ≤ 5000) : z.length ≤ 1000000 := by
  have h1 := pk_len ok
  have h2 := cp_len z
  rw [h] at h2
  omega
theorem add_le {a b : Str} {n : Nat} (h : a.length + b.length ≤ n) (hn : n ≤ 2000000) : a.length + b.length ≤ sizeLine := Nat.le_trans (Nat.le_trans h hn) (by decide)
theorem num_cp (n : Nat) : cp (Str.ofString (toString ((n : Nat) : Int))) = numL n := tl_num n
theorem nat_log {n : Nat} (h : n ≤ 100) : ((n : Nat) : Int).natAbs.log2 < 1920 := log_small (by
  have : 100 < 10 ^ 41 := by decide
  omega)
theorem ok_pack (T : Txt w K mg) : ∀ m : Nat, ∃ fd, FunD K "pack" "pack" (defArgs s_pack) (defBody s_pack) (defScope s_pack) [] [] (He.ga K "pack") fd ∧ FnOk P w K mg base CX0 m (He.ga K "pack") fd ["value"] (spPack K m) ∧ Binds K fd ["value"] []
  | 0 => by
    obtain ⟨fd, F⟩ := T.d_pack
    exact ⟨fd, F, ⟨fun _ _ _ _ h => h.elim, fun _ _ _ _ _ _ _ _ _ _ _ _ _ h => h.elim⟩, F.bindsN fun _ _ _ _ _ _ us hl => match us, hl with | [_], _ => rfl⟩
  | m + 1 => by
    have C_pack : Cal P w K mg base "pack" m ["value"] (spPack K m) := ⟨by obtain ⟨fd, _, a, b⟩ := ok_pack T m; exact ⟨fd, a, b⟩, T.g _ (by decide), by obtain ⟨fd, F⟩ := T.d_pack; exact F.kp⟩
    obtain ⟨fd, F⟩ := T.d_pack
    refine ⟨fd, F, F.ok (k := m) sc_pack (fun vs H Q E h => ?_) (fun cdv A outer s H vs Q E hr h => ?_), F.bindsN fun _ _ _ _ _ _ us hl => match us, hl with | [_], _ => rfl⟩
    · obtain ⟨v, D, rfl, _⟩ := h
      rfl
    obtain ⟨v, D, rfl, hv, ok, dep, hs, q⟩ := h
    refine ⟨_, PSs.nox (pss_cons (ps_if (pt_cmpR op_isTF (pv 0) pe_bl (nomark _)) (pss_one (ps_ret pe_str)) pss_nil)
      (pss_cons (ps_if (pt_cmpR op_isTF (pv 0) pe_bl (nomark _)) (pss_one (ps_ret pe_str)) pss_nil)
      (pss_cons (ps_if (pt_cmpR op_isN (pv 0) pe_non (nomark _)) (pss_one (ps_ret pe_str)) pss_nil)
      (pss_cons (ps_if (pt_val (pe_callB call_isi (by rfl) T.n_isinstance (by decide +kernel) (pa_cons (pv 0) (pa_cons (pe_bltn (v := .ty "str") (u := .type "str") (by rfl) T.n_str (by decide +kernel) rfl) pa_nil)))) (pss_one (ps_ret (pe_joined (PJ.cons pe_str (PJ.cons (pe_fmt (pe_callB call_len (by rfl) T.n_len (by decide +kernel) (pa_cons (pv 0) pa_nil))) (PJ.cons pe_str (PJ.cons (pe_fmt (pv 0)) PJ.nil))))))) pss_nil)
      (pss_cons (ps_if (pt_val (pe_callB call_isi (by rfl) T.n_isinstance (by decide +kernel) (pa_cons (pv 0) (pa_cons (pe_bltn (v := .ty "tuple") (u := .type "tuple") (by rfl) T.n_tuple (by decide +kernel) rfl) pa_nil)))) (pss_one (ps_ret (pe_op op_add_str (pe_op op_add_str pe_str (pe_join pe_str (pe_lc (own := [("part", 1)]) (by rfl) sc_pack.nd (pi_tup (pv 0)) (blkOk_by (own := [("part", 1)]) (N := N_pack) (sc := defScope s_pack) (by decide +kernel)) (fun _ _ _ _ _ => (pg_name (i := 1) sc_pack.nd rfl (.inl rfl))) (fun _ _ _ _ _ => pts_nil) (fun _ _ _ _ _ => (pe_cal C_pack (hr.mono (by omega)) (by rfl) (pa_cons (pv 1) pa_nil)))))) pe_str))) pss_nil)
      (pss_one (ps_ret (pe_joined (PJ.cons pe_str (PJ.cons (pe_fmt (pv 0)) (PJ.cons pe_str PJ.nil))))))))))), ?_⟩
    have isS := fun {B : Bool} (hB : kitB (tyN D) "str" = some B) => hB
    cases hv with
    | non => exact ⟨.non, rfl, true, rfl, _, rfl, iteF ⟨.non, rfl, false, rfl, _, rfl, iteF ⟨.non, rfl, rfl, _, rfl, iteT (q _ _ (by decide +kernel) (Same.refl _))⟩⟩⟩
    | bl b =>
      cases b with
      | true => exact ⟨.bl true, rfl, true, rfl, _, rfl, iteT (q _ _ (by decide +kernel) (Same.refl _))⟩
      | false => exact ⟨.bl false, rfl, true, rfl, _, rfl, iteF ⟨.bl false, rfl, false, rfl, _, rfl, iteT (q _ _ (by decide +kernel) (Same.refl _))⟩⟩
    | int i =>
      have hi := ok_int ok
      refine ⟨.int i, rfl, true, rfl, _, rfl, iteF ⟨.int i, rfl, false, rfl, _, rfl, iteF ⟨.int i, rfl, rfl, _, rfl, iteF ?_⟩⟩⟩
      refine ⟨.int i, rfl, .int i, .ty "str", _, _, _, rfl, .ty _, dp_ty (.int i), kit_ty (kit_str (.int i)), _, rfl, iteF ?_⟩
      refine ⟨.int i, rfl, .int i, .ty "tuple", _, _, _, rfl, .ty _, dp_ty (.int i), kit_ty (kit_tuple (.int i)), _, rfl, iteF ?_⟩
      have ec : cp (Str.empty ++ "i" ++ Str.ofString (toString i) ++ ";") = pk (.int i) := by
        rw [cp_app, cp_app, cp_num, cp_app]
        have e1 : cp Str.empty = [] := rfl
        have e2 : cp ("i" : Str) = [105] := by decide +kernel
        have e3 : cp (";" : Str) = [59] := by decide +kernel
        rw [e1, e2, e3]
        simp only [pk]
        simp
      have el := len_of ec ok hs
      refine ⟨"i", rfl, by decide, .int i, rfl, .inr ⟨i, rfl, log_small hi, _, rfl, ?_, ";", rfl, Nat.le_trans el (by decide), q _ _ ec (Same.refl _)⟩⟩
      refine Nat.le_trans ?_ (Nat.le_trans el (by decide))
      rw [Str.length_append (Str.empty ++ "i" ++ Str.ofString (toString i))]
      exact Nat.le_add_right _ _
    | str z =>
      have hz := ok_str ok
      have hzs : z.length ≤ sizeLine := Nat.le_trans hz.1 (by decide)
      refine ⟨.str z, rfl, true, rfl, _, rfl, iteF ⟨.str z, rfl, false, rfl, _, rfl, iteF ⟨.str z, rfl, rfl, _, rfl, iteF ?_⟩⟩⟩
      refine ⟨.str z, rfl, .str z, .ty "str", _, _, _, rfl, .ty _, dp_ty (.str z), kit_ty (kit_str (.str z)), _, rfl, iteT ?_⟩
      have ec : cp (Str.empty ++ "s" ++ Str.ofString (toString ((z.length : Nat) : Int)) ++ ":" ++ z) = pk (.str z) := by
        rw [cp_app, cp_app, cp_app, cp_app, num_cp]
        have e1 : cp Str.empty = [] := rfl
        have e2 : cp ("s" : Str) = [115] := by decide +kernel
        have e3 : cp (":" : Str) = [58] := by decide +kernel
        rw [e1, e2, e3]
        simp only [pk]
        simp
      have el := len_of ec ok hs
      refine ⟨"s", rfl, by decide, .str z, rfl, .str z, z.length, rfl, ⟨hzs, rfl⟩, .inr ⟨z.length, rfl, nat_log hz.1, _, rfl, ?_, ":", rfl, ?_, .str z, rfl, .inl ⟨z, rfl, hzs, z, rfl, Nat.le_trans el (by decide), q _ _ ec (Same.refl _)⟩⟩⟩
      · refine Nat.le_trans ?_ (Nat.le_trans el (by decide))
        rw [Str.length_append _ z, Str.length_append _ ":"]
        omega
      · refine Nat.le_trans ?_ (Nat.le_trans el (by decide))
        rw [Str.length_append _ z]
        omega
    | @tup a vs ds sq ha =>
      refine ⟨.ref a, rfl, true, rfl, _, rfl, iteF ⟨.ref a, rfl, false, rfl, _, rfl, iteF ⟨.ref a, rfl, rfl, _, rfl, iteF ?_⟩⟩⟩
      refine ⟨.ref a, rfl, .ref a, .ty "str", _, _, _, rfl, .ty _, dp_ty (.tup sq ha), kit_ty (kit_str (.tuple ds)), _, rfl, iteF ?_⟩
      refine ⟨.ref a, rfl, .ref a, .ty "tuple", _, _, _, rfl, .ty _, dp_ty (.tup sq ha), kit_ty (kit_tuple (.tuple ds)), _, rfl, iteT ?_⟩
      have okA : okAll ds = true := by simpa [okD] using ok
      have szA : szAll ds ≤ 4999 := by simp only [sz] at hs; omega
      obtain ⟨m', rfl⟩ : ∃ m', m = m' + 1 := by
        simp only [PyData.depth] at dep
        exact ⟨m - 1, by omega⟩
      have depA : PyData.depthAll ds ≤ m' := by simp only [PyData.depth] at dep; omega
      have hvl := dpAll_len ha
      have hdl := len_szAll ds
      · refine ⟨⟨_, rfl⟩, .ref a, rfl, a, rfl, ⟨vs, sq⟩, fun D hD => ?_⟩
        refine lc_tup (xs := vs) (fun i H2 => ∃ zs : List Str, zs.map cp = (ds.take i).map pk ∧ H2 D = some (.lst (zs.map V.str)) ∧ Same H H2) ⟨[], rfl, upd_same, fun b o h => upd_get hD h⟩ ?_ ?_ ?_
        · rintro i H2 _ ⟨zs, _, _, s2⟩
          exact sqT_mono s2 sq
        · rintro i x H2 hx ⟨zs, ez, hD2, s2⟩
          obtain ⟨d, hd, hxd⟩ := dpAll_get ha hx
          have hm := List.mem_of_getElem? hd
          refine ⟨rfl, tyes ⟨x, rfl, x, d, rfl, dp_mono s2 _ _ hxd, okAll_mem.mp okA d hm, Nat.le_trans (dep_mem hm) depA, Nat.le_trans (sz_mem hm) (by omega), fun z H3 hz s3 => ?_⟩⟩
          have hlen : zs.length ≤ i := by
            have e := congrArg List.length ez
            rw [List.length_map, List.length_map, List.length_take] at e
            omega
          have hi : i < vs.length := (List.getElem?_eq_some_iff.mp hx).1
          refine ⟨_, s3 _ _ hD2, ?_, zs ++ [z], ?_, ?_, ?_⟩
          · rw [List.length_map]
            exact Nat.lt_of_le_of_lt (show zs.length ≤ 5000 by omega) (by decide)
          · rw [List.map_append, ez, List.take_add_one, hd, List.map_append, List.map_cons, List.map_nil, hz]
            rfl
          · rw [upd_same, List.map_append]
            rfl
          · intro b o h
            rw [upd_ne (ne_of_none h hD)]
            exact s3 _ _ (s2 _ _ h)
        · rintro H2 ⟨zs, ez, hD2, s2⟩
          rw [hvl, List.take_length] at ez
          have ef := pkAll_flat ez
          have esum := sum_len zs
          rw [ef] at esum
          have hpl := pkAll_len okA
          refine ⟨"", D, zs, rfl, rfl, .inl (.inl (.inl hD2)), ?_, ?_⟩
          · rw [esum]
            show _ + zs.length * 0 ≤ 16777216
            omega
          have ej : cp (Txt.join "" zs) = pkAll ds := (cp_joinT zs).trans ef
          have ec : cp ("(" ++ Txt.join "" zs ++ ")" : Str) = pk (.tuple ds) := by
            rw [cp_app, cp_app, ej]
            have e2 : cp ("(" : Str) = [40] := by decide +kernel
            have e3 : cp (")" : Str) = [41] := by decide +kernel
            rw [e2, e3]
            simp only [pk]
            simp
          have el := len_of ec ok hs
          rw [Str.length_append, Str.length_append] at el
          refine ⟨_, _, rfl, rfl, add_le (n := 1000000) (by omega) (by decide), _, _, rfl, rfl, ?_, q _ _ ec s2⟩
          rw [Str.length_append]
          exact Nat.le_trans el (by decide)
    | lst _ _ => simp [okD] at ok
end
end K13

set_option maxHeartbeats 4000000
namespace K13
open PySem PySem.Spec PyProof.Rows L2 HG
open TL (numL tl_num numL_digits numL_ne numL_inj numL_val numL_len)
section
variable {P : Program} {w : World} {K : PySem.W.Frag} {mg : Str → Option Value} {base : Heap}
theorem ok_packed (T : Txt w K mg) : ∀ m : Nat, ∃ fd, FnOk P w K mg base CX0 m (He.ga K "_law_packed") fd ["_law_thing"] (spPack K m) ∧ Binds K fd ["_law_thing"] []
  | 0 => by
    obtain ⟨fd, F⟩ := T.d__law_packed
    exact ⟨fd, ⟨fun _ _ _ _ h => h.elim, fun _ _ _ _ _ _ _ _ _ _ _ _ _ h => h.elim⟩, F.bindsN fun _ _ _ _ _ _ us hl => match us, hl with | [_], _ => rfl⟩
  | m + 1 => by
    have C__law_packed : Cal P w K mg base "_law_packed" m ["_law_thing"] (spPack K m) := ⟨ok_packed T m, T.g _ (by decide), by obtain ⟨fd, F⟩ := T.d__law_packed; exact F.kp⟩
    obtain ⟨fd, F⟩ := T.d__law_packed
    refine ⟨fd, F.ok (k := m) sc__law_packed (fun vs H Q E h => ?_) (fun cdv A outer s H vs Q E hr h => ?_), F.bindsN fun _ _ _ _ _ _ us hl => match us, hl with | [_], _ => rfl⟩
    · obtain ⟨v, D, rfl, _⟩ := h
      rfl
    obtain ⟨v, D, rfl, hv, ok, dep, hs, q⟩ := h
    refine ⟨_, PSs.nox (pss_cons (ps_if (PW.pt (pw_or (pt_cmpR op_isN (pv 0) pe_non (nomark _)) (pw_or1 (pt_val (pe_callB call_isi (by rfl) T.n_isinstance (by decide +kernel) (pa_cons (pv 0) (pa_cons (pe_bltn (v := .ty "bool") (u := .type "bool") (by rfl) T.n_bool (by decide +kernel) rfl) pa_nil))))))) (pss_one (ps_ret (pe_nb3 (pv 0) (fun _ _ => rfl)))) pss_nil)
      (pss_cons (ps_if (pt_val (pe_callB call_isi (by rfl) T.n_isinstance (by decide +kernel) (pa_cons (pv 0) (pa_cons (pe_bltn (v := .ty "int") (u := .type "int") (by rfl) T.n_int (by decide +kernel) rfl) pa_nil)))) (pss_one (ps_ret (pe_op op_add_str (pe_op op_add_str pe_str (pe_callTy call_str_int (by rfl) T.n_str (by decide +kernel) (pa_cons (pv 0) pa_nil))) pe_str))) pss_nil)
      (pss_cons (ps_if (pt_val (pe_callB call_isi (by rfl) T.n_isinstance (by decide +kernel) (pa_cons (pv 0) (pa_cons (pe_bltn (v := .ty "str") (u := .type "str") (by rfl) T.n_str (by decide +kernel) rfl) pa_nil)))) (pss_one (ps_ret (pe_op op_add_str (pe_op op_add_str (pe_op op_add_str pe_str (pe_callTy call_str_int (by rfl) T.n_str (by decide +kernel) (pa_cons (pe_callB call_len (by rfl) T.n_len (by decide +kernel) (pa_cons (pv 0) pa_nil)) pa_nil))) pe_str) (pv 0)))) pss_nil)
      (pss_one (ps_ret (pe_op op_add_str (pe_op op_add_str pe_str (pe_join pe_str (pe_lc (own := [("_law_part", 1)]) (by rfl) sc__law_packed.nd (pi_tup (pv 0)) (blkOk_by (own := [("_law_part", 1)]) (N := N__law_packed) (sc := defScope s__law_packed) (by decide +kernel)) (fun _ _ _ _ _ => (pg_name (i := 1) sc__law_packed.nd rfl (.inl rfl))) (fun _ _ _ _ _ => pts_nil) (fun _ _ _ _ _ => (pe_cal C__law_packed (hr.mono (by omega)) (by rfl) (pa_cons (pv 1) pa_nil)))))) pe_str)))))), ?_⟩
    cases hv with
    | non => exact ⟨.non, rfl, rfl, _, rfl, iteT fun p o hp => ⟨.non, rfl, upd_same, none, rfl, q _ _ (by decide +kernel) (fun b u h => upd_get hp h)⟩⟩
    | bl b =>
      refine ⟨.bl b, rfl, rfl, _, rfl, iteF ⟨.bl b, rfl, .bl b, .ty "bool", _, _, _, rfl, .ty _, dp_ty (.bl b), kit_ty (kit_bool (.bool b)), _, rfl, iteT fun p o hp => ⟨.bl b, rfl, upd_same, some b, rfl, ?_⟩⟩⟩
      cases b with
      | true => exact q _ _ (by decide +kernel) (fun b u h => upd_get hp h)
      | false => exact q _ _ (by decide +kernel) (fun b u h => upd_get hp h)
    | int i =>
      have hi := ok_int ok
      refine ⟨.int i, rfl, rfl, _, rfl, iteF ⟨.int i, rfl, .int i, .ty "bool", _, _, _, rfl, .ty _, dp_ty (.int i), kit_ty (kit_bool (.int i)), _, rfl, iteF ?_⟩⟩
      refine ⟨.int i, rfl, .int i, .ty "int", _, _, _, rfl, .ty _, dp_ty (.int i), kit_ty (kit_int (.int i)), _, rfl, iteT ?_⟩
      have ec : cp ("i" ++ Str.ofString (toString i) ++ ";" : Str) = pk (.int i) := by
        rw [cp_app, cp_app, cp_num]
        have e2 : cp ("i" : Str) = [105] := by decide +kernel
        have e3 : cp (";" : Str) = [59] := by decide +kernel
        rw [e2, e3]
        simp only [pk]
        simp
      have el := len_of ec ok hs
      rw [Str.length_append, Str.length_append] at el
      refine ⟨.int i, rfl, i, rfl, log_small hi, _, _, rfl, rfl, add_le (n := 1000000) (by omega) (by decide), _, _, rfl, rfl, ?_, q _ _ ec (Same.refl _)⟩
      rw [Str.length_append]
      exact Nat.le_trans el (by decide)
    | str z =>
      have hz := ok_str ok
      have hzs : z.length ≤ sizeLine := Nat.le_trans hz.1 (by decide)
      refine ⟨.str z, rfl, rfl, _, rfl, iteF ⟨.str z, rfl, .str z, .ty "bool", _, _, _, rfl, .ty _, dp_ty (.str z), kit_ty (kit_bool (.str z)), _, rfl, iteF ?_⟩⟩
      refine ⟨.str z, rfl, .str z, .ty "int", _, _, _, rfl, .ty _, dp_ty (.str z), kit_ty (kit_int (.str z)), _, rfl, iteF ?_⟩
      refine ⟨.str z, rfl, .str z, .ty "str", _, _, _, rfl, .ty _, dp_ty (.str z), kit_ty (kit_str (.str z)), _, rfl, iteT ?_⟩
      have ec : cp ("s" ++ Str.ofString (toString ((z.length : Nat) : Int)) ++ ":" ++ z : Str) = pk (.str z) := by
        rw [cp_app, cp_app, cp_app, num_cp]
        have e2 : cp ("s" : Str) = [115] := by decide +kernel
        have e3 : cp (":" : Str) = [58] := by decide +kernel
        rw [e2, e3]
        simp only [pk]
        simp
      have el := len_of ec ok hs
      rw [Str.length_append, Str.length_append, Str.length_append] at el
      refine ⟨.str z, rfl, .str z, z.length, rfl, ⟨hzs, rfl⟩, z.length, rfl, nat_log hz.1, _, _, rfl, rfl, add_le (n := 1000000) (by omega) (by decide), _, _, rfl, rfl, ?_, .str z, rfl, _, _, rfl, rfl, ?_, q _ _ ec (Same.refl _)⟩
      · rw [Str.length_append]
        exact Nat.le_trans (show _ ≤ 1000000 by omega) (by decide)
      · rw [Str.length_append, Str.length_append]
        exact Nat.le_trans el (by decide)
    | @tup a vs ds sq ha =>
      refine ⟨.ref a, rfl, rfl, _, rfl, iteF ⟨.ref a, rfl, .ref a, .ty "bool", _, _, _, rfl, .ty _, dp_ty (.tup sq ha), kit_ty (kit_bool (.tuple ds)), _, rfl, iteF ?_⟩⟩
      refine ⟨.ref a, rfl, .ref a, .ty "int", _, _, _, rfl, .ty _, dp_ty (.tup sq ha), kit_ty (kit_int (.tuple ds)), _, rfl, iteF ?_⟩
      refine ⟨.ref a, rfl, .ref a, .ty "str", _, _, _, rfl, .ty _, dp_ty (.tup sq ha), kit_ty (kit_str (.tuple ds)), _, rfl, iteF ?_⟩
      have okA : okAll ds = true := by simpa [okD] using ok
      have szA : szAll ds ≤ 4999 := by simp only [sz] at hs; omega
      obtain ⟨m', rfl⟩ : ∃ m', m = m' + 1 := by
        simp only [PyData.depth] at dep
        exact ⟨m - 1, by omega⟩
      have depA : PyData.depthAll ds ≤ m' := by simp only [PyData.depth] at dep; omega
      have hvl := dpAll_len ha
      have hdl := len_szAll ds
      · refine ⟨⟨_, rfl⟩, .ref a, rfl, a, rfl, ⟨vs, sq⟩, fun D hD => ?_⟩
        refine lc_tup (xs := vs) (fun i H2 => ∃ zs : List Str, zs.map cp = (ds.take i).map pk ∧ H2 D = some (.lst (zs.map V.str)) ∧ Same H H2) ⟨[], rfl, upd_same, fun b o h => upd_get hD h⟩ ?_ ?_ ?_
        · rintro i H2 _ ⟨zs, _, _, s2⟩
          exact sqT_mono s2 sq
        · rintro i x H2 hx ⟨zs, ez, hD2, s2⟩
          obtain ⟨d, hd, hxd⟩ := dpAll_get ha hx
          have hm := List.mem_of_getElem? hd
          refine ⟨rfl, tyes ⟨x, rfl, x, d, rfl, dp_mono s2 _ _ hxd, okAll_mem.mp okA d hm, Nat.le_trans (dep_mem hm) depA, Nat.le_trans (sz_mem hm) (by omega), fun z H3 hz s3 => ?_⟩⟩
          have hlen : zs.length ≤ i := by
            have e := congrArg List.length ez
            rw [List.length_map, List.length_map, List.length_take] at e
            omega
          have hi : i < vs.length := (List.getElem?_eq_some_iff.mp hx).1
          refine ⟨_, s3 _ _ hD2, ?_, zs ++ [z], ?_, ?_, ?_⟩
          · rw [List.length_map]
            exact Nat.lt_of_le_of_lt (show zs.length ≤ 5000 by omega) (by decide)
          · rw [List.map_append, ez, List.take_add_one, hd, List.map_append, List.map_cons, List.map_nil, hz]
            rfl
          · rw [upd_same, List.map_append]
            rfl
          · intro b o h
            rw [upd_ne (ne_of_none h hD)]
            exact s3 _ _ (s2 _ _ h)
        · rintro H2 ⟨zs, ez, hD2, s2⟩
          rw [hvl, List.take_length] at ez
          have ef := pkAll_flat ez
          have esum := sum_len zs
          rw [ef] at esum
          have hpl := pkAll_len okA
          refine ⟨"", D, zs, rfl, rfl, .inl (.inl (.inl hD2)), ?_, ?_⟩
          · rw [esum]
            show _ + zs.length * 0 ≤ 16777216
            omega
          have ej : cp (Txt.join "" zs) = pkAll ds := (cp_joinT zs).trans ef
          have ec : cp ("(" ++ Txt.join "" zs ++ ")" : Str) = pk (.tuple ds) := by
            rw [cp_app, cp_app, ej]
            have e2 : cp ("(" : Str) = [40] := by decide +kernel
            have e3 : cp (")" : Str) = [41] := by decide +kernel
            rw [e2, e3]
            simp only [pk]
            simp
          have el := len_of ec ok hs
          rw [Str.length_append, Str.length_append] at el
          refine ⟨_, _, rfl, rfl, add_le (n := 1000000) (by omega) (by decide), _, _, rfl, rfl, ?_, q _ _ ec s2⟩
          rw [Str.length_append]
          exact Nat.le_trans el (by decide)
    | lst _ _ => simp [okD] at ok
end
end K13

set_option maxHeartbeats 4000000
namespace K13
open PySem PySem.Spec PyProof.Rows L2 HG
open TL (numL tl_num numL_digits numL_ne numL_inj numL_val numL_len)
abbrev CU (K : PySem.W.Frag) : Addr := He.ga K "Unpacker"
def UnO (K : PySem.W.Frag) (dx : Addr) (z : Str) (k : Nat) : HO := .ins (CU K) dx [("text", .str z), ("at", .int (k : Int))]
theorem upd_upd {H : Hp} {p : Addr} {a b : HO} : upd (upd H p a) p b = upd H p b := by
  funext x
  by_cases e : x = p
  · subst e; rw [upd_same, upd_same]
  · rw [upd_ne e, upd_ne e, upd_ne e]
/-- all but u stays -/
def Ux (u : Addr) (H H' : Hp) : Prop := ∀ b o, b ≠ u → H b = some o → H' b = some o
theorem Ux.refl (u : Addr) (H : Hp) : Ux u H H := fun _ _ _ h => h
theorem Ux.trans {u : Addr} {H H1 H2 : Hp} (a : Ux u H H1) (b : Ux u H1 H2) : Ux u H H2 := fun x o n h => b x o n (a x o n h)
theorem Ux.put {u : Addr} {H : Hp} {o : HO} : Ux u H (upd H u o) := fun b x n h => by rw [upd_ne n]; exact h
theorem Ux.new {u p : Addr} {H : Hp} {o : HO} (hp : H p = none) : Ux u H (upd H p o) := fun b x n h => upd_get hp h
theorem Ux.mut {u p : Addr} {H H' : Hp} {o : HO} (e : Ux u H H') (hp : H p = none) : Ux u H (upd H' p o) := fun b x n h => by
  rw [upd_ne (ne_of_none h hp)]
  exact e b x n h
theorem Ux.T {u : Addr} {H H' : Hp} {o : HO} (e : Ux u H H') (hu : H u = some o) (ho : tupO o = false) : SameT H H' := fun b x h t => e b x (fun z => by
  rw [z, hu] at h
  cases h
  rw [ho] at t
  cases t) h
section
variable {P : Program} {w : World} {K : PySem.W.Frag} {mg : Str → Option Value} {base : Heap}
/-! ### need -/
def spNeed : Sp := fun vs H Q _ => ∃ u : V, vs = [u, .bl true] ∧ Q .non H
theorem m_need (T : Txt w K mg) : C8.Met P w K mg base 1 (CU K) "need" spNeed [] := by
  obtain ⟨fd, F⟩ := T.d_Unpacker_need
  refine ⟨_, fd, ["self", "condition"], [], T.cl_Unpacker, T.m_Unpacker_need, F.ok sc_Unpacker_need (fun vs H Q E h => ?_) (fun cdv A outer s H vs Q E hr h => ?_), F.bindsN fun _ _ _ _ _ _ us hl => match us, hl with | [_, _], _ => rfl, .nil⟩
  · obtain ⟨u, rfl, _⟩ := h
    rfl
  obtain ⟨u, rfl, q⟩ := h
  refine ⟨_, PSs.nox (pss_one (ps_if (pt_not (pt_val (pv 1))) (pss_one ps_never) pss_nil)), ?_⟩
  exact ⟨.bl true, rfl, _, rfl, iteF q⟩
theorem yes {u : V} {b : Bool} (h : b = true) : [u, V.bl b] = [u, .bl true] := by rw [h]
/-! ### next_sign -/
def spNext (K : PySem.W.Frag) : Sp := fun vs H Q _ => ∃ (u dx : Addr) (z : Str) (k c : Nat), vs = [.ref u] ∧ H u = some (UnO K dx z k) ∧ z.length ≤ 1000000 ∧ (cp z)[k]? = some c ∧
  ∀ H', Ux u H H' → H' u = some (UnO K dx z (k + 1)) → Q (.str ⟨#[c]⟩) H'
theorem m_next (T : Txt w K mg) : C8.Met P w K mg base 2 (CU K) "next_sign" (spNext K) [] := by
  obtain ⟨fd, F⟩ := T.d_Unpacker_next_sign
  have M_Unpacker_need := m_need (P := P) (base := base) T
  refine ⟨_, fd, ["self"], [], T.cl_Unpacker, T.m_Unpacker_next_sign, F.ok sc_Unpacker_next_sign (fun vs H Q E h => ?_) (fun cdv A outer s H vs Q E hr h => ?_), F.bindsN fun _ _ _ _ _ _ us hl => match us, hl with | [_], _ => rfl, .nil⟩
  · obtain ⟨u, dx, z, k, c, rfl, _⟩ := h
    rfl
  obtain ⟨u, dx, z, k, c, rfl, hu, hz, hc, q⟩ := h
  have hzs : z.length ≤ sizeLine := Nat.le_trans hz (by decide)
  have hk : k < z.length := by
    have := (List.getElem?_eq_some_iff.mp hc).1
    rw [cp_len] at this
    exact this
  refine ⟨_, PSs.nox (pss_cons (ps_expr (C8.pe_mt M_Unpacker_need hr (by omega) (pv 0) (pa_cons (pe_cmpR op_lt (pe_fld (pv 0) rfl) (pe_callB call_len (by rfl) T.n_len (by decide +kernel) (pa_cons (pe_fld (pv 0) rfl) pa_nil)) (nomark _)) pa_nil)))
      (pss_cons (ps_fldaug (pv 0) pe_int in_add)
      (pss_one (ps_ret (pe_ix ix_str (pe_fld (pv 0) rfl) (pe_op op_sub (pe_fld (pv 0) rfl) pe_int) (fun _ _ => rfl)))))), ?_⟩
  refine ⟨.ref u, rfl, u, dx, _, rfl, hu, rfl, .ref u, rfl, u, CU K, dx, _, .int k, rfl, hu, T.cl_Unpacker, T.no_Unpacker_at, rfl, .ref u, rfl, u, CU K, dx, _, .str z, rfl, hu, T.cl_Unpacker, T.no_Unpacker_text, rfl,
    .str z, z.length, rfl, ⟨hzs, rfl⟩, k, z.length, rfl, rfl, .ref u, yes (decide_eq_true (by omega)), ?_⟩
  refine ⟨.ref u, rfl, u, CU K, dx, _, .int k, rfl, hu, T.cl_Unpacker, T.no_Unpacker_at, rfl, k, 1, rfl, rfl, dx, _, hu, (by show 2 < 1000; decide), ?_⟩
  have eo : HO.ins (CU K) dx (putF "at" (.int ((k : Int) + 1)) [("text", .str z), ("at", .int (k : Int))]) = UnO K dx z (k + 1) := rfl
  have hu2 : (upd H u (UnO K dx z (k + 1))) u = some (UnO K dx z (k + 1)) := upd_same
  have x2 : Ux u H (upd H u (UnO K dx z (k + 1))) := Ux.put
  rw [eo]
  generalize upd H u (UnO K dx z (k + 1)) = H2 at hu2 x2 ⊢
  have e1 : (((k + 1 : Nat) : Int) - 1) = (k : Int) := by omega
  refine ⟨.ref u, rfl, u, CU K, dx, _, .str z, rfl, hu2, T.cl_Unpacker, T.no_Unpacker_text, rfl, .ref u, rfl, u, CU K, dx, _, .int ((k + 1 : Nat) : Int), rfl, hu2, T.cl_Unpacker, T.no_Unpacker_at, rfl, _, _, rfl, rfl, z, _, c, rfl, rfl, hzs, ?_, q _ x2 hu2⟩
  rw [e1]
  exact atI_nat hc
/-! ### number -/
def spNumber (K : PySem.W.Frag) : Sp := fun vs H Q _ => ∃ (u dx : Addr) (z : Str) (pre post : List Nat) (i : Int) (e : Nat), vs = [.ref u, .str ⟨#[e]⟩] ∧ H u = some (UnO K dx z pre.length) ∧ z.length ≤ 1000000 ∧
  cp z = pre ++ (numI i ++ e :: post) ∧ (numI i).length ≤ 42 ∧ 58 ≤ e ∧ ∀ H', Ux u H H' → H' u = some (UnO K dx z (pre.length + (numI i).length + 1)) → Q (.int i) H'
theorem digs {n : Nat} : ∀ c ∈ numL n, decide (c ∈ cp ("0123456789" : Str)) = true := fun c hc => by
  have h := numL_digits n c hc
  have all : ∀ c : Nat, c < 58 → 48 ≤ c → decide (c ∈ cp ("0123456789" : Str)) = true := by decide +kernel
  exact all c (by omega) h.1
theorem m_number (T : Txt w K mg) : C8.Met P w K mg base 2 (CU K) "number" (spNumber K) [] := by
  obtain ⟨fd, F⟩ := T.d_Unpacker_number
  have M_Unpacker_need := m_need (P := P) (base := base) T
  refine ⟨_, fd, ["self", "end"], [], T.cl_Unpacker, T.m_Unpacker_number, F.ok sc_Unpacker_number (fun vs H Q E h => ?_) (fun cdv A outer s H vs Q E hr h => ?_), F.bindsN fun _ _ _ _ _ _ us hl => match us, hl with | [_, _], _ => rfl, .nil⟩
  · obtain ⟨u, dx, z, pre, post, i, e, rfl, _⟩ := h
    rfl
  obtain ⟨u, dx, z, pre, post, i, e, rfl, hu, hz, ez, hi, he, q⟩ := h
  have hzs : z.length ≤ sizeLine := Nat.le_trans hz (by decide)
  have efind := find_at (a := numI i) ez (fun x hx => by have := numI_sign i x hx; omega)
  refine ⟨_, PSs.nox (pss_cons (ps_set (i := 2) sc_Unpacker_number.nd rfl (.inl rfl) (pe_bm PySem.F.plainAttrs_str PySem.F.slot_str_find PySem.F.type_str_find mt_find3 (pe_fld (pv 0) rfl) (pa_cons (pv 1) (pa_cons (pe_fld (pv 0) rfl) pa_nil))))
      (pss_cons (ps_expr (C8.pe_mt M_Unpacker_need hr (by omega) (pv 0) (pa_cons (pe_cmpR op_ge (pv 2) pe_int (nomark _)) pa_nil)))
      (pss_cons (ps_set (i := 3) sc_Unpacker_number.nd rfl (.inl rfl) (pe_slice sl_str (pe_fld (pv 0) rfl) (po_some (pe_fld (pv 0) rfl)) (po_some (pv 2))))
      (pss_cons (ps_fld (pv 0) (pe_op op_add (pv 2) pe_int) (by rfl))
      (pss_cons (ps_set (i := 4) sc_Unpacker_number.nd rfl (.inl rfl) (pe_ifExp (pt_cmpR op_eq (pe_slice sl_str (pv 3) po_none (po_some pe_int)) pe_str (nomark _)) (pe_slice sl_str (pv 3) (po_some pe_int) po_none) (pv 3)))
      (pss_cons (ps_expr (C8.pe_mt M_Unpacker_need hr (by omega) (pv 0) (pa_cons (pe_and (pe_cmpR op_ne (pv 4) pe_str (nomark _)) (pe_and (pe_cmpR op_le (pe_callB call_len (by rfl) T.n_len (by decide +kernel) (pa_cons (pv 4) pa_nil)) (pe_globI T.c_LONGEST_NUMBER rfl) (nomark _)) (pe_one (pe_callB (cr_all rfl) (by rfl) T.n_all (by decide +kernel) (pa_cons (pe_lc (own := [("sign", 5)]) (by rfl) sc_Unpacker_number.nd (pi_str (pv 4)) (blkOk_by (own := [("sign", 5)]) (N := N_Unpacker_number) (sc := defScope s_Unpacker_number) (by decide +kernel)) (fun _ _ _ _ _ => (pg_name (i := 5) sc_Unpacker_number.nd rfl (.inl rfl))) (fun _ _ _ _ _ => pts_nil) (fun _ _ _ _ _ => (pe_cmpR op_in_sign (pv 5) (pe_globS T.c_DIGITS rfl) (by rfl)))) pa_nil))))) pa_nil)))
      (pss_cons (ps_expr (C8.pe_mt M_Unpacker_need hr (by omega) (pv 0) (pa_cons (pe_or (pe_cmpR op_ne (pe_ix ix_str (pv 4) pe_int (fun _ _ => rfl)) pe_str (nomark _)) (pe_one (pe_cmpR op_eq (pv 3) pe_str (nomark _)))) pa_nil)))
      (pss_one (ps_ret (pe_callTy call_int_str (by rfl) T.n_int (by decide +kernel) (pa_cons (pv 3) pa_nil))))))))))), ?_⟩
  -- last = self.text.find(end, self.at)
  refine ⟨.ref u, rfl, u, CU K, dx, _, .str z, rfl, hu, T.cl_Unpacker, T.no_Unpacker_text, rfl, rfl, .str ⟨#[e]⟩, rfl, .ref u, rfl, u, CU K, dx, _, .int pre.length, rfl, hu, T.cl_Unpacker, T.no_Unpacker_at, rfl, z, _, _, rfl, rfl, ?_⟩
  rw [efind]
  -- need(last >= 0)
  refine ⟨.ref u, rfl, u, dx, _, rfl, hu, rfl, .int _, rfl, _, _, rfl, rfl, .ref u, yes (decide_eq_true (by omega)), ?_⟩
  -- digits = self.text[self.at:last]
  refine ⟨.ref u, rfl, u, CU K, dx, _, .str z, rfl, hu, T.cl_Unpacker, T.no_Unpacker_text, rfl, .ref u, rfl, u, CU K, dx, _, .int pre.length, rfl, hu, T.cl_Unpacker, T.no_Unpacker_at, rfl, _, rfl, .int _, rfl, _, rfl, z, rfl, hzs, ?_⟩
  have ed := cut_mid (z := z) (pre := pre) (a := numI i) (post := e :: post) ez
  generalize cutS z (some (pre.length : Int)) (some ((pre.length + (numI i).length : Nat) : Int)) = dg at ed ⊢
  have hdl : dg.length ≤ 42 := by rw [← cp_len, ed]; exact hi
  have hds : dg.length ≤ sizeLine := Nat.le_trans hdl (by decide)
  -- self.at = last + 1
  refine ⟨.int _, rfl, _, _, rfl, rfl, .ref u, rfl, u, CU K, dx, _, rfl, hu, T.cl_Unpacker, T.no_Unpacker_at, (by show 2 < 1000; decide), ?_⟩
  have eo : HO.ins (CU K) dx (putF "at" (.int (((pre.length + (numI i).length : Nat) : Int) + 1)) [("text", .str z), ("at", .int (pre.length : Int))]) = UnO K dx z (pre.length + (numI i).length + 1) := rfl
  have hu2 : (upd H u (UnO K dx z (pre.length + (numI i).length + 1))) u = some (UnO K dx z (pre.length + (numI i).length + 1)) := upd_same
  have x2 : Ux u H (upd H u (UnO K dx z (pre.length + (numI i).length + 1))) := Ux.put
  rw [eo]
  generalize upd H u (UnO K dx z (pre.length + (numI i).length + 1)) = H2 at hu2 x2 ⊢
  -- plain
  obtain ⟨c0, r0, e0⟩ : ∃ c r, cp dg = c :: r := by
    cases h : cp dg with
    | nil => rw [ed] at h; exact absurd h (numI_ne i)
    | cons c r => exact ⟨c, r, rfl⟩
  have eint := int_text ed (by omega)
  refine ⟨.str dg, rfl, 1, rfl, dg, rfl, hds, rfl, ?_⟩
  rw [cut_head e0]
  have two : (c0 = 45 ∧ cp (cutS dg (some 1) none) = numL i.natAbs ∧ i ≠ 0) ∨ (c0 ≠ 45 ∧ cp dg = numL i.natAbs ∧ (i.natAbs = 0 → dg = "0")) := by
    rw [ed] at e0
    unfold numI at e0 ed
    split at e0
    · rename_i hneg
      rw [if_pos hneg] at ed
      injection e0 with h1 h2
      exact .inl ⟨h1.symm, cut_tail ed, by omega⟩
    · rename_i hneg
      rw [if_neg hneg] at ed
      refine .inr ⟨?_, ed, fun h0 => cp_ext ?_⟩
      · have := numL_digits i.natAbs c0 (by rw [e0]; exact List.mem_cons_self)
        omega
      · rw [ed, h0, numL_zero]
        decide +kernel
  refine ⟨_, rfl, ?_⟩
  rcases two with ⟨hc, hp, hi0⟩ | ⟨hc, hp, hi0⟩
  · subst hc
    refine iteT ⟨.str dg, rfl, 1, rfl, dg, rfl, hds, ?_⟩
    generalize cutS dg (some 1) none = pl at hp ⊢
    have hlast : i.natAbs = 0 → dg = "0" := fun h => absurd (Int.natAbs_eq_zero.mp h) hi0
    have hpl : pl.length ≤ 42 := by
      have h1 := congrArg List.length hp
      have h2 : (numL i.natAbs).length ≤ 42 := by
        unfold numI at hi
        split at hi
        · rw [List.length_cons] at hi; omega
        · exact hi
      rw [cp_len] at h1
      omega
    have hps : pl.length ≤ sizeLine := Nat.le_trans hpl (by decide)
    have hne : ¬ V.str pl = V.str "" := fun h => by
      have h1 : pl = "" := V.str.inj h
      rw [h1] at hp
      exact numL_ne _ hp.symm
    obtain ⟨p0, pr, ep⟩ : ∃ c r, cp pl = c :: r := by
      cases h : cp pl with
      | nil => rw [hp] at h; exact absurd h (numL_ne _)
      | cons c r => exact ⟨c, r, rfl⟩
    -- need(plain != '' and len(plain) <= LONGEST_NUMBER and all(..))
    refine ⟨.ref u, rfl, u, dx, _, rfl, hu2, rfl, .str pl, rfl, rfl, _, rfl, ?_⟩
    rw [decide_eq_false hne]
    refine iteT ⟨.str pl, rfl, .str pl, pl.length, rfl, ⟨hps, rfl⟩, _, _, rfl, rfl, _, rfl, ?_⟩
    rw [decide_eq_true (show (pl.length : Int) ≤ 4300 by omega)]
    refine iteT ⟨.str pl, rfl, pl, rfl, fun D hD => ?_⟩
    refine lc_it walk_str (fun j H3 => H3 D = some (.lst ((((cp pl).take j).map fun c => decide (c ∈ cp ("0123456789" : Str))).map V.bl)) ∧ H3 u = some (UnO K dx z (pre.length + (numI i).length + 1)) ∧ Ux u H H3) ⟨upd_same, upd_get hD hu2, x2.trans (Ux.new hD)⟩ (fun _ _ _ _ => trivial) ?_ ?_
    · rintro j x H3 H4 hj ⟨hD3, hu3, x3⟩ ⟨rfl, ch, hch, rfl⟩
      have nD : D ≠ u := fun h => by rw [h, hu2] at hD; cases hD
      refine ⟨rfl, tyes ⟨.str ⟨#[ch]⟩, rfl, ch, _, rfl, rfl, _, hD3, ?_, ?_, ?_, ?_⟩⟩
      · rw [List.length_map, List.length_map]
        exact small1000 (Nat.le_trans (List.length_take_le' _ _) (by rw [cp_len]; omega))
      · rw [upd_same]
        have e : (cp pl)[j]? = some ch := by
          show pl.cps.toList[j]? = some ch
          rw [Array.getElem?_toList]
          exact hch
        rw [List.take_add_one, e, List.map_append, List.map_append]
        rfl
      · rw [upd_ne nD.symm]
        exact hu3
      · intro b o n h
        have nb : b ≠ D := fun hb => by rw [hb] at h n; rw [x2 D o n h] at hD; cases hD
        rw [upd_ne nb]
        exact x3 b o n h
    rintro H3 ⟨hD3, hu3, x3⟩
    have eall : (cp pl).take pl.cps.size = cp pl := List.take_of_length_le (by rw [cp_len]; exact Nat.le_refl _)
    rw [eall] at hD3
    refine ⟨D, _, rfl, .inl (.inl hD3), .ref u, yes ?_, ?_⟩
    · rw [List.all_map, hp]
      exact List.all_eq_true.mpr fun c hc => digs c hc
    -- need(plain[0] != '0' or digits == '0')
    have fin : Q (.int i) H3 := q H3 x3 hu3
    refine ⟨.ref u, rfl, u, dx, _, rfl, hu3, rfl, .str pl, rfl, pl, 0, p0, rfl, rfl, hps, ?_, rfl, _, rfl, ite2 (fun h => ⟨.ref u, rfl, .str dg, rfl, dg, i, rfl, eint, by omega, fin⟩) (fun h => ⟨.str dg, rfl, rfl, .ref u, yes (decide_eq_true ?_), .str dg, rfl, dg, i, rfl, eint, by omega, fin⟩)⟩
    · show atI (cp pl) 0 = some p0
      rw [ep]
      exact atI_nat (j := 0) rfl
    · have h0 : (⟨#[p0]⟩ : Str) = "0" := by
        cases hd : decide (V.str ⟨#[p0]⟩ = V.str "0") with
        | true => exact V.str.inj (of_decide_eq_true hd)
        | false => exact absurd (by rw [hd]; rfl) h
      have h1 := congrArg cp h0
      have h3 : cp ("0" : Str) = [48] := by decide +kernel
      rw [h3] at h1
      have h4 : p0 = 48 := by injection h1
      rw [hp, h4] at ep
      rw [hlast (numL_head ep)]
  · have hnd : decide (V.str ⟨#[c0]⟩ = V.str "-") = false := decide_eq_false fun h => hc (by
      have h1 : (⟨#[c0]⟩ : Str) = "-" := V.str.inj h
      have h2 := congrArg cp h1
      have h3 : cp ("-" : Str) = [45] := by decide +kernel
      rw [h3] at h2
      injection h2)
    rw [hnd]
    refine iteF ⟨.str dg, rfl, ?_⟩
    have hlast := hi0
    have hpl : dg.length ≤ 42 := by
      have h1 := congrArg List.length hp
      have h2 : (numL i.natAbs).length ≤ 42 := by
        unfold numI at hi
        split at hi
        · rw [List.length_cons] at hi; omega
        · exact hi
      rw [cp_len] at h1
      omega
    have hps : dg.length ≤ sizeLine := Nat.le_trans hpl (by decide)
    have hne : ¬ V.str dg = V.str "" := fun h => by
      have h1 : dg = "" := V.str.inj h
      rw [h1] at hp
      exact numL_ne _ hp.symm
    obtain ⟨p0, pr, ep⟩ : ∃ c r, cp dg = c :: r := by
      cases h : cp dg with
      | nil => rw [hp] at h; exact absurd h (numL_ne _)
      | cons c r => exact ⟨c, r, rfl⟩
    -- need(plain != '' and len(plain) <= LONGEST_NUMBER and all(..))
    refine ⟨.ref u, rfl, u, dx, _, rfl, hu2, rfl, .str dg, rfl, rfl, _, rfl, ?_⟩
    rw [decide_eq_false hne]
    refine iteT ⟨.str dg, rfl, .str dg, dg.length, rfl, ⟨hps, rfl⟩, _, _, rfl, rfl, _, rfl, ?_⟩
    rw [decide_eq_true (show (dg.length : Int) ≤ 4300 by omega)]
    refine iteT ⟨.str dg, rfl, dg, rfl, fun D hD => ?_⟩
    refine lc_it walk_str (fun j H3 => H3 D = some (.lst ((((cp dg).take j).map fun c => decide (c ∈ cp ("0123456789" : Str))).map V.bl)) ∧ H3 u = some (UnO K dx z (pre.length + (numI i).length + 1)) ∧ Ux u H H3) ⟨upd_same, upd_get hD hu2, x2.trans (Ux.new hD)⟩ (fun _ _ _ _ => trivial) ?_ ?_
    · rintro j x H3 H4 hj ⟨hD3, hu3, x3⟩ ⟨rfl, ch, hch, rfl⟩
      have nD : D ≠ u := fun h => by rw [h, hu2] at hD; cases hD
      refine ⟨rfl, tyes ⟨.str ⟨#[ch]⟩, rfl, ch, _, rfl, rfl, _, hD3, ?_, ?_, ?_, ?_⟩⟩
      · rw [List.length_map, List.length_map]
        exact small1000 (Nat.le_trans (List.length_take_le' _ _) (by rw [cp_len]; omega))
      · rw [upd_same]
        have e : (cp dg)[j]? = some ch := by
          show dg.cps.toList[j]? = some ch
          rw [Array.getElem?_toList]
          exact hch
        rw [List.take_add_one, e, List.map_append, List.map_append]
        rfl
      · rw [upd_ne nD.symm]
        exact hu3
      · intro b o n h
        have nb : b ≠ D := fun hb => by rw [hb] at h n; rw [x2 D o n h] at hD; cases hD
        rw [upd_ne nb]
        exact x3 b o n h
    rintro H3 ⟨hD3, hu3, x3⟩
    have eall : (cp dg).take dg.cps.size = cp dg := List.take_of_length_le (by rw [cp_len]; exact Nat.le_refl _)
    rw [eall] at hD3
    refine ⟨D, _, rfl, .inl (.inl hD3), .ref u, yes ?_, ?_⟩
    · rw [List.all_map, hp]
      exact List.all_eq_true.mpr fun c hc => digs c hc
    -- need(plain[0] != '0' or digits == '0')
    have fin : Q (.int i) H3 := q H3 x3 hu3
    refine ⟨.ref u, rfl, u, dx, _, rfl, hu3, rfl, .str dg, rfl, dg, 0, p0, rfl, rfl, hps, ?_, rfl, _, rfl, ite2 (fun h => ⟨.ref u, rfl, .str dg, rfl, dg, i, rfl, eint, by omega, fin⟩) (fun h => ⟨.str dg, rfl, rfl, .ref u, yes (decide_eq_true ?_), .str dg, rfl, dg, i, rfl, eint, by omega, fin⟩)⟩
    · show atI (cp dg) 0 = some p0
      rw [ep]
      exact atI_nat (j := 0) rfl
    · have h0 : (⟨#[p0]⟩ : Str) = "0" := by
        cases hd : decide (V.str ⟨#[p0]⟩ = V.str "0") with
        | true => exact V.str.inj (of_decide_eq_true hd)
        | false => exact absurd (by rw [hd]; rfl) h
      have h1 := congrArg cp h0
      have h3 : cp ("0" : Str) = [48] := by decide +kernel
      rw [h3] at h1
      have h4 : p0 = 48 := by injection h1
      rw [hp, h4] at ep
      rw [hlast (numL_head ep)]
end
end K13

set_option maxHeartbeats 4000000
namespace K13
open PySem PySem.Spec PyProof.Rows L2 HG
open TL (numL tl_num numL_digits numL_ne numL_inj numL_val numL_len)
theorem pkAll_app : ∀ a b : List PyData, pkAll (a ++ b) = pkAll a ++ pkAll b
  | [], b => rfl
  | d :: a, b => by
    simp only [List.cons_append, pkAll, pkAll_app a b, List.append_assoc]
theorem numI_nat (n : Nat) : numI (n : Int) = numL n := by
  unfold numI
  rw [if_neg (by omega)]
  rfl
section
variable {P : Program} {w : World} {K : PySem.W.Frag} {mg : Str → Option Value} {base : Heap}
/-! ### string -/
def spStr (K : PySem.W.Frag) : Sp := fun vs H Q _ => ∃ (u dx : Addr) (z y : Str) (pre post : List Nat), vs = [.ref u] ∧ H u = some (UnO K dx z pre.length) ∧ z.length ≤ 1000000 ∧
  cp z = pre ++ (numL y.length ++ 58 :: (cp y ++ post)) ∧ y.length ≤ 100 ∧ ∀ H', Ux u H H' → H' u = some (UnO K dx z (pre.length + (numL y.length).length + 1 + y.length)) → Q (.str y) H'
theorem m_string (T : Txt w K mg) : C8.Met P w K mg base 3 (CU K) "string" (spStr K) [] := by
  obtain ⟨fd, F⟩ := T.d_Unpacker_string
  have M_Unpacker_need := m_need (P := P) (base := base) T
  have M_Unpacker_number := m_number (P := P) (base := base) T
  refine ⟨_, fd, ["self"], [], T.cl_Unpacker, T.m_Unpacker_string, F.ok sc_Unpacker_string (fun vs H Q E h => ?_) (fun cdv A outer s H vs Q E hr h => ?_), F.bindsN fun _ _ _ _ _ _ us hl => match us, hl with | [_], _ => rfl, .nil⟩
  · obtain ⟨u, dx, z, y, pre, post, rfl, _⟩ := h
    rfl
  obtain ⟨u, dx, z, y, pre, post, rfl, hu, hz, ez, hy, q⟩ := h
  have hzs : z.length ≤ sizeLine := Nat.le_trans hz (by decide)
  have hnl := numL_len (n := y.length) (k := 3) (by decide) (by omega)
  have hlen : z.length = pre.length + ((numL y.length).length + ((cp y).length + post.length + 1)) := by
    rw [← cp_len, ez, List.length_append, List.length_append, List.length_cons, List.length_append]
  have hyl := cp_len y
  refine ⟨_, PSs.nox (pss_cons (ps_set (i := 1) sc_Unpacker_string.nd rfl (.inl rfl) (C8.pe_mt M_Unpacker_number hr (by omega) (pv 0) (pa_cons pe_str pa_nil)))
      (pss_cons (ps_expr (C8.pe_mt M_Unpacker_need hr (by omega) (pv 0) (pa_cons (pe_chain op_le op_le pe_int (pv 1) (pe_op op_sub (pe_callB call_len (by rfl) T.n_len (by decide +kernel) (pa_cons (pe_fld (pv 0) rfl) pa_nil)) (pe_fld (pv 0) rfl))) pa_nil)))
      (pss_cons (ps_fldaug (pv 0) (pv 1) in_add)
      (pss_one (ps_ret (pe_slice sl_str (pe_fld (pv 0) rfl) (po_some (pe_op op_sub (pe_fld (pv 0) rfl) (pv 1))) (po_some (pe_fld (pv 0) rfl)))))))), ?_⟩
  refine ⟨.ref u, rfl, u, dx, _, rfl, hu, rfl, u, dx, z, pre, cp y ++ post, (y.length : Nat), 58, rfl, hu, hz, by rw [numI_nat]; exact ez, by rw [numI_nat]; omega, by decide, fun H1 x1 hu1 => ?_⟩
  rw [numI_nat] at hu1
  -- need(0 <= length <= len(self.text) - self.at)
  refine ⟨.ref u, rfl, u, dx, _, rfl, hu1, rfl, .int y.length, rfl, _, _, rfl, rfl, _, rfl, ?_⟩
  rw [decide_eq_true (show (0 : Int) ≤ (y.length : Int) by omega)]
  refine iteT ⟨.ref u, rfl, u, CU K, dx, _, .str z, rfl, hu1, T.cl_Unpacker, T.no_Unpacker_text, rfl, .str z, z.length, rfl, ⟨hzs, rfl⟩, .ref u, rfl, u, CU K, dx, _, .int ((pre.length + (numL y.length).length + 1 : Nat) : Int), rfl, hu1, T.cl_Unpacker, T.no_Unpacker_at, rfl, _, _, rfl, rfl, _, _, rfl, rfl, .ref u, yes (decide_eq_true (by omega)), ?_⟩
  -- self.at += length
  refine ⟨.ref u, rfl, u, CU K, dx, _, .int ((pre.length + (numL y.length).length + 1 : Nat) : Int), rfl, hu1, T.cl_Unpacker, T.no_Unpacker_at, rfl, .int y.length, rfl, _, _, rfl, rfl, dx, _, hu1, (by show 2 < 1000; decide), ?_⟩
  have eo : HO.ins (CU K) dx (putF "at" (.int (((pre.length + (numL y.length).length + 1 : Nat) : Int) + (y.length : Int))) [("text", .str z), ("at", .int ((pre.length + (numL y.length).length + 1 : Nat) : Int))]) = UnO K dx z (pre.length + (numL y.length).length + 1 + y.length) := rfl
  have hu2 : (upd H1 u (UnO K dx z (pre.length + (numL y.length).length + 1 + y.length))) u = some (UnO K dx z (pre.length + (numL y.length).length + 1 + y.length)) := upd_same
  have x2 : Ux u H (upd H1 u (UnO K dx z (pre.length + (numL y.length).length + 1 + y.length))) := x1.trans Ux.put
  rw [eo]
  generalize upd H1 u (UnO K dx z (pre.length + (numL y.length).length + 1 + y.length)) = H2 at hu2 x2 ⊢
  -- return self.text[self.at - length:self.at]
  refine ⟨.ref u, rfl, u, CU K, dx, _, .str z, rfl, hu2, T.cl_Unpacker, T.no_Unpacker_text, rfl, .ref u, rfl, u, CU K, dx, _, .int ((pre.length + (numL y.length).length + 1 + y.length : Nat) : Int), rfl, hu2, T.cl_Unpacker, T.no_Unpacker_at, rfl, .int y.length, rfl, _, _, rfl, rfl, _, rfl,
    .ref u, rfl, u, CU K, dx, _, .int ((pre.length + (numL y.length).length + 1 + y.length : Nat) : Int), rfl, hu2, T.cl_Unpacker, T.no_Unpacker_at, rfl, _, rfl, z, rfl, hzs, ?_⟩
  have ez2 : cp z = (pre ++ (numL y.length ++ [58])) ++ (cp y ++ post) := by
    rw [ez]
    simp
  have ec := cut_mid ez2
  have el : (pre ++ (numL y.length ++ [58])).length = pre.length + (numL y.length).length + 1 := by
    simp
    omega
  rw [el, hyl] at ec
  have e1 : (((pre.length + (numL y.length).length + 1 + y.length : Nat) : Int) - (y.length : Int)) = ((pre.length + (numL y.length).length + 1 : Nat) : Int) := by omega
  rw [e1]
  have ey : cutS z (some ((pre.length + (numL y.length).length + 1 : Nat) : Int)) (some ((pre.length + (numL y.length).length + 1 + y.length : Nat) : Int)) = y := cp_ext ec
  rw [ey]
  exact q _ x2 hu2
/-! ### value -/
def spVal (K : PySem.W.Frag) : Nat → Sp
  | 0 => fun _ _ _ _ => False
  | m + 1 => fun vs H Q _ => ∃ (u dx : Addr) (z : Str) (pre post : List Nat) (D : PyData) (dep : Nat), vs = [.ref u, .int dep] ∧ H u = some (UnO K dx z pre.length) ∧ cp z = pre ++ (pk D ++ post) ∧ z.length ≤ 1000000 ∧
    okD D = true ∧ D.depth ≤ m ∧ D.depth + dep ≤ 100 ∧ sz D ≤ 5000 ∧ ∀ (v : V) (H' : Hp), Dp K H' v D → Ux u H H' → H' u = some (UnO K dx z (pre.length + (pk D).length)) → Q v H'
theorem at_mid {pre post : List Nat} {c : Nat} {l : List Nat} (h : l = pre ++ c :: post) : l[pre.length]? = some c := by
  rw [h, List.getElem?_append_right (Nat.le_refl _), Nat.sub_self]
  rfl
theorem m_value (T : Txt w K mg) : ∀ m : Nat, C8.Met P w K mg base (4 + m) (CU K) "value" (spVal K m) []
  | 0 => by
    obtain ⟨fd, F⟩ := T.d_Unpacker_value
    exact ⟨_, fd, ["self", "depth"], [], T.cl_Unpacker, T.m_Unpacker_value, ⟨fun _ _ _ _ h => h.elim, fun _ _ _ _ _ _ _ _ _ _ _ _ _ h => h.elim⟩, F.bindsN fun _ _ _ _ _ _ us hl => match us, hl with | [_, _], _ => rfl, .nil⟩
  | m + 1 => by
    have M_Unpacker_value := m_value T m
    have M_Unpacker_need := m_need (P := P) (base := base) T
    have M_Unpacker_number := m_number (P := P) (base := base) T
    have M_Unpacker_string := m_string (P := P) (base := base) T
    have M_Unpacker_next_sign := m_next (P := P) (base := base) T
    obtain ⟨fd, F⟩ := T.d_Unpacker_value
    refine ⟨_, fd, ["self", "depth"], [], T.cl_Unpacker, T.m_Unpacker_value, F.ok (k := 4 + m) sc_Unpacker_value (fun vs H Q E h => ?_) (fun cdv A outer s H vs Q E hr h => ?_), F.bindsN fun _ _ _ _ _ _ us hl => match us, hl with | [_, _], _ => rfl, .nil⟩
    · obtain ⟨u, dx, z, pre, post, D, dep, rfl, _⟩ := h
      rfl
    obtain ⟨u, dx, z, pre, post, D, dep, rfl, hu, ez, hz, ok, hd1, hd2, hs, q⟩ := h
    have hzs : z.length ≤ sizeLine := Nat.le_trans hz (by decide)
    refine ⟨_, PSs.nox (pss_cons (ps_set (i := 2) sc_Unpacker_value.nd rfl (.inl rfl) (C8.pe_mt0 M_Unpacker_next_sign hr (by omega) (pv 0)))
      (pss_cons (ps_if (pt_cmpR (op_in_tab T.t_SIGNS) (pv 2) (pe_glob (v := .ref _) (by rfl) (T.g "SIGNS" (by decide)) rfl) (by rfl)) (pss_one (ps_ret (pe_ix (ix_tab T.t_SIGNS) (pe_glob (v := .ref _) (by rfl) (T.g "SIGNS" (by decide)) rfl) (pv 2) (fun _ _ => rfl)))) pss_nil)
      (pss_cons (ps_if (pt_cmpR op_eq (pv 2) pe_str (nomark _)) (pss_one (ps_ret (C8.pe_mt M_Unpacker_number hr (by omega) (pv 0) (pa_cons pe_str pa_nil)))) pss_nil)
      (pss_cons (ps_if (pt_cmpR op_eq (pv 2) pe_str (nomark _)) (pss_one (ps_ret (C8.pe_mt0 M_Unpacker_string hr (by omega) (pv 0)))) pss_nil)
      (pss_cons (ps_expr (C8.pe_mt M_Unpacker_need hr (by omega) (pv 0) (pa_cons (pe_and (pe_cmpR op_eq (pv 2) pe_str (nomark _)) (pe_one (pe_cmpR op_lt (pv 1) (pe_globI T.c_DEEPEST rfl) (nomark _)))) pa_nil)))
      (pss_cons (ps_set (i := 3) sc_Unpacker_value.nd rfl (.inl rfl) (pe_lst pa_nil))
      (pss_cons (ps_while PassesOwn.never (pt_cmpR op_ne (pe_slice sl_str (pe_fld (pv 0) rfl) (po_some (pe_fld (pv 0) rfl)) (po_some (pe_op op_add (pe_fld (pv 0) rfl) pe_int))) pe_str (nomark _)) (pss_one (ps_expr (pe_bm PySem.F.plainAttrs_list PySem.F.slot_list_append PySem.F.type_list_append mt_append (pv 3) (pa_cons (C8.pe_mt M_Unpacker_value hr (by omega) (pv 0) (pa_cons (pe_op op_add (pv 1) pe_int) pa_nil)) pa_nil)))))
      (pss_cons (ps_fldaug (pv 0) pe_int in_add)
      (pss_one (ps_ret (pe_callTy call_tuple_of (by rfl) T.n_tuple (by decide +kernel) (pa_cons (pv 3) pa_nil)))))))))))), ?_⟩
    have first : ∀ {c : Nat} {r : List Nat}, pk D = c :: r → (cp z)[pre.length]? = some c := fun {c r} h => by
      rw [h] at ez
      exact at_mid (post := r ++ post) ez
    cases D with
    | none =>
      refine ⟨.ref u, rfl, u, dx, _, rfl, hu, rfl, u, dx, z, pre.length, 78, rfl, hu, hz, first rfl, fun H1 x1 hu1 => ?_⟩
      exact ⟨.str "N", rfl, "N", rfl, rfl, _, rfl, iteT ⟨.str "N", rfl, "N", .non, rfl, rfl, rfl, q .non H1 .non x1 hu1⟩⟩
    | bool b =>
      cases b with
      | true =>
        refine ⟨.ref u, rfl, u, dx, _, rfl, hu, rfl, u, dx, z, pre.length, 84, rfl, hu, hz, first rfl, fun H1 x1 hu1 => ?_⟩
        exact ⟨.str "T", rfl, "T", rfl, rfl, _, rfl, iteT ⟨.str "T", rfl, "T", .bl true, rfl, rfl, rfl, q _ H1 (.bl true) x1 hu1⟩⟩
      | false =>
        refine ⟨.ref u, rfl, u, dx, _, rfl, hu, rfl, u, dx, z, pre.length, 70, rfl, hu, hz, first rfl, fun H1 x1 hu1 => ?_⟩
        exact ⟨.str "F", rfl, "F", rfl, rfl, _, rfl, iteT ⟨.str "F", rfl, "F", .bl false, rfl, rfl, rfl, q _ H1 (.bl false) x1 hu1⟩⟩
    | int i =>
      have epk : pk (.int i) = 105 :: (numI i ++ [59]) := by simp only [pk]
      refine ⟨.ref u, rfl, u, dx, _, rfl, hu, rfl, u, dx, z, pre.length, 105, rfl, hu, hz, first epk, fun H1 x1 hu1 => ?_⟩
      refine ⟨.str "i", rfl, "i", rfl, rfl, _, rfl, iteF ⟨.str "i", rfl, rfl, _, rfl, iteT ?_⟩⟩
      have ez2 : cp z = (pre ++ [105]) ++ (numI i ++ 59 :: post) := by
        rw [ez, epk]
        simp
      have el : (pre ++ [105]).length = pre.length + 1 := by simp
      refine ⟨.ref u, rfl, u, dx, _, rfl, hu1, rfl, u, dx, z, pre ++ [105], post, i, 59, rfl, by rw [el]; exact hu1, hz, ez2, numI_len (ok_int ok), by decide, fun H2 x2 hu2 => ?_⟩
      refine q (.int i) H2 (.int i) (x1.trans x2) ?_
      rw [hu2, el, epk]
      congr 2
      simp
      omega
    | str y =>
      have epk : pk (.str y) = 115 :: (numL y.length ++ 58 :: cp y) := by simp only [pk]
      refine ⟨.ref u, rfl, u, dx, _, rfl, hu, rfl, u, dx, z, pre.length, 115, rfl, hu, hz, first epk, fun H1 x1 hu1 => ?_⟩
      refine ⟨.str "s", rfl, "s", rfl, rfl, _, rfl, iteF ⟨.str "s", rfl, rfl, _, rfl, iteF ⟨.str "s", rfl, rfl, _, rfl, iteT ?_⟩⟩⟩
      have ez2 : cp z = (pre ++ [115]) ++ (numL y.length ++ 58 :: (cp y ++ post)) := by
        rw [ez, epk]
        simp
      have el : (pre ++ [115]).length = pre.length + 1 := by simp
      refine ⟨.ref u, rfl, u, dx, _, rfl, hu1, rfl, u, dx, z, y, pre ++ [115], post, rfl, by rw [el]; exact hu1, hz, ez2, (ok_str ok).1, fun H2 x2 hu2 => ?_⟩
      refine q (.str y) H2 (.str y) (x1.trans x2) ?_
      rw [hu2, el, epk]
      congr 2
      have := cp_len y
      simp only [List.length_cons, List.length_append]
      omega
    | tuple ds =>
      have epk : pk (.tuple ds) = 40 :: (pkAll ds ++ [41]) := by simp only [pk]
      have okA : okAll ds = true := by simpa [okD] using ok
      have szA : szAll ds ≤ 4999 := by simp only [sz] at hs; omega
      obtain ⟨m', rfl⟩ : ∃ m', m = m' + 1 := by
        simp only [PyData.depth] at hd1
        exact ⟨m - 1, by omega⟩
      have depA : PyData.depthAll ds ≤ m' := by simp only [PyData.depth] at hd1; omega
      have depB : PyData.depthAll ds + (dep + 1) ≤ 100 := by simp only [PyData.depth] at hd2; omega
      have hdl := len_szAll ds
      refine ⟨.ref u, rfl, u, dx, _, rfl, hu, rfl, u, dx, z, pre.length, 40, rfl, hu, hz, first epk, fun H1 x1 hu1 => ?_⟩
      refine ⟨.str "(", rfl, "(", rfl, rfl, _, rfl, iteF ⟨.str "(", rfl, rfl, _, rfl, iteF ⟨.str "(", rfl, rfl, _, rfl, iteF ?_⟩⟩⟩
      -- need(sign == '(' and depth < DEEPEST)
      refine ⟨.ref u, rfl, u, dx, _, rfl, hu1, rfl, .str "(", rfl, rfl, _, rfl, iteT ⟨.int dep, rfl, _, _, rfl, rfl, .ref u, yes (decide_eq_true (by omega)), ?_⟩⟩
      -- parts = []
      refine ⟨Nat.zero_le _, fun p hp => ?_⟩
      have np : p ≠ u := fun h => by rw [h, hu1] at hp; cases hp
      have hpH : H p = none := by
        cases e : H p with
        | none => rfl
        | some o => rw [x1 p o np e] at hp; cases hp
      refine ⟨fun mm σ H2 => ∃ (i : Nat) (vs : List V), mm + i = ds.length ∧ σ = [some (.ref u), some (.int dep), some (.str "("), some (.ref p)] ∧ vs.length = i ∧ H2 p = some (.lst vs) ∧ DpAll K H2 vs (ds.take i) ∧
        H2 u = some (UnO K dx z (pre.length + 1 + (pkAll (ds.take i)).length)) ∧ Ux u H H2, ⟨ds.length, 0, [], rfl, rfl, rfl, upd_same, .nil, upd_get hp hu1, (x1.trans (Ux.new hp))⟩, ?_⟩
      rintro mm σ H2 ⟨i, vs, hmi, rfl, hvl, hp2, hA, hu2, x2⟩
      have ezi : cp z = (pre ++ (40 :: pkAll (ds.take i))) ++ (pkAll (ds.drop i) ++ 41 :: post) := by
        rw [ez, epk, ← List.take_append_drop i ds, pkAll_app]
        simp
      have eli : (pre ++ (40 :: pkAll (ds.take i))).length = pre.length + 1 + (pkAll (ds.take i)).length := by
        rw [List.length_append, List.length_cons]
        omega
      -- the next sign
      obtain ⟨c, r, ec, hc41⟩ : ∃ c r, pkAll (ds.drop i) ++ 41 :: post = c :: r ∧ (c = 41 ↔ i = ds.length) := by
        by_cases h : i = ds.length
        · rw [h, List.drop_length]
          exact ⟨41, post, rfl, by simp⟩
        · have hi : i < ds.length := by omega
          rw [List.drop_eq_getElem_cons hi]
          obtain ⟨c, r, e1, e2⟩ := pk_head (okAll_mem.mp okA ds[i] (List.getElem_mem hi))
          refine ⟨c, r ++ (pkAll (ds.drop (i + 1)) ++ 41 :: post), ?_, by simp [e2, h]⟩
          simp only [pkAll]
          rw [e1]
          simp
      have hcut : cutS z (some ((pre.length + 1 + (pkAll (ds.take i)).length : Nat) : Int)) (some (((pre.length + 1 + (pkAll (ds.take i)).length : Nat) : Int) + 1)) = ⟨#[c]⟩ := by
        rw [ec] at ezi
        have := cut_one ezi
        rw [eli] at this
        exact this
      refine ⟨.ref u, rfl, u, CU K, dx, _, .str z, rfl, hu2, T.cl_Unpacker, T.no_Unpacker_text, rfl, .ref u, rfl, u, CU K, dx, _, .int _, rfl, hu2, T.cl_Unpacker, T.no_Unpacker_at, rfl, _, rfl,
        .ref u, rfl, u, CU K, dx, _, .int _, rfl, hu2, T.cl_Unpacker, T.no_Unpacker_at, rfl, _, _, rfl, rfl, _, rfl, z, rfl, hzs, rfl, _, rfl, ?_⟩
      rw [hcut]
      by_cases h41 : c = 41
      · -- the end
        subst h41
        have hin := hc41.mp rfl
        subst hin
        refine iteF ?_
        rw [List.take_length] at hA hu2
        refine ⟨.ref u, rfl, u, CU K, dx, _, .int ((pre.length + 1 + (pkAll ds).length : Nat) : Int), rfl, hu2, T.cl_Unpacker, T.no_Unpacker_at, rfl, _, _, rfl, rfl, dx, _, hu2, (by show 2 < 1000; decide), ?_⟩
        have eo : HO.ins (CU K) dx (putF "at" (.int (((pre.length + 1 + (pkAll ds).length : Nat) : Int) + 1)) [("text", .str z), ("at", .int ((pre.length + 1 + (pkAll ds).length : Nat) : Int))]) = UnO K dx z (pre.length + 1 + (pkAll ds).length + 1) := rfl
        have hu3 : (upd H2 u (UnO K dx z (pre.length + 1 + (pkAll ds).length + 1))) u = some (UnO K dx z (pre.length + 1 + (pkAll ds).length + 1)) := upd_same
        have hp3 : (upd H2 u (UnO K dx z (pre.length + 1 + (pkAll ds).length + 1))) p = some (.lst vs) := by rw [upd_ne np]; exact hp2
        have x3 : Ux u H (upd H2 u (UnO K dx z (pre.length + 1 + (pkAll ds).length + 1))) := x2.trans Ux.put
        have hA3 := dpAll_T (SameT.put (o := UnO K dx z (pre.length + 1 + (pkAll ds).length + 1)) hu2 rfl) _ _ okA hA
        rw [eo]
        generalize upd H2 u (UnO K dx z (pre.length + 1 + (pkAll ds).length + 1)) = H3 at hu3 hp3 x3 hA3 ⊢
        refine ⟨.ref p, rfl, p, vs, rfl, .inl ⟨.inl (.inl hp3), fun l hl => ?_⟩⟩
        refine q (.ref l) _ (.tup (.inl (.inl upd_same)) (dpAll_T (SameT.new hl) _ _ okA hA3)) (x3.trans (Ux.new hl)) ?_
        rw [upd_get hl hu3, epk]
        congr 2
        simp only [List.length_cons, List.length_append, List.length_nil]
        omega
      · -- one more
        have hdec : decide (V.str ⟨#[c]⟩ = V.str ")") = false := decide_eq_false fun h => h41 (by
          have h1 : (⟨#[c]⟩ : Str) = ")" := V.str.inj h
          have h2 := congrArg cp h1
          have h3 : cp (")" : Str) = [41] := by decide +kernel
          rw [h3] at h2
          injection h2)
        rw [hdec]
        have hi : i < ds.length := by
          have : i ≠ ds.length := fun h => h41 (hc41.mpr h)
          omega
        have hmem : ds[i] ∈ ds := List.getElem_mem hi
        have et : ds.take (i + 1) = ds.take i ++ [ds[i]] := by rw [List.take_add_one, List.getElem?_eq_getElem hi]; rfl
        refine iteT ⟨fun σ' H' => ∃ m', m' < mm ∧ ∃ (i : Nat) (vs : List V), m' + i = ds.length ∧ σ' = [some (.ref u), some (.int dep), some (.str "("), some (.ref p)] ∧ vs.length = i ∧ H' p = some (.lst vs) ∧ DpAll K H' vs (ds.take i) ∧
          H' u = some (UnO K dx z (pre.length + 1 + (pkAll (ds.take i)).length)) ∧ Ux u H H', fun σ' H' h => h, ?_⟩
        refine ⟨.ref p, rfl, .inl ⟨rfl, _, .inl (.inl hp2)⟩, .ref u, rfl, u, dx, _, rfl, hu2, rfl, .int dep, rfl, _, _, rfl, rfl, u, dx, z, pre ++ (40 :: pkAll (ds.take i)), pkAll (ds.drop (i + 1)) ++ 41 :: post, ds[i], dep + 1, rfl, by rw [eli]; exact hu2, ?_, hz,
          okAll_mem.mp okA _ hmem, Nat.le_trans (dep_mem hmem) depA, Nat.le_trans (Nat.add_le_add_right (dep_mem hmem) _) depB, Nat.le_trans (sz_mem hmem) (by omega), fun v H3 hv x3 hu3 => ?_⟩
        · rw [ezi, List.drop_eq_getElem_cons hi]
          simp only [pkAll, List.append_assoc]
        have hp3 := x3 p _ np hp2
        have sT : SameT H2 H3 := x3.T hu2 rfl
        have sP : SameT H3 (upd H3 p (.lst (vs ++ [v]))) := SameT.put hp3 rfl
        have okT : okAll (ds.take i) = true := okAll_mem.mpr fun d hd => okAll_mem.mp okA d (List.mem_of_mem_take hd)
        refine ⟨p, vs, v, rfl, rfl, hp3, Nat.lt_of_le_of_lt (show vs.length ≤ 5000 by omega) (by decide), mm - 1, by omega, i + 1, vs ++ [v], by omega, rfl, by rw [List.length_append, hvl]; rfl, upd_same, ?_, ?_, ?_⟩
        · rw [et]
          exact dpAll_app (dpAll_T (sT.trans sP) _ _ okT hA) (.cons (dp_T sP _ _ (okAll_mem.mp okA _ hmem) hv) .nil)
        · rw [upd_ne np.symm, hu3, eli, et, pkAll_app]
          congr 2
          simp only [pkAll, List.length_append, List.append_nil]
          omega
        · exact (x2.trans x3).mut hpH
    | list ds => simp [okD] at ok
    | dict ds => simp [okD] at ok
end
end K13

set_option maxHeartbeats 4000000
namespace K13
open PySem PySem.Spec PyProof.Rows L2 HG
open TL (numL tl_num numL_digits numL_ne numL_inj numL_val numL_len)
/-! ### shown -/
mutual
theorem shows : ∀ {d : PyData}, okD d = true → d.showable = true
  | .none, _ => by simp only [PyData.showable]
  | .bool _, _ => by simp only [PyData.showable]
  | .int i, h => by simp only [PyData.showable]; exact decide_eq_true (log_small (ok_int h))
  | .str _, _ => by simp only [PyData.showable]
  | .tuple ds, h => by simp only [PyData.showable]; exact showsAll (by simpa [okD] using h)
  | .list _, h => by simp [okD] at h
  | .dict _, h => by simp [okD] at h
theorem showsAll : ∀ {ds : List PyData}, okAll ds = true → PyData.showableAll ds = true
  | [], _ => by simp only [PyData.showableAll]
  | d :: ds, h => by
    have h' : okD d = true ∧ okAll ds = true := by simpa [okAll] using h
    simp only [PyData.showableAll, shows h'.1, showsAll h'.2, Bool.and_self]
end
theorem esc_len : ∀ l : List Nat, (l.flatMap esc).length ≤ 2 * l.length
  | [] => by simp
  | c :: l => by
    have := esc_len l
    have h1 : (esc c).length ≤ 2 := by unfold esc; split <;> simp
    rw [List.flatMap_cons, List.length_append, List.length_cons]
    omega
mutual
theorem sh_len : ∀ {d : PyData}, okD d = true → (sh d).length + 2 ≤ 300 * sz d
  | .none, _ => by simp only [sh, sz]; decide
  | .bool b, _ => by cases b <;> (simp only [sh, sz]; decide)
  | .int i, h => by
    have := numI_len (ok_int h)
    simp only [sh, sz]
    omega
  | .str z, h => by
    have h1 := (ok_str h).1
    have h2 := esc_len (cp z)
    have h3 := cp_len z
    simp only [sh, sz, List.length_cons, List.length_append, List.length_nil]
    omega
  | .tuple ds, h => by
    have := shT_len (ds := ds) (by simpa [okD] using h)
    simp only [sh, sz, List.length_cons]
    omega
  | .list _, h => by simp [okD] at h
  | .dict _, h => by simp [okD] at h
theorem shT_len : ∀ {ds : List PyData}, okAll ds = true → (shT ds).length ≤ 300 * szAll ds + 1
  | [], _ => by simp only [shT, szAll]; decide
  | d :: ds, h => by
    have h' : okD d = true ∧ okAll ds = true := by simpa [okAll] using h
    have h1 := sh_len h'.1
    have h2 := shR_len h'.2
    have h3 : 1 ≤ sz d := by cases d <;> simp only [sz] <;> omega
    simp only [shT, szAll, List.length_append]
    omega
theorem shR_len : ∀ {ds : List PyData}, okAll ds = true → (shR ds).length ≤ 300 * szAll ds + 2
  | [], _ => by simp only [shR, szAll]; decide
  | d :: ds, h => by
    have h' : okD d = true ∧ okAll ds = true := by simpa [okAll] using h
    have h1 := sh_len h'.1
    have h2 := shU_len h'.2
    have h3 : 1 ≤ sz d := by cases d <;> simp only [sz] <;> omega
    simp only [shR, szAll, List.length_append, List.length_cons]
    omega
theorem shU_len : ∀ {ds : List PyData}, okAll ds = true → (shU ds).length ≤ 300 * szAll ds + 1
  | [], _ => by simp only [shU, szAll]; decide
  | d :: ds, h => by
    have h' : okD d = true ∧ okAll ds = true := by simpa [okAll] using h
    have h1 := sh_len h'.1
    have h2 := shU_len h'.2
    have h3 : 1 ≤ sz d := by cases d <;> simp only [sz] <;> omega
    simp only [shU, szAll, List.length_append, List.length_cons]
    omega
end
structure Gd (D : PyData) : Prop where
  ok : okD D = true
  dep : D.depth ≤ 100
  size : sz D ≤ 5000
theorem Gd.shl {D : PyData} (h : Gd D) : D.shown.length ≤ sizeLine := by
  have h1 := sh_len h.ok
  have h2 := cp_len D.shown
  rw [cp_shown D h.ok] at h2
  have := h.size
  exact Nat.le_trans (show D.shown.length ≤ 2000000 by omega) (by decide)
section
variable {P : Program} {w : World} {K : PySem.W.Frag} {mg : Str → Option Value} {base : Heap}
def spInit (K : PySem.W.Frag) : Sp := fun vs H Q _ => ∃ (u dx : Addr) (z : Str), vs = [.ref u, .str z] ∧ H u = some (.ins (CU K) dx []) ∧ Q .non (upd H u (UnO K dx z 0))
theorem k_unpacker (T : Txt w K mg) : MkC P w K mg base "Unpacker" 1 (spInit K) := by
  obtain ⟨fd, F⟩ := T.d_Unpacker___init__
  refine ⟨⟨_, fd, ["self", "text"], T.mk_Unpacker, F.ok sc_Unpacker___init__ (fun vs H Q E h => ?_) (fun cdv A outer s H vs Q E hr h => ?_), F.bindsN fun _ _ _ _ _ _ us hl => match us, hl with | [_, _], _ => rfl⟩, T.g _ (by decide)⟩
  · obtain ⟨u, dx, z, rfl, _⟩ := h
    rfl
  obtain ⟨u, dx, z, rfl, hu, q⟩ := h
  refine ⟨_, PSs.nox (pss_cons (ps_fld (pv 0) (pv 1) (by rfl))
      (pss_one (ps_fld (pv 0) pe_int (by rfl)))), ?_⟩
  refine ⟨.str z, rfl, .ref u, rfl, u, CU K, dx, _, rfl, hu, T.cl_Unpacker, T.no_Unpacker_text, (by show 0 < 1000; decide), ?_⟩
  refine ⟨.ref u, rfl, u, CU K, dx, _, rfl, upd_same, T.cl_Unpacker, T.no_Unpacker_at, (by show 1 < 1000; decide), ?_⟩
  rw [upd_upd]
  exact q
def spUnpack (K : PySem.W.Frag) : Sp := fun vs H Q _ => ∃ (z : Str) (D : PyData), vs = [.str z] ∧ cp z = pk D ∧ Gd D ∧ ∀ (v : V) (H' : Hp), Dp K H' v D → Same H H' → Q v H'
theorem ok_unpack (T : Txt w K mg) : ∃ fd, FunD K "unpack" "unpack" (defArgs s_unpack) (defBody s_unpack) (defScope s_unpack) [] [] (He.ga K "unpack") fd ∧ FnOk P w K mg base CX0 106 (He.ga K "unpack") fd ["text"] (spUnpack K) ∧ Binds K fd ["text"] [] := by
  obtain ⟨fd, F⟩ := T.d_unpack
  have K_Unpacker := k_unpacker (P := P) (base := base) T
  have M_Unpacker_value := m_value (P := P) (base := base) T 101
  have M_Unpacker_need := m_need (P := P) (base := base) T
  refine ⟨fd, F, F.ok (k := 105) sc_unpack (fun vs H Q E h => ?_) (fun cdv A outer s H vs Q E hr h => ?_), F.bindsN fun _ _ _ _ _ _ us hl => match us, hl with | [_], _ => rfl⟩
  · obtain ⟨z, D, rfl, _⟩ := h
    rfl
  obtain ⟨z, D, rfl, ez, g, q⟩ := h
  have hz := len_of ez g.ok g.size
  have hzs : z.length ≤ sizeLine := Nat.le_trans hz (by decide)
  refine ⟨_, PSs.nox (pss_cons (ps_if (pt_not (pt_val (pe_callB call_isi (by rfl) T.n_isinstance (by decide +kernel) (pa_cons (pv 0) (pa_cons (pe_bltn (v := .ty "str") (u := .type "str") (by rfl) T.n_str (by decide +kernel) rfl) pa_nil))))) (pss_one ps_never) pss_nil)
      (pss_cons (ps_set (i := 1) sc_unpack.nd rfl (.inl rfl) (pe_mk K_Unpacker (hr.mono (by omega)) (by rfl) (pa_cons (pv 0) pa_nil)))
      (pss_cons (ps_set (i := 2) sc_unpack.nd rfl (.inl rfl) (C8.pe_mt M_Unpacker_value hr (by omega) (pv 1) (pa_cons pe_int pa_nil)))
      (pss_cons (ps_expr (C8.pe_mt M_Unpacker_need hr (by omega) (pv 1) (pa_cons (pe_cmpR op_eq (pe_fld (pv 1) rfl) (pe_callB call_len (by rfl) T.n_len (by decide +kernel) (pa_cons (pv 0) pa_nil)) (nomark _)) pa_nil)))
      (pss_one (ps_ret (pv 2))))))), ?_⟩
  refine ⟨.str z, rfl, .str z, .ty "str", _, _, _, rfl, .ty _, dp_ty (.str z), kit_ty (kit_str (.str z)), _, rfl, iteF ?_⟩
  refine ⟨.str z, rfl, fun u dx hu hdx ne => ⟨u, dx, z, rfl, upd_same, rfl, ?_⟩⟩
  rw [upd_upd]
  have hu1 : (upd (upd H dx (.own u)) u (UnO K dx z 0)) u = some (UnO K dx z 0) := upd_same
  have s1 : Same H (upd (upd H dx (.own u)) u (UnO K dx z 0)) := fun b o h => by
    rw [upd_ne (ne_of_none h hu), upd_ne (ne_of_none h hdx)]
    exact h
  generalize upd (upd H dx (.own u)) u (UnO K dx z 0) = H1 at hu1 s1 ⊢
  refine ⟨.ref u, rfl, u, dx, _, rfl, hu1, rfl, u, dx, z, [], [], D, 0, rfl, hu1, by rw [ez]; simp, hz, g.ok, g.dep, g.dep, g.size, fun v H2 hv x2 hu2 => ?_⟩
  have el : ([] : List Nat).length + (pk D).length = z.length := by rw [← ez, cp_len]; simp
  rw [el] at hu2
  refine ⟨.ref u, rfl, u, dx, _, rfl, hu2, rfl, .ref u, rfl, u, CU K, dx, _, .int (z.length : Int), rfl, hu2, T.cl_Unpacker, T.no_Unpacker_at, rfl, .str z, rfl, .str z, z.length, rfl, ⟨hzs, rfl⟩, rfl, .ref u, yes (decide_eq_true rfl), ?_⟩
  exact ⟨v, rfl, q v H2 hv fun b o h => x2 b o (ne_of_none h hu) (s1 b o h)⟩
/-! ### _law_right -/
def spRight (K : PySem.W.Frag) : Sp := fun vs H Q _ => ∃ (v : V) (D : PyData), vs = [v] ∧ Dp K H v D ∧ Gd D ∧ ∀ H', Same H H' → Q (.bl true) H'
theorem c_pack (T : Txt w K mg) : Cal P w K mg base "pack" 101 ["value"] (spPack K 101) := by
  obtain ⟨fd, F, G, b⟩ := ok_pack (P := P) (base := base) T 101
  exact ⟨⟨fd, G, b⟩, T.g _ (by decide), F.kp⟩
theorem ne_no {A B : Prop} {a b : Str} (h : a = b) (q : B) : if (!decide (V.str a = V.str b)) = true then A else B := by
  rw [h, decide_eq_true rfl]
  exact iteF q
theorem ok_right (T : Txt w K mg) : ∃ fd, FnG P w K mg base CX0 107 (He.ga K "_law_right") fd ["_law_thing"] (spRight K) ∧ Binds K fd ["_law_thing"] [] := by
  obtain ⟨fd, F⟩ := T.d__law_right
  have C_pack := c_pack (P := P) (base := base) T
  have C__law_packed : Cal P w K mg base "_law_packed" 101 ["_law_thing"] (spPack K 101) := ⟨ok_packed T 101, T.g _ (by decide), by obtain ⟨fd, F⟩ := T.d__law_packed; exact F.kp⟩
  have C_pack_value : CalK P w K mg base "pack" 101 ["value"] ["value"] id (spPack K 101) := by
    obtain ⟨fd1, F2, G, b1⟩ := ok_pack (P := P) (base := base) T 101
    exact ⟨⟨fd1, _, G, kbn0 (g := id) (gV := id) F2 (fun _ _ _ _ _ _ ws hl => match ws, hl with | [_], _ => rfl) (fun r => r)⟩, T.g _ (by decide), F2.kp⟩
  have C_unpack : Cal P w K mg base "unpack" 106 ["text"] (spUnpack K) := by
    obtain ⟨fd, F2, G, b⟩ := ok_unpack (P := P) (base := base) T
    exact ⟨⟨fd, G, b⟩, T.g _ (by decide), F2.kp⟩
  have C_unpack_text : CalK P w K mg base "unpack" 106 ["text"] ["text"] id (spUnpack K) := by
    obtain ⟨fd, F2, G, b⟩ := ok_unpack (P := P) (base := base) T
    exact ⟨⟨fd, _, G, kbn0 (g := id) (gV := id) F2 (fun _ _ _ _ _ _ ws hl => match ws, hl with | [_], _ => rfl) (fun r => r)⟩, T.g _ (by decide), F2.kp⟩
  refine ⟨fd, fng_of (k := 106) F sc__law_right (fun vs H Q E h => ?_) (fun cdv A outer s H vs Q E hr hgd h => ?_), F.bindsN fun _ _ _ _ _ _ us hl => match us, hl with | [_], _ => rfl⟩
  · obtain ⟨v, D, rfl, _⟩ := h
    rfl
  obtain ⟨v, D, rfl, hv, g, q⟩ := h
  have hsh := shows g.ok
  have hd150 : D.depth ≤ 150 := Nat.le_trans g.dep (by decide)
  refine ⟨_, PSs.nox (pss_cons (ps_set (i := 1) sc__law_right.nd rfl (.inl rfl) (pe_cal C__law_packed (hr.mono (by omega)) (by rfl) (pa_cons (pv 0) pa_nil)))
      (pss_cons (ps_for PassesOwn.never rfl (pi_range1 (by rfl) T.n_range (pa_cons pe_int pa_nil)) (pg_name (i := 2) sc__law_right.nd rfl (.inl rfl)) (pss_cons (ps_set (i := 3) sc__law_right.nd rfl (.inl rfl) (pe_cal C_pack (hr.mono (by omega)) (by rfl) (pa_cons (pv 0) pa_nil)))
      (pss_cons (ps_if (PW.pt (pw_or (pt_not (pt_val (pe_callB call_isi (by rfl) T.n_isinstance (by decide +kernel) (pa_cons (pv 3) (pa_cons (pe_bltn (v := .ty "str") (u := .type "str") (by rfl) T.n_str (by decide +kernel) rfl) pa_nil))))) (pw_or (pt_cmpR op_ne (pv 3) (pv 1) (nomark _)) (pw_or1 (pt_cmpR op_ne (pe_calK C_pack_value (hr.mono (by omega)) (by rfl) (pk_cons (pv 0) pk_nil)) (pv 1) (nomark _)))))) (pss_one (ps_ret pe_bl)) pss_nil)
      (pss_one (ps_if (PW.pt (pw_or (pt_cmpR op_ne (pe_callB (id := "repr") (call_reprK (K := K) rfl hgd (hr.mono (Nat.zero_le _))) (by rfl) T.n_repr (by decide +kernel) (pa_cons (pe_cal C_unpack (hr.mono (by omega)) (by rfl) (pa_cons (pv 1) pa_nil)) pa_nil)) (pe_callB (id := "repr") (call_reprK (K := K) rfl hgd (hr.mono (Nat.zero_le _))) (by rfl) T.n_repr (by decide +kernel) (pa_cons (pv 0) pa_nil)) (nomark _)) (pw_or1 (pt_cmpR op_ne (pe_callB (id := "repr") (call_reprK (K := K) rfl hgd (hr.mono (Nat.zero_le _))) (by rfl) T.n_repr (by decide +kernel) (pa_cons (pe_calK C_unpack_text (hr.mono (by omega)) (by rfl) (pk_cons (pv 1) pk_nil)) pa_nil)) (pe_callB (id := "repr") (call_reprK (K := K) rfl hgd (hr.mono (Nat.zero_le _))) (by rfl) T.n_repr (by decide +kernel) (pa_cons (pv 0) pa_nil)) (nomark _))))) (pss_one (ps_ret pe_bl)) pss_nil)))))
      (pss_one (ps_ret pe_bl)))), ?_⟩
  refine ⟨v, rfl, v, D, rfl, hv, g.ok, g.dep, g.size, fun due H1 ed s1 => ?_⟩
  refine ⟨_, rfl, by decide, by decide, for_range (fun i σ H2 => ∃ x y, σ = [some v, some (.str due), x, y] ∧ Same H H2) ⟨none, none, rfl, s1⟩ ?_ ?_⟩
  · rintro i σ H2 hi ⟨x, y, rfl, s2⟩
    have hv2 := dp_mono s2 D v hv
    refine ⟨v, rfl, v, D, rfl, hv2, g.ok, g.dep, g.size, fun z3 H3 e3 s3 => ?_⟩
    have hv3 := dp_mono s3 D v hv2
    refine ⟨.str z3, rfl, .str z3, .ty "str", _, _, _, rfl, .ty _, dp_ty (.str z3), kit_ty (kit_str (.str z3)), _, rfl, iteF ?_⟩
    refine ⟨.str z3, rfl, .str due, rfl, rfl, _, rfl, ne_no (cp_ext (e3.trans ed.symm)) ?_⟩
    refine ⟨v, rfl, rfl, v, D, rfl, hv3, g.ok, g.dep, g.size, fun z4 H4 e4 s4 => ?_⟩
    have hv4 := dp_mono s4 D v hv3
    refine ⟨.str due, rfl, rfl, _, rfl, ne_no (cp_ext (e4.trans ed.symm)) ?_⟩
    refine ⟨.str due, rfl, due, D, rfl, ed, g, fun v5 H5 hv5 s5 => ?_⟩
    have hv55 := dp_mono s5 D v hv4
    refine ⟨v5, D, rfl, hv5, hsh, hd150, g.shl, v, rfl, v, D, rfl, hv55, hsh, hd150, g.shl, rfl, _, rfl, ne_no rfl ?_⟩
    refine ⟨.str due, rfl, rfl, due, D, rfl, ed, g, fun v6 H6 hv6 s6 => ?_⟩
    have hv66 := dp_mono s6 D v hv55
    refine ⟨v6, D, rfl, hv6, hsh, hd150, g.shl, v, rfl, v, D, rfl, hv66, hsh, hd150, g.shl, rfl, _, rfl, ne_no rfl ?_⟩
    exact ⟨_, _, rfl, s2.trans (s3.trans (s4.trans (s5.trans s6)))⟩
  · rintro σ H2 ⟨x, y, rfl, s2⟩
    exact q H2 s2
end
end K13

set_option maxHeartbeats 4000000
set_option pp.maxSteps 400
set_option pp.deepTerms.threshold 5
namespace K13
open PySem PySem.Spec PyProof.Rows L2 HG
/-! ### how many there are -/
theorem dd_two {α : Type} {f g : α → Str} (h : ∀ a b, f a = f b ↔ g a = g b) : ∀ (l l0 : List α), (((l.map f).foldl ddS (l0.map f)).length = ((l.map g).foldl ddS (l0.map g)).length)
  | [], l0 => by simp
  | v :: l, l0 => by
    rw [List.map_cons, List.map_cons, List.foldl_cons, List.foldl_cons]
    have e : f v ∈ l0.map f ↔ g v ∈ l0.map g := by
      rw [List.mem_map, List.mem_map]
      constructor
      · rintro ⟨a, ha, e⟩
        exact ⟨a, ha, (h a v).mp e⟩
      · rintro ⟨a, ha, e⟩
        exact ⟨a, ha, (h a v).mpr e⟩
    by_cases c : f v ∈ l0.map f
    · have e1 : ddS (l0.map f) (f v) = l0.map f := if_pos c
      have e2 : ddS (l0.map g) (g v) = l0.map g := if_pos (e.mp c)
      rw [e1, e2]
      exact dd_two h l l0
    · have e1 : ddS (l0.map f) (f v) = (l0 ++ [v]).map f := by rw [List.map_append]; exact if_neg c
      have e2 : ddS (l0.map g) (g v) = (l0 ++ [v]).map g := by rw [List.map_append]; exact if_neg fun z => c (e.mpr z)
      rw [e1, e2]
      exact dd_two h l (l0 ++ [v])
theorem dd_texts {ds : List PyData} {zs : List Str} (ok : ∀ d ∈ ds, okD d = true) (h : zs.map cp = ds.map pk) : (HG.dd zs).length = (HG.dd (ds.map PyData.shown)).length := by
  have ez : zs = ds.map fun d => (⟨(pk d).toArray⟩ : Str) := by
    have key : ∀ (zs : List Str) (ds : List PyData), zs.map cp = ds.map pk → zs = ds.map fun d => (⟨(pk d).toArray⟩ : Str) := by
      intro zs
      induction zs with
      | nil => intro ds h; cases ds with
        | nil => rfl
        | cons d ds => simp at h
      | cons z zs ih => intro ds h; cases ds with
        | nil => simp at h
        | cons d ds =>
          rw [List.map_cons, List.map_cons] at h
          injection h with h1 h2
          rw [List.map_cons, ← ih ds h2]
          congr 1
          refine cp_ext ?_
          rw [h1]
    exact key zs ds h
  -- on the good values
  have e1 : zs = (ds.attach).map fun d => (⟨(pk d.1).toArray⟩ : Str) := by
    rw [ez, ← List.attach_map_subtype_val ds, List.map_map]
    simp
  have e2 : ds.map PyData.shown = (ds.attach).map fun d => d.1.shown := by
    conv => lhs; rw [← List.attach_map_subtype_val ds, List.map_map]
    rfl
  rw [e1, e2]
  refine dd_two (f := fun d : { x // x ∈ ds } => (⟨(pk d.1).toArray⟩ : Str)) (g := fun d => d.1.shown) (fun a b => ?_) ds.attach []
  constructor
  · intro e
    have : pk a.1 = pk b.1 := by
      have := congrArg cp e
      simpa using this
    rw [pk_inj (ok _ a.2) (ok _ b.2) this]
  · intro e
    have := shown_inj (ok _ a.2) (ok _ b.2) e
    show (⟨(pk a.1).toArray⟩ : Str) = ⟨(pk b.1).toArray⟩
    rw [this]
/-! ### nested -/
def nest : Nat → PyData
  | 0 => .tuple []
  | n + 1 => .tuple [nest n]
theorem nest_ok : ∀ n, okD (nest n) = true ∧ (nest n).depth = n + 1 ∧ sz (nest n) = n + 1
  | 0 => by decide
  | n + 1 => by
    obtain ⟨a, b, c⟩ := nest_ok n
    refine ⟨?_, ?_, ?_⟩
    · simp only [nest, okD, okAll, a, Bool.and_self]
    · simp only [nest, PyData.depth, PyData.depthAll, b]
      omega
    · simp only [nest, sz, szAll, c]
      omega
theorem nest_gd {n : Nat} (h : n ≤ 99) : Gd (nest n) := by
  obtain ⟨a, b, c⟩ := nest_ok n
  exact ⟨a, by omega, by omega⟩
theorem Sz.gd {D : PyData} (h : Sz 4 D) : Gd D := ⟨h.ok, Nat.le_trans h.dep (by decide), Nat.le_trans h.size (by decide)⟩
theorem ok_of {ds : List PyData} (h : ∀ d ∈ ds, Gd d) : okAll ds = true := okAll_mem.mpr fun d hd => (h d hd).ok
section
variable {P : Program} {w : World} {K : PySem.W.Frag} {mg : Str → Option Value} {base : Heap}
def spLaw (K : PySem.W.Frag) : Sp := fun vs H Q _ => ∃ (a : Addr) (ns : List Int), vs = [.ref a] ∧ SqL K H a (ns.map V.int) ∧ ns.length ≤ 63 ∧ ∀ H', Q (.bl true) H'
theorem ok_law (T : Txt w K mg) {fd : FuncData} (F : FunD K "law" "law" (defArgs s_law) (defBody s_law) (defScope s_law) [] [] (He.ga K "law") fd) : FnG P w K mg base CX0 108 (He.ga K "law") fd ["_law_script"] (spLaw K) := by
  have C__law_deck : Cal P w K mg base "_law_deck" 1 ["_law_script"] (spDeck K) := ⟨ok_deck T, T.g _ (by decide), by obtain ⟨fd, F⟩ := T.d__law_deck; exact F.kp⟩
  have C__law_value : Cal P w K mg base "_law_value" 10 ["_law_deck_here", "_law_deep"] (spValue K 5) := ⟨ok_value T 5, T.g _ (by decide), by obtain ⟨fd, F⟩ := T.d__law_value; exact F.kp⟩
  have C__law_right : CalG P w K mg base "_law_right" 107 ["_law_thing"] (spRight K) := ⟨ok_right T, T.g _ (by decide), by obtain ⟨fd, F⟩ := T.d__law_right; exact F.kp⟩
  have C_pack := c_pack (P := P) (base := base) T
  refine fng_of (k := 107) F sc_law (fun vs H Q E h => ?_) (fun cdv A outer s H vs Q E hr hgd h => ?_)
  · obtain ⟨a, ns, rfl, _⟩ := h
    rfl
  obtain ⟨a, ns, rfl, hS, hn, q⟩ := h
  refine ⟨_, PSs.nox (pss_cons (ps_set (i := 1) sc_law.nd rfl (.inr rfl) (pe_cal C__law_deck (hr.mono (by omega)) (by rfl) (pa_cons (pv 0) pa_nil)))
      (pss_cons (ps_set (i := 2) sc_law.nd rfl (.inl rfl) (pe_op op_cat (pe_lc (own := [("_law_k", 5)]) (by rfl) sc_law.nd (pi_range1 (by rfl) T.n_range (pa_cons pe_int pa_nil)) (blkOk_by (own := [("_law_k", 5)]) (N := N_law) (sc := defScope s_law) (by decide +kernel)) (fun _ _ _ _ _ => (pg_name (i := 5) sc_law.nd rfl (.inl rfl))) (fun _ _ _ _ _ => pts_nil) (fun _ _ _ _ _ => (pe_cal C__law_value (hr.mono (by omega)) (by rfl) (pa_cons (pv 1) (pa_cons pe_int pa_nil))))) (pe_lst (pa_cons (pe_tup pa_nil) (pa_cons pe_str (pa_cons pe_int (pa_cons (pe_un un_neg pe_int) (pa_cons pe_bl (pa_cons pe_bl (pa_cons pe_non (pa_cons pe_int (pa_cons (pe_tup (pa_cons pe_int (pa_cons (pe_tup (pa_cons pe_bl (pa_cons (pe_tup (pa_cons pe_non pa_nil)) pa_nil))) (pa_cons pe_str pa_nil)))) pa_nil))))))))))))
      (pss_cons (ps_for PassesOwn.never rfl (pi_tup (pe_tup (pa_cons pe_int (pa_cons pe_int pa_nil)))) (pg_name (i := 3) sc_law.nd rfl (.inl rfl)) (pss_cons (ps_set (i := 4) sc_law.nd rfl (.inl rfl) (pe_tup pa_nil))
      (pss_cons (ps_for PassesOwn.never rfl (pi_range1 (by rfl) T.n_range (pa_cons (pe_op op_sub (pv 3) pe_int) pa_nil)) (pg_name (i := 5) sc_law.nd rfl (.inl rfl)) (pss_one (ps_set (i := 4) sc_law.nd rfl (.inl rfl) (pe_tup (pa_cons (pv 4) pa_nil)))))
      (pss_one (ps_expr (pe_bm PySem.F.plainAttrs_list PySem.F.slot_list_append PySem.F.type_list_append mt_append (pv 2) (pa_cons (pv 4) pa_nil)))))))
      (pss_cons (ps_if (pt_cmpR (op_neD hr.units) (pe_lc (own := [("_law_thing", 4)]) (by rfl) sc_law.nd (pi_list (pv 2)) (blkOk_by (own := [("_law_thing", 4)]) (N := N_law) (sc := defScope s_law) (by decide +kernel)) (fun _ _ _ _ _ => (pg_name (i := 4) sc_law.nd rfl (.inl rfl))) (fun _ _ _ _ _ => pts_one (pt_not (pt_val (pe_calG C__law_right (hr.mono (by omega)) hgd (by rfl) (pa_cons (pv 4) pa_nil))))) (fun _ _ _ _ _ => (pv 4))) (pe_lst pa_nil) (nomark _)) (pss_one (ps_ret pe_bl)) pss_nil)
      (pss_cons (ps_par (i := 6) (j := 7) rfl sc_law.nd rfl rfl (by decide) rfl rfl (pa_cons (pe_lc (own := [("_law_thing", 4)]) (by rfl) sc_law.nd (pi_list (pv 2)) (blkOk_by (own := [("_law_thing", 4)]) (N := N_law) (sc := defScope s_law) (by decide +kernel)) (fun _ _ _ _ _ => (pg_name (i := 4) sc_law.nd rfl (.inl rfl))) (fun _ _ _ _ _ => pts_nil) (fun _ _ _ _ _ => (pe_cal C_pack (hr.mono (by omega)) (by rfl) (pa_cons (pv 4) pa_nil)))) (pa_cons (pe_lc (own := [("_law_thing", 4)]) (by rfl) sc_law.nd (pi_list (pv 2)) (blkOk_by (own := [("_law_thing", 4)]) (N := N_law) (sc := defScope s_law) (by decide +kernel)) (fun _ _ _ _ _ => (pg_name (i := 4) sc_law.nd rfl (.inl rfl))) (fun _ _ _ _ _ => pts_nil) (fun _ _ _ _ _ => (pe_callB (id := "repr") (call_reprK (K := K) rfl hgd (hr.mono (Nat.zero_le _))) (by rfl) T.n_repr (by decide +kernel) (pa_cons (pv 4) pa_nil)))) pa_nil)) (by rfl))
      (pss_one (ps_ret (pe_cmpR op_eq (pe_lenSetS rfl (by rfl) T.n_len (by rfl) T.n_set (pv 6)) (pe_lenSetS rfl (by rfl) T.n_len (by rfl) T.n_set (pv 7)) (nomark _))))))))), ?_⟩
  refine ⟨.ref a, rfl, a, ns, rfl, hS, hn, fun d c H1 hd hc s1 dk => ?_⟩
  -- forty values
  refine ⟨40, rfl, by decide, by decide, fun D hD => ?_⟩
  have nd := dk.has hD
  refine lc_range (lo := 0) (n := (40 : Int).toNat) (fun i H3 => ∃ vs ds, vs.length = i ∧ H3 D = some (.lst vs) ∧ DpAll K H3 vs ds ∧ (∀ e ∈ ds, Gd e) ∧ Deck d c (i * (60 * 5 ^ 4)) H3 ∧ Ext d c H1 H3) ?_ ?_ ?_
  · exact ⟨[], [], rfl, upd_same, .nil, (fun _ h => nomatch h), by rw [Nat.zero_mul]; exact dk.new hD, Ext.new hD⟩
  · rintro i H3 hi ⟨vs, ds, hl, hD3, hA, hsz, dk3, X3⟩
    have hi2 : i < 40 := hi
    have hib : i * (60 * 5 ^ 4) + 60 * 5 ^ 4 < 2 ^ 60 := by
      have : i * (60 * 5 ^ 4) ≤ 40 * (60 * 5 ^ 4) := Nat.mul_le_mul_right _ (by omega)
      omega
    refine ⟨rfl, tyes ⟨.ref d, rfl, d, c, i * (60 * 5 ^ 4), 4, rfl, by decide, hib, dk3, fun v D2 H4 hv hz dk4 X4 => ?_⟩⟩
    have hD4 := X4.at nd.1 nd.2 hD3
    have sT : SameT H4 (upd H4 D (.lst (vs ++ [v]))) := SameT.put hD4 rfl
    refine ⟨vs, hD4, small1000 (by omega), vs ++ [v], ds ++ [D2], by rw [List.length_append, hl]; rfl, upd_same, dpAll_app (dpAll_T ((Ext.T dk3 X4).trans sT) _ _ (ok_of hsz) hA) (.cons (dp_T sT _ _ hz.ok hv) .nil), fun e he => ?_, ?_, (X3.trans X4).mut hD⟩
    · rcases List.mem_append.mp he with z | z
      · exact hsz e z
      · rw [List.mem_singleton.mp z]
        exact hz.gd
    · rw [Nat.add_mul, Nat.one_mul]
      exact dk4.upd nd.1 nd.2
  rintro H3 ⟨vs, ds, hl, hD3, hA, hsz, dk3, X3⟩
  have hl40 : vs.length = 40 := hl
  -- the fixed ones
  refine ⟨Nat.zero_le _, fun t1 ht1 => ⟨1, rfl, (by show 1 ≤ sizeLine; decide), fun t2 ht2 => ⟨(by show 2 ≤ sizeLine; decide), fun t3 ht3 => ⟨(by show 3 ≤ sizeLine; decide), fun t4 ht4 => ⟨(by show 9 ≤ sizeLine; decide), fun l hl1 => ?_⟩⟩⟩⟩⟩
  have g1 : (upd (upd (upd (upd H3 t1 (.tup [])) t2 (.tup [.non])) t3 (.tup [.bl true, .ref t2])) t4 (.tup [.int 1, .ref t3, .str "(("])) t1 = some (.tup []) := upd_get ht4 (upd_get ht3 (upd_get ht2 upd_same))
  have g2 : (upd (upd (upd (upd H3 t1 (.tup [])) t2 (.tup [.non])) t3 (.tup [.bl true, .ref t2])) t4 (.tup [.int 1, .ref t3, .str "(("])) t2 = some (.tup [.non]) := upd_get ht4 (upd_get ht3 upd_same)
  have g3 : (upd (upd (upd (upd H3 t1 (.tup [])) t2 (.tup [.non])) t3 (.tup [.bl true, .ref t2])) t4 (.tup [.int 1, .ref t3, .str "(("])) t3 = some (.tup [.bl true, .ref t2]) := upd_get ht4 upd_same
  have g4 : (upd (upd (upd (upd H3 t1 (.tup [])) t2 (.tup [.non])) t3 (.tup [.bl true, .ref t2])) t4 (.tup [.int 1, .ref t3, .str "(("])) t4 = some (.tup [.int 1, .ref t3, .str "(("]) := upd_same
  have s4 : Same H3 (upd (upd (upd (upd H3 t1 (.tup [])) t2 (.tup [.non])) t3 (.tup [.bl true, .ref t2])) t4 (.tup [.int 1, .ref t3, .str "(("])) := fun b o h => upd_get ht4 (upd_get ht3 (upd_get ht2 (upd_get ht1 h)))
  generalize upd (upd (upd (upd H3 t1 (.tup [])) t2 (.tup [.non])) t3 (.tup [.bl true, .ref t2])) t4 (.tup [.int 1, .ref t3, .str "(("]) = H4 at g1 g2 g3 g4 s4 hl1 ⊢
  have hA4 := dpAll_mono s4 _ _ hA
  have hD4 := s4 _ _ hD3
  have fx : DpAll K H4 [.ref t1, .str "", .int 0, .int (-1), .bl true, .bl false, .non, .int 1, .ref t4] [.tuple [], .str "", .int 0, .int (-1), .bool true, .bool false, .none, .int 1, .tuple [.int 1, .tuple [.bool true, .tuple [.none]], .str "(("]] :=
    .cons (.tup (.inl (.inl g1)) .nil) (.cons (.str _) (.cons (.int _) (.cons (.int _) (.cons (.bl _) (.cons (.bl _) (.cons .non (.cons (.int _) (.cons (.tup (.inl (.inl g4)) (.cons (.int _) (.cons (.tup (.inl (.inl g3)) (.cons (.bl _) (.cons (.tup (.inl (.inl g2)) (.cons .non .nil)) .nil))) (.cons (.str _) .nil)))) .nil))))))))
  have fg : ∀ e ∈ [PyData.tuple [], .str "", .int 0, .int (-1), .bool true, .bool false, .none, .int 1, .tuple [.int 1, .tuple [.bool true, .tuple [.none]], .str "(("]], Gd e := by
    intro e he
    simp only [List.mem_cons, List.not_mem_nil, or_false] at he
    rcases he with rfl | rfl | rfl | rfl | rfl | rfl | rfl | rfl | rfl <;> exact ⟨by decide +kernel, by decide +kernel, by decide +kernel⟩
  generalize eL : ([.ref t1, .str "", .int 0, .int (-1), .bl true, .bl false, .non, .int 1, .ref t4] : List V) = fv at fx ⊢
  have hfv : fv.length = 9 := by rw [← eL]; rfl
  generalize ([PyData.tuple [], .str "", .int 0, .int (-1), .bool true, .bool false, .none, .int 1, .tuple [.int 1, .tuple [.bool true, .tuple [.none]], .str "(("]] : List PyData) = fd at fx fg
  have gl : (upd H4 l (.lst fv)) l = some (.lst fv) := upd_same
  have s5 : Same H4 (upd H4 l (.lst fv)) := fun b o h => upd_get hl1 h
  generalize upd H4 l (.lst fv) = H5 at gl s5 ⊢
  have hD5 := s5 _ _ hD4
  refine ⟨D, l, vs, fv, rfl, rfl, hD5, gl, Nat.le_trans (show vs.length + fv.length ≤ 49 by omega) (by decide), fun p hp => ?_⟩
  have hAll : DpAll K (upd H5 p (.lst (vs ++ fv))) (vs ++ fv) (ds ++ fd) := dpAll_mono (fun b o h => upd_get hp h) _ _ (dpAll_mono s5 _ _ (dpAll_app hA4 fx))
  have gp : (upd H5 p (.lst (vs ++ fv))) p = some (.lst (vs ++ fv)) := upd_same
  have gAll : ∀ e ∈ ds ++ fd, Gd e := fun e he => (List.mem_append.mp he).elim (hsz e) (fg e)
  have hlen : (vs ++ fv).length = 49 := by rw [List.length_append]; omega
  generalize upd H5 p (.lst (vs ++ fv)) = H6 at hAll gp ⊢
  generalize vs ++ fv = ws at hAll gp hlen ⊢
  generalize ds ++ fd = es at hAll gAll
  -- for many in (99, 100)
  refine ⟨(by show 2 ≤ sizeLine; decide), fun tp htp => ⟨tp, rfl, ⟨_, .inl (.inl upd_same)⟩, ?_⟩⟩
  have gp7 := upd_get (o := .tup [.int 99, .int 100]) htp gp
  have hAll7 : DpAll K (upd H6 tp (.tup [.int 99, .int 100])) ws es := dpAll_mono (fun b o h => upd_get htp h) _ _ hAll
  have gtp : (upd H6 tp (.tup [.int 99, .int 100])) tp = some (.tup [.int 99, .int 100]) := upd_same
  generalize upd H6 tp (.tup [.int 99, .int 100]) = H7 at gp7 hAll7 gtp ⊢
  refine for_tup (xs := [.int 99, .int 100]) (fun i σ H8 => ∃ ws es x y z, σ = [some (.ref a), some (.ref d), some (.ref p), x, y, z, none, none] ∧ H8 p = some (.lst ws) ∧ DpAll K H8 ws es ∧ (∀ e ∈ es, Gd e) ∧ ws.length = 49 + i ∧ H8 tp = some (.tup [.int 99, .int 100]))
    ⟨ws, es, none, none, none, rfl, gp7, hAll7, gAll, hlen, gtp⟩ ?_ ?_ ?_
  · rintro i σ H8 _ ⟨ws, es, x, y, z, rfl, _, _, _, _, gt⟩
    exact .inl (.inl gt)
  · rintro i many σ H8 hx ⟨ws, es, x, y, z, rfl, hp8, hA8, hg8, hl8, ht8⟩
    obtain ⟨mn, rfl, hmn⟩ : ∃ mn : Nat, many = .int ((mn + 1 : Nat) : Int) ∧ mn ≤ 99 := by
      have hm := List.mem_of_getElem? hx
      simp only [List.mem_cons, List.not_mem_nil, or_false] at hm
      rcases hm with rfl | rfl
      · exact ⟨98, rfl, by decide⟩
      · exact ⟨99, rfl, by decide⟩
    have hi2 : i < 2 := (List.getElem?_eq_some_iff.mp hx).1
    -- thing = ()
    refine ⟨Nat.zero_le _, fun q0 hq0 => ?_⟩
    refine ⟨.int ((mn + 1 : Nat) : Int), rfl, _, _, rfl, rfl, ((mn + 1 : Nat) : Int) - 1, rfl, by omega, by omega, for_range (lo := 0) (n := (((mn + 1 : Nat) : Int) - 1).toNat) (fun j σ H9 => ∃ v x z, σ = [some (.ref a), some (.ref d), some (.ref p), x, some v, z, none, none] ∧ Dp K H9 v (nest j) ∧ Same H8 H9) ?_ ?_ ?_⟩
    · exact ⟨.ref q0, _, _, rfl, .tup (.inl (.inl upd_same)) .nil, fun b o h => upd_get hq0 h⟩
    · rintro j σ H9 hj ⟨v, x, z, rfl, hv, s9⟩
      refine ⟨v, rfl, (by show 1 ≤ sizeLine; decide), fun q1 hq1 => ?_⟩
      refine ⟨.ref q1, _, _, rfl, .tup (.inl (.inl upd_same)) (.cons (dp_mono (fun b o h => upd_get hq1 h) _ _ hv) .nil), fun b o h => upd_get hq1 (s9 _ _ h)⟩
    · rintro σ H9 ⟨v, x, z, rfl, hv, s9⟩
      have e2 : (((mn + 1 : Nat) : Int) - 1).toNat = mn := by omega
      rw [e2] at hv
      have hp9 := s9 _ _ hp8
      have sP : SameT H9 (upd H9 p (.lst (ws ++ [v]))) := SameT.put hp9 rfl
      have ntp : tp ≠ p := fun h => by rw [h, hp8] at ht8; cases ht8
      refine ⟨.ref p, rfl, .inl ⟨rfl, _, .inl (.inl hp9)⟩, v, rfl, p, ws, v, rfl, rfl, hp9, Nat.lt_of_le_of_lt (show ws.length ≤ 60 by omega) (by decide), ?_⟩
      refine ⟨ws ++ [v], es ++ [nest mn], _, _, _, rfl, upd_same, ?_, ?_, by rw [List.length_append, hl8]; rfl, by rw [upd_ne ntp]; exact s9 _ _ ht8⟩
      · exact dpAll_app (dpAll_T sP _ _ (ok_of hg8) (dpAll_mono s9 _ _ hA8)) (.cons (dp_T sP _ _ (nest_ok mn).1 hv) .nil)
      · intro e he
        rcases List.mem_append.mp he with h | h
        · exact hg8 e h
        · rw [List.mem_singleton.mp h]
          exact nest_gd hmn
  rintro σ H8 ⟨ws, es, x, y, z, rfl, hp8, hA8, hg8, hl8, _⟩
  have hl51 : ws.length = 51 := hl8
  have hle := dpAll_len hA8
  -- [thing for thing in some if not right(thing)] != []
  refine ⟨.ref p, rfl, p, rfl, ⟨_, .inl (.inl hp8)⟩, fun D1 hD1 => ?_⟩
  refine lc_list (xs := ws) (fun i H9 => H9 D1 = some (.lst []) ∧ Same H8 H9) ⟨upd_same, fun b o h => upd_get hD1 h⟩ ?_ ?_ ?_
  · rintro i H9 _ ⟨_, s9⟩
    exact .inl (.inl (s9 _ _ hp8))
  · rintro i x H9 hx ⟨hd9, s9⟩
    obtain ⟨e, he, hxe⟩ := dpAll_get hA8 hx
    refine ⟨rfl, x, rfl, x, e, rfl, dp_mono s9 _ _ hxe, hg8 e (List.mem_of_getElem? he), fun H10 s10 => ⟨_, rfl, ?_⟩⟩
    exact iteF ⟨s10 _ _ hd9, s9.trans s10⟩
  rintro H9 ⟨hd9, s9⟩
  refine ⟨Nat.zero_le _, fun p1 hp1 => ?_⟩
  refine ⟨.list [], .list [], .lst (.inl (.inl (upd_get hp1 hd9))) .nil, .lst (.inl (.inl upd_same)) .nil, shaped_ints [], shaped_ints [], _, rfl, iteF ?_⟩
  have s10 : Same H8 (upd H9 p1 (.lst [])) := fun b o h => upd_get hp1 (s9 _ _ h)
  generalize upd H9 p1 (.lst []) = H10 at s10 ⊢
  have hp10 := s10 _ _ hp8
  have hA10 := dpAll_mono s10 _ _ hA8
  -- the texts
  refine ⟨.ref p, rfl, p, rfl, ⟨_, .inl (.inl hp10)⟩, fun D2 hD2 => ?_⟩
  refine lc_list (xs := ws) (fun i H11 => ∃ zs : List Str, zs.map cp = (es.take i).map pk ∧ H11 D2 = some (.lst (zs.map V.str)) ∧ Same H10 H11) ⟨[], rfl, upd_same, fun b o h => upd_get hD2 h⟩ ?_ ?_ ?_
  · rintro i H11 _ ⟨_, _, _, s11⟩
    exact .inl (.inl (s11 _ _ hp10))
  · rintro i x H11 hx ⟨zs, ez, hz, s11⟩
    obtain ⟨e, he, hxe⟩ := dpAll_get hA10 hx
    have g := hg8 e (List.mem_of_getElem? he)
    refine ⟨rfl, tyes ⟨x, rfl, x, e, rfl, dp_mono s11 _ _ hxe, g.ok, g.dep, g.size, fun t H12 et s12 => ?_⟩⟩
    have hlz : zs.length ≤ i := by
      have := congrArg List.length ez
      rw [List.length_map, List.length_map, List.length_take] at this
      omega
    have hi : i < ws.length := (List.getElem?_eq_some_iff.mp hx).1
    refine ⟨_, s12 _ _ hz, ?_, zs ++ [t], ?_, ?_, ?_⟩
    · rw [List.length_map]
      exact small1000 (by omega)
    · rw [List.map_append, ez, List.take_add_one, he, List.map_append, List.map_cons, List.map_nil, et]
      rfl
    · rw [upd_same, List.map_append]
      rfl
    · intro b o h
      rw [upd_ne (ne_of_none h hD2)]
      exact s12 _ _ (s11 _ _ h)
  rintro H11 ⟨zs, ez, hz, s11⟩
  rw [hle, List.take_length] at ez
  have hp11 := s11 _ _ hp10
  have hA11 := dpAll_mono s11 _ _ hA10
  -- what repr shows
  refine ⟨.ref p, rfl, p, rfl, ⟨_, .inl (.inl hp11)⟩, fun D3 hD3 => ?_⟩
  refine lc_list (xs := ws) (fun i H12 => H12 D3 = some (.lst (((es.take i).map PyData.shown).map V.str)) ∧ Same H11 H12) ⟨upd_same, fun b o h => upd_get hD3 h⟩ ?_ ?_ ?_
  · rintro i H12 _ ⟨_, s12⟩
    exact .inl (.inl (s12 _ _ hp11))
  · rintro i x H12 hx ⟨h12, s12⟩
    obtain ⟨e, he, hxe⟩ := dpAll_get hA11 hx
    have g := hg8 e (List.mem_of_getElem? he)
    have hi : i < ws.length := (List.getElem?_eq_some_iff.mp hx).1
    refine ⟨rfl, tyes ⟨x, rfl, x, e, rfl, dp_mono s12 _ _ hxe, shows g.ok, Nat.le_trans g.dep (by decide), g.shl, _, h12, ?_, ?_, ?_⟩⟩
    · rw [List.length_map, List.length_map]
      exact small1000 (Nat.le_trans (List.length_take_le' _ _) (by omega))
    · rw [upd_same, List.take_add_one, he, List.map_append, List.map_append]
      rfl
    · intro b o h
      rw [upd_ne (ne_of_none h hD3)]
      exact s12 _ _ h
  rintro H12 ⟨h12, s12⟩
  rw [hle, List.take_length] at h12
  refine ⟨_, _, rfl, ?_⟩
  have hlz : zs.length = es.length := by
    have := congrArg List.length ez
    rw [List.length_map, List.length_map] at this
    exact this
  refine ⟨.ref D2, rfl, D2, zs, rfl, .inl (.inl (s12 _ _ hz)), by omega, .ref D3, rfl, D3, es.map PyData.shown, rfl, .inl (.inl h12), by rw [List.length_map]; omega, rfl, ?_⟩
  have e := dd_texts (fun d hd => (hg8 d hd).ok) ez
  have e2 : decide (V.int ((HG.dd zs).length : Int) = V.int ((HG.dd (es.map PyData.shown)).length : Int)) = true := decide_eq_true (by rw [e])
  show Q (.bl (decide (V.int ((HG.dd zs).length : Int) = V.int ((HG.dd (es.map PyData.shown)).length : Int)))) H12
  rw [e2]
  exact q H12
end
end K13

set_option maxHeartbeats 0
open PySem PySem.W PySem.Calls PyProof.Rows
theorem PySem.Challenge.cw_wholeapart_k13_packed_values_holds : PySem.Challenge.rw_wholeapart_k13_packed_values.Holds := by
  w_on; o_law
  refine HandSHeadRun.head_any (r := OpenLaw.row PySem.Challenge.rw_wholeapart_k13_packed_values) (q := view (OpenLaw.row PySem.Challenge.rw_wholeapart_k13_packed_values).prog [20]) (H := K13.hk) (ob := K13.ob) (M := 3000) (loose := K13.loose) (d := HandSHeadRun.topDef (OpenLaw.row PySem.Challenge.rw_wholeapart_k13_packed_values).prog 20) (kwd := []) K13.ob_eq
    (by kernel_rfl) (fun s => by kernel_rfl) K13.run (by kernel_rfl) (by kernel_rfl) (by kernel_rfl) (by rfl) (by first | assumption | decide +kernel) (by decide +kernel) ⟨rfl, rfl, rfl, rfl, rfl, by decide +kernel⟩ ?hw ?hc
  case hw => w_witness2
  case hc =>
    refine HG.walkG (l := PySem.Challenge.rw_wholeapart_k13_packed_values) (n := 63) (k := 108) (x := "_law_script") (CX := L2.CX0) rfl (by decide) (by kernel_rfl) ⟨rfl, by decide, by decide⟩ ?F (fun _ _ _ _ z => z)
    intro w mg fa h Y G hmg0
    obtain ⟨K, KX, c⟩ := Y
    have hmg : mg ("law" : PySem.Str) = some (.ref fa) := by
      have e : (HandSHeadRun.topDef (OpenLaw.row PySem.Challenge.rw_wholeapart_k13_packed_values).prog 20).name = ("law" : PySem.Str) := by kernel_rfl
      rw [← e]
      exact hmg0
    have T := K13.txt KX G c
    have efa : fa = He.ga K "law" := by
      have e := hmg.symm.trans (T.g "law" (by decide))
      cases e
      rfl
    subst efa
    obtain ⟨fd, F⟩ := T.d_law
    refine ⟨K, fd, K13.spLaw K, KX, fun s u => (L2.FunD.bindsA (ps := ["_law_script"]) F fun _ _ _ _ _ _ us hl => match us, hl with | [_], _ => rfl) s [u] rfl, fun H a ns hl _ _ hS => ⟨a, ns, rfl, hS, hl, fun _ => rfl⟩, fun base _ _ => ?_⟩
    exact K13.ok_law T F
