import PyProof.Rows.All
import Wide.All
import OpenK.AllK
import Wide.FinOn
import HandS.ForMost
import HandS.IsInst
import HandS.WideBits
import HandS.Wide
import HandS.Walk
import HandS.Style
import HandS.Flow
import PyProof.ReprRoads
import HandS.Codes
import HandS.Defaults
import HandS.More
import PySem.Challenge.RW_cutshows_k18_basics
set_option Elab.async false
set_option linter.all false
set_option maxRecDepth 100000
set_option maxHeartbeats 4000000
/-! G1: defs whose promise may lean on the absence of guards (for repr); the call of such a def; the end of a law's row; repr of data. -/
namespace GG
open PySem L2 PySem.Spec PyProof.Rows

abbrev NoG (A : Around) : Prop := A.guards = some []

structure FnG (P : Program) (w : World) (K : PySem.W.Frag) (mg : Str → Option Value) (base : Heap)
    (CX : CXT) (k : Nat) (f : Addr) (fd : FuncData) (ps : List Str) (sp : Sp) : Prop where
  size : ∀ vs H Q E, sp vs H Q E → vs.length = ps.length
  go : ∀ (A : Around) (out : List Env) (s : Shared) (H : Hp) (args : Args) (us : List Value)
    (vs : List V) (Q : VK) (E : XK), Room k A → NoG A → Env0 P w K mg base A out s H →
    BindsTo s fd args (ps.zip us) → Vals vs us → sp vs H Q E →
    codeAny (model P w) A (.call (.ref f) args) (CR CX out P w H s Q E) s

theorem FnG.plain {P : Program} {w : World} {K : PySem.W.Frag} {mg : Str → Option Value} {base : Heap}
    {CX : CXT} {k : Nat} {f : Addr} {fd : FuncData} {ps : List Str} {sp : Sp}
    (F : FnOk P w K mg base CX k f fd ps sp) : FnG P w K mg base CX k f fd ps sp :=
  ⟨F.len, fun A out s H args us vs Q E hr _ e0 hb hv h => F.run A out s H args us vs Q E hr e0 hb hv h⟩

theorem FnG.ofFun {P : Program} {w : World} {K : PySem.W.Frag} {mg : Str → Option Value} {base : Heap}
    {x qual : Str} {st : Stmt} {f : Addr} {fd : FuncData} {N ps : List Str} {k : Nat} {sp : Sp}
    (F : Fun K x qual st f fd) (S : FnScope N ps (defScope st))
    (size : ∀ vs H Q E, sp vs H Q E → vs.length = ps.length)
    (body : ∀ (cdv : Value) (A : Around) (out : List Env) (s : Shared) (H : Hp) (vs : List V) (Q : VK) (E : XK),
      NoG A → Room k (A.deeper (envOfC qual (defScope st) s.heap.objs.size f cdv)) → sp vs H Q E →
      ∃ t, PSs (cxOf CX0 P w K mg base N qual (defScope st) f cdv A out s H E).nox (defBody st) t ∧
        t { nx := fun _ H' => Q .non H', rt := Q } (start N vs) H) :
    FnG P w K mg base CX0 (k + 1) f fd ps sp := by
  obtain ⟨oc, od, kV, doc, pm, an, cdv, ct, osl, rfl, lk, hcd⟩ := F.ex
  refine ⟨size, fun A out s H args us vs Q E hr hg e0 hb r hsp => ?_⟩
  have hz := size _ _ _ _ hsp
  have KX : K.In s.heap := e0.mod.kin.keeps fun b o q => (e0.bs b o q).1
  have lim : s.heap.NoLimit := e0.mod.nolimit.keeps fun b o q => (e0.bs b o q).1
  have hkind : ∀ y ∈ ps.zip us, (defScope st).names.lookup y.1 = some .local ∨
      ((defScope st).names.lookup y.1 = some .cell ∧
        ((cellsFrom (s.heap.objs.size + 1) (defScope st).names []).lookup y.1).isSome = true) := by
    rintro ⟨n, v⟩ hy
    rcases S.par n (List.of_mem_zip hy).1 with q | q
    · exact Or.inl q
    · exact Or.inr ⟨q, PySem.W.cellsFrom_some _ _ _ (Or.inl q)⟩
  refine codeAny_call_function hr.depth (KX _ _ lk) rfl S.co S.gen rfl
    (PySem.W.codeRec_of KX hcd) (hb _ _ _ _ ?_)
  refine wpAny_newFunctionEnv_cells S.kind hkind fun env he s1 x => ?_
  subst he
  refine ⟨lim.keeps x.toInCall.keep, codeAny_func ?_⟩
  obtain ⟨t, ht0, hq⟩ := body cdv A out s H vs Q E hg (hr.deeper _) hsp
  have ht := ht0.nox
  have I : Inv (cxOf CX0 P w K mg base N qual (defScope st) f cdv A out s H E) [] (start N vs) H s1 :=
    inv_start S hr.hd e0 hz r x
  refine wpAny_mono (ht.run [] s1 (start N vs) H _ I hq) (fun fl s' hs => ?_) (fun e s' hs => hs)
  have fin : ∀ {σ' : L2.St} {H' : Hp} {v : V} {u : Value},
      Inv (cxOf CX0 P w K mg base N qual (defScope st) f cdv A out s H E) [] σ' H' s' →
      RelV v u → Q v H' → CE out P w H s Q u s' :=
    fun {σ' H' v u} J rv q => ⟨v, H', J.os, J.bare, J.base, J.hok, rv, q⟩
  cases fl with
  | ret u =>
    obtain ⟨v, σ', H', J, rv, q⟩ := hs
    exact fin J rv q
  | next =>
    obtain ⟨σ', H', J, q⟩ := hs
    exact fin (v := V.non) (u := Value.none) J rfl q
  | brk =>
    obtain ⟨_, _, _, q⟩ := hs
    exact q.elim
  | cont =>
    obtain ⟨_, _, _, q⟩ := hs
    exact q.elim

section
variable {X : Cx} {CX : CXT} {k : Nat} {f C : Addr} {fd : FuncData} {ps : List Str} {sp : Sp}
  {dvs : List V} {ds : List Value} {E : XK} {x m : Str} {p pos apos : Pos} {e o : Expr} {es : List Expr}
  {ta : TE} {t : TA}
theorem run_g {pins : List (Addr × Obj)} {σ : L2.St} {H : Hp} {s : Shared} {Q : VK} {us : List Value} {vs : List V}
    (F : FnG X.prog X.w X.K X.mg X.base CX k f fd ps sp) (hr : Room k X.A) (hg : NoG X.A)
    (hb : Binds X.K fd ps ds) (hd : Vals dvs ds) (hx : Passes CX X E)
    (I : Inv X pins σ H s) (r : Vals vs us) (h : sp (vs ++ dvs) H Q E) :
    wpAny (model X.prog X.w) X.A (call (.ref f) us) (EP X pins σ Q) X.xe s := by
  have r2 : Vals (vs ++ dvs) (us ++ ds) := Vals.append r hd
  have hl : (us ++ ds).length = ps.length := by
    rw [← r2.length]
    exact F.size _ _ _ _ h
  refine wpAny_call (codeAny_mono (F.go X.A X.stack s H ⟨us, []⟩ (us ++ ds) (vs ++ dvs) Q E hr hg
    I.env0 (hb s us I.kIn hl) r2 h) fun r s' hq => ?_)
  cases r with
  | error e => exact hx pins σ H s e s' I hq
  | ok fl =>
    cases fl with
    | ret u => exact Inv.after I hq
    | next => exact hq.elim
    | brk => exact hq.elim
    | cont => exact hq.elim
theorem pe_callG (F : FnG X.prog X.w X.K X.mg X.base CX k f fd ps sp) (hr : Room k X.A) (hg : NoG X.A)
    (gl : Gl X x) (hm : X.mg x = some (.ref f)) (hk : PySem.W.keepIn X.K (.ref f) = true)
    (hb : Binds X.K fd ps ds) (hd : Vals dvs ds) (hx : Passes CX X E)
    (ha : PA X (e :: es) t) (hdb : (x == ("__debug__" : Str)) = false := by decide)
    (he : starEach (e :: es) X.env = (false, eval e X.env) :: starEach es X.env := by rfl)
    (hpl : (backTo pos (starEach es X.env)).any (·.1) = false := by rfl) :
    PE X (.Call (.Name x p) (e :: es) [] pos) (tCall sp dvs E t) := by
  refine ⟨fun pins s σ H Q I h => ?_⟩
  refine wpAny_Call_Name_kw (ld_glob I gl hm ?_ hdb)
  refine PySem.W.callWith_K (h₀ := X.base) I.ok.mod.kin hk
    (thn (ha.run pos pins s σ H _ I h) fun us s1 ⟨vs, H1, I1, r, q⟩ => ⟨I1.kIn, ?_⟩) he hpl
  exact run_g F hr hg hb hd hx I1 r q
end

/-! ### repr of data -/
/-- the text of data, closed to reckoning -/
@[irreducible] def shownI (d : PyData) : Str := d.shown
theorem shownI_eq (d : PyData) : shownI d = d.shown := by
  unfold shownI
  rfl
def rRepr (K : PySem.W.Frag) : List V → Hp → VK → Prop := fun xs H Q =>
  ∃ (x : V) (d : PyData), xs = [x] ∧ Dp K H x d ∧ d.showable = true ∧ d.hasDict = false ∧ d.depth ≤ 60 ∧
    d.shown.length ≤ sizeLine ∧ Q (.str (shownI d)) H
section
variable {X : Cx}
theorem call_repr_data (hg : NoG X.A) (hu : X.A.units + 64 < cLine) :
    CallR X (.builtin "repr") (rRepr X.K) := by
  intro pins s σ H xs us Q I r h
  obtain ⟨x, d, rfl, hd, hs, hn, hz, hl, q⟩ := h
  rw [shownI_eq] at q
  obtain ⟨u, rfl, ru⟩ := vals1 r
  obtain ⟨as, rd⟩ := Dp.reads I d x u hd ru
  have fin : ∀ (h' : Heap) (tk : Tok) (n : Nat), (∀ b o, s.heap.get? b = some o → h'.get? b = some o) →
      EP X pins σ Q (.str d.shown tk) { s with heap := h', toks := n } := fun h' tk n hk =>
    ⟨.str d.shown, H, I.kept (t' := n) hk, ⟨tk, rfl⟩, q⟩
  cases rd with
  | none => exact P.repr_of_none (fin s.heap _ _ fun _ _ z => z)
  | bool b => exact P.repr_of_bool (fin s.heap _ _ fun _ _ z => z)
  | int i t =>
    refine P.repr_of_int ?_ (fin s.heap _ _ fun _ _ z => z)
    have : decide (i.natAbs.log2 < 1920) = true := by simpa [PyData.showable] using hs
    exact of_decide_eq_true this
  | str y t => exact P.repr_of_str (fin s.heap _ _ fun _ _ z => z) hl
  | list h1 h2 h3 h4 =>
    refine repr_of_reads' (.list h1 h2 h3 h4) hs (fun z => ?_) hg (by omega) (fun _ _ z => z) (fun h' u tk hk => fin h' u tk hk) hl
    rw [hn] at z
    cases z
  | tuple h1 h2 h3 h4 =>
    refine repr_of_reads' (.tuple h1 h2 h3 h4) hs (fun z => ?_) hg (by omega) (fun _ _ z => z) (fun h' u tk hk => fin h' u tk hk) hl
    rw [hn] at z
    cases z
  | dict h1 h2 h3 h4 h5 =>
    simp [PyData.hasDict] at hn
end
end GG
/-! G2: the end of a law's row by a promise of the kind FnG. -/
namespace GG
open PySem L2 PySem.Spec PyProof.Rows

/-- from an abstract heap that tracks at most the script -/
theorem callG_at {P : Program} {w : World} {K : PySem.W.Frag} {mg mb : Str → Option Value} {k : Nat} {fa a : Addr}
    {fd : FuncData} {x : Str} {sp : Sp} {s₁ : Shared} {vs : List Value} {H : Hp}
    (KX : K.In s₁.heap) (hns : s₁.heap.Ns mainGlobals mg) (hb : s₁.heap.Ns builtinsNs mb)
    (hbb : ∀ x : Str, x ≠ "__name__" → mb x = bootBuiltins x) (hlim : s₁.heap.NoLimit) (hg : s₁.gens = #[])
    (ha : s₁.heap.get? a = some { cls := .type "list", data := .seq vs.toArray })
    (hr : Room k callerA)
    (F : ∀ base : Heap, K.In base → base.Ns mainGlobals mg → FnG P w K mg base CX0 k fa fd [x] sp)
    (hbind : ∀ (s : Shared) (u : Value), BindsTo s fd ⟨[u], []⟩ [(x, u)])
    (hsp : sp [.ref a] H (fun v _ => v = .bl true) fun _ _ _ => False)
    (hO : Only H) (hok : HOk P w H s₁.heap) (hA : ∀ b, H b ≠ none → b = a) (hK : H a ≠ none → K.lookup a = none) :
    codeAny (model P w) callerA (.call (.ref fa) ⟨[.ref a], []⟩)
      (fun r s' => r = .ok (.ret (.bool true)) ∧ OldK s₁.heap s'.heap ∧ s'.os = s₁.os ∧ AllBare s'.gens) s₁ := by
  have noA : ∀ {b : Addr} {o : Obj} {es : Array DictEntry} {ep : Nat},
      s₁.heap.get? b = some o → o.data = .dict es ep → H b = none := by
    intro b o es ep e d
    cases q : H b with
    | none => rfl
    | some u =>
      obtain rfl : b = a := hA b (by rw [q]; simp)
      rw [ha] at e
      cases e
      have d' : Data.seq vs.toArray _ = Data.dict es ep := d
      cases d'
  have nsK : ∀ {b : Addr} {m : Str → Option Value}, s₁.heap.Ns b m → (hidT s₁.heap H).Ns b m :=
    fun {b m} ⟨o, es, ep, e, d, r⟩ => ⟨o, es, ep, hidT_get e (noA e d), d, r⟩
  have hKb : K.In (hidT s₁.heap H) := by
    intro b o e
    refine hidT_get (KX b o e) ?_
    cases q : H b with
    | none => rfl
    | some u =>
      obtain rfl : b = a := hA b (by rw [q]; simp)
      rw [hK (by rw [q]; simp)] at e
      cases e
  have hM : Mod K mg (hidT s₁.heap H) := by
    refine ⟨hKb, nsK hns, ⟨mb, nsK hb, hbb⟩, ?_⟩
    obtain ⟨mc, h1, h2⟩ := hlim
    exact ⟨mc, nsK h1, h2⟩
  have no : ∀ {b : Addr}, b ∈ ([] : List Addr) → False := fun z => by simp at z
  have e0 : Env0 P w K mg (hidT s₁.heap H) callerA [] s₁ H :=
    ⟨rfl, hM, fun b o e => of_hidT e, Nat.le_of_eq (hidT_size _ _), trivial, fun b z => (no z).elim, hok, .of_eq hg⟩
  refine codeAny_mono ((F _ hKb (nsK hns)).go callerA [] s₁ H ⟨[.ref a], []⟩ [.ref a] [.ref a] _ _ hr rfl
    e0 (hbind s₁ (.ref a)) (.cons rfl .nil) hsp) fun r s' h => ?_
  cases r with
  | error e => exact False.elim (show False from h)
  | ok fl =>
    cases fl with
    | next => exact False.elim h
    | brk => exact False.elim h
    | cont => exact False.elim h
    | ret u =>
      obtain ⟨v, H', os, bare, un, hok', r', q⟩ := h
      obtain rfl : v = .bl true := q
      obtain rfl : u = Value.bool true := r'
      refine ⟨rfl, OldK.of_keep fun b o e => ?_, os, bare⟩
      cases q : H b with
      | none => exact un.keep b o e q (fun z => no z) (fun z => no z)
      | some u =>
        rcases hO b with z | ⟨ob, xs, z⟩
        · rw [q] at z
          cases z
        · obtain ⟨e1, _⟩ := hok b _ z
          obtain ⟨e2, _⟩ := hok' b _ (un.frzs b ob _ z)
          rw [e] at e1
          cases e1
          exact e2

theorem law_callG {P : Program} {w : World} {K : PySem.W.Frag} {mg mb : Str → Option Value} {k : Nat} {fa a : Addr}
    {fd : FuncData} {x : Str} {sp : Sp} {s₁ : Shared} {vs : List Value} {ns : List Int}
    (KX : K.In s₁.heap) (hns : s₁.heap.Ns mainGlobals mg) (hb : s₁.heap.Ns builtinsNs mb)
    (hbb : ∀ x : Str, x ≠ "__name__" → mb x = bootBuiltins x) (hlim : s₁.heap.NoLimit) (hg : s₁.gens = #[])
    (ha : s₁.heap.get? a = some { cls := .type "list", data := .seq vs.toArray })
    (hi : IntsAre vs ns) (hl : ns.length ≤ sizeLine) (hr : Room k callerA)
    (F : ∀ base : Heap, K.In base → base.Ns mainGlobals mg → FnG P w K mg base CX0 k fa fd [x] sp)
    (hbind : ∀ (s : Shared) (u : Value), BindsTo s fd ⟨[u], []⟩ [(x, u)])
    (hsp : ∀ H : Hp, Only H → SqL K H a (ns.map V.int) → sp [.ref a] H (fun v _ => v = .bl true) fun _ _ _ => False) :
    codeAny (model P w) callerA (.call (.ref fa) ⟨[.ref a], []⟩)
      (fun r s' => r = .ok (.ret (.bool true)) ∧ OldK s₁.heap s'.heap ∧ s'.os = s₁.os ∧ AllBare s'.gens) s₁ := by
  have rv := vals_ints hi
  have lenV := hi.length
  cases hk : K.lookup a with
  | some o =>
    have e := KX a o hk
    rw [ha] at e
    cases e
    have hO : Only (fun _ => none) := fun _ => Or.inl rfl
    have hS : SqL K (fun _ => none) a (ns.map V.int) :=
      Or.inr ⟨_, vs.toArray, _, hk, rfl, rfl, rfl, by rw [List.size_toArray, lenV]; exact hl, by simpa using rv⟩
    refine callG_at KX hns hb hbb hlim hg ha hr F hbind (hsp _ hO hS) hO (fun b u z => ?_) (fun b z => absurd rfl z)
      fun z => absurd rfl z
    have z' : (none : Option HO) = some u := z
    cases z'
  | none =>
    have at_ : ∀ b, b = a → (fun b => if b = a then some (HO.frz { cls := .type "list", data := .seq vs.toArray }
        (.lst (ns.map V.int))) else none) b = some (HO.frz { cls := .type "list", data := .seq vs.toArray } (.lst (ns.map V.int))) :=
      fun b hb => if_pos hb
    have off : ∀ b, ¬ b = a → (fun b => if b = a then some (HO.frz { cls := .type "list", data := .seq vs.toArray }
        (.lst (ns.map V.int))) else none) b = none := fun b hb => if_neg hb
    have hO : Only (fun b => if b = a then some (HO.frz { cls := .type "list", data := .seq vs.toArray }
        (.lst (ns.map V.int))) else none) := fun b => by
      by_cases hb : b = a
      · exact Or.inr ⟨_, _, at_ b hb⟩
      · exact Or.inl (off b hb)
    refine callG_at KX hns hb hbb hlim hg ha hr F hbind (hsp _ hO (Or.inl (Or.inr ⟨_, at_ a rfl⟩))) hO (fun b u z => ?_)
      (fun b z => ?_) fun _ => hk
    · by_cases hb : b = a
      · have z' := (at_ b hb).symm.trans z
        cases z'
        subst hb
        exact ⟨ha, by rw [List.length_map]; exact hl, vs, _, rv, ha⟩
      · have z' := (off b hb).symm.trans z
        cases z'
    · by_cases hb : b = a
      · exact hb
      · exact absurd (off b hb) z

theorem walkG {l : PySem.W.OpenLaw} {n k : Nat} {q : Program} {loose : List Str}
    {XP : (Str → Option Value) → Heap → Prop} {YP : World → Heap → Prop} {d : DefRec} {K : Params → PySem.W.Frag}
    {sp : World → Sp} {x : Str}
    (hn : l.most = some n) (hn2 : n ≤ sizeLine) (hdf : d.params.defaults = []) (hr : Room k callerA)
    (hY : ∀ (w : World) (h : Heap), YP w h → (K w.params).In h)
    (F : ∀ (w : World) (mg : Str → Option Value) (fa : Addr) (h : Heap), (K w.params).In h → h.Ns mainGlobals mg →
      mg d.name = some (.ref fa) → ∃ fd : FuncData, (∀ (s : Shared) (u : Value), BindsTo s fd ⟨[u], []⟩ [(x, u)]) ∧
        ∀ base : Heap, (K w.params).In base → base.Ns mainGlobals mg →
          FnG l.prog w (K w.params) mg base CX0 k fa fd [x] (sp w))
    (hsp : ∀ (w : World) (H : Hp) (a : Addr) (ns : List Int), ns.length ≤ n → Only H →
      SqL (K w.params) H a (ns.map V.int) → sp w [.ref a] H (fun v _ => v = .bl true) fun _ _ _ => False) :
    PySem.W.WalkO q loose XP YP l.row.toRowW d [] (fun f vs => PySem.call f vs) := by
  refine Att.attach_call hn hdf fun w s₀ s₁ mg mb fa o pm cd doc a vs ns G Y ho hd hcd hmg hobj hints hlen hg => ?_
  have KX := hY w _ Y
  obtain ⟨fd, hb, hF⟩ := F w mg fa _ KX G.T.g hmg
  exact law_callG KX G.T.g G.T.b G.T.builtins G.T.nolimit hg hobj hints (Nat.le_trans hlen hn2) hr hF hb
    fun H hO hS => hsp w H a ns hlen hO hS
end GG
/-! G3: what stands where, in words that unify first order; facts of names. -/
namespace GG
open PySem L2 PySem.Spec PyProof.Rows

/-- o stands at a -/
def At (H : Hp) (a : Addr) (o : HO) : Prop := H a = some o
/-- nothing stands at a -/
def Nn (H : Hp) (a : Addr) : Prop := H a = none
/-- all but the object at p is as it was -/
def But (p : Addr) (H H' : Hp) : Prop := ∀ b o, H b = some o → b ≠ p → H' b = some o
section
variable {H H' H1 : Hp} {a b p : Addr} {o u : HO} {K : PySem.W.Frag} {xs : List V}
theorem At.out (h : At H a o) : H a = some o := h
theorem Nn.out (h : Nn H a) : H a = none := h
theorem at_same : At (upd H a o) a o := upd_same
theorem at_upd (n : a ≠ p) (h : At H a o) : At (upd H p u) a o := (upd_ne n).trans h
theorem at_Same (e : Same H H') (h : At H a o) : At H' a o := e _ _ h
theorem at_But (e : But p H H') (n : a ≠ p) (h : At H a o) : At H' a o := e _ _ h n
theorem ne_An (h : Nn H b) (q : At H a o) : a ≠ b := ne_of_none q h
theorem ne_nA (h : Nn H a) (q : At H b o) : a ≠ b := (ne_of_none q h).symm
theorem nn_Same (e : Same H H') (h : Nn H' a) : Nn H a := Same.free e h
theorem nn_upd (h : Nn (upd H p u) a) : Nn H a := by
  unfold Nn upd at h
  split at h
  · cases h
  · exact h
theorem nn_But (e : But p H H') (n : a ≠ p) (h : Nn H' a) : Nn H a := by
  cases q : H a with
  | none => exact q
  | some o =>
    have z : H' a = none := h
    rw [e a o q n] at z
    cases z
theorem SqL.at_ (h : At H a (.lst xs)) : SqL K H a xs := Or.inl (Or.inl h)
theorem SqT.at_ (h : At H a (.tup xs)) : SqT K H a xs := Or.inl (Or.inl h)
theorem Same.new (h : Nn H p) : Same H (upd H p o) := fun b u e => by
  rw [upd_ne (ne_of_none e h)]
  exact e
theorem But.new (h : Nn H p) : But a H (upd H p o) := fun b u e _ => Same.new h b u e
theorem But.refl : But a H H := fun _ _ e _ => e
theorem But.set : But a H (upd H a o) := fun b u e n => (upd_ne n).trans e
theorem But.trans (e : But p H H1) (f : But p H1 H') : But p H H' := fun b o h n => f b o (e b o h n) n
theorem But.same (e : But p H H1) (f : Same H1 H') : But p H H' := fun b o h n => f b o (e b o h n)
theorem Same.but (e : Same H H1) (f : But p H1 H') : But p H H' := fun b o h n => f b o (e b o h) n
theorem But.of (e : Same H H1) : But p H H1 := fun b o h _ => e b o h
/-- what was changed was not there -/
theorem But.free (e : But p H H1) (n : Nn H p) : Same H H1 := fun b o h => e b o h (ne_of_none h n)
theorem Same.upd_free (e : Same H H1) (n : Nn H p) : Same H (upd H1 p o) := fun b u h => (upd_ne (ne_of_none h n)).trans (e b u h)
theorem But.upd_free {q : Addr} (e : But p H H1) (n : Nn H q) : But p H (upd H1 q o) := fun b u h z => (upd_ne (ne_of_none h n)).trans (e b u h z)
theorem Same.seqT (e : Same H H') (h : SqT K H a xs) : SqT K H' a xs := by
  rcases h with (h | ⟨o, h⟩) | h
  · exact Or.inl (Or.inl (e _ _ h))
  · exact Or.inl (Or.inr ⟨o, e _ _ h⟩)
  · exact Or.inr h
theorem SqL.but (e : But p H H') (n : a ≠ p) (h : SqL K H a xs) : SqL K H' a xs := by
  rcases h with (h | ⟨o, h⟩) | h
  · exact Or.inl (Or.inl (e _ _ h n))
  · exact Or.inl (Or.inr ⟨o, e _ _ h n⟩)
  · exact Or.inr h
theorem SqT.but (e : But p H H') (n : a ≠ p) (h : SqT K H a xs) : SqT K H' a xs := by
  rcases h with (h | ⟨o, h⟩) | h
  · exact Or.inl (Or.inl (e _ _ h n))
  · exact Or.inl (Or.inr ⟨o, e _ _ h n⟩)
  · exact Or.inr h
end

theorem iteD {c A B : Prop} [Decidable c] (h1 : c → A) (h2 : ¬ c → B) : if decide c = true then A else B := by
  by_cases h : c
  · rw [decide_eq_true h]
    exact h1 h
  · rw [decide_eq_false h]
    exact h2 h
theorem iteB {b : Bool} {A B : Prop} (h1 : b = true → A) (h2 : b = false → B) : if b = true then A else B := by
  cases b with
  | true => exact h1 rfl
  | false => exact h2 rfl
theorem iteN {c A B : Prop} [Decidable c] (h1 : ¬ c → A) (h2 : c → B) : if (!decide c) = true then A else B := by
  by_cases h : c
  · rw [decide_eq_true h]
    exact h2 h
  · rw [decide_eq_false h]
    exact h1 h
theorem sz_ok {n : Nat} (h : n ≤ 100000) : n ≤ sizeLine := Nat.le_trans h (by decide)
theorem sz_lt {n : Nat} (h : n < 100000) : n < sizeLine := Nat.lt_of_lt_of_le h (by decide)
theorem atI_of {α : Type} {xs : List α} {i : Int} (h0 : 0 ≤ i) (h1 : i < (xs.length : Int)) : ∃ v, xs[i.toNat]? = some v ∧ atI xs i = some v := by
  have hj : i.toNat < xs.length := by omega
  have e : ((i.toNat : Nat) : Int) = i := by omega
  have h := atI_nat (xs := xs) (j := i.toNat) (v := xs[i.toNat]) (by simp [hj])
  rw [e] at h
  exact ⟨xs[i.toNat], by simp [hj], h⟩
theorem atI_ints {ns : List Int} {i : Int} (h0 : 0 ≤ i) (h1 : i < (ns.length : Int)) : ∃ z, atI (ns.map V.int) i = some (.int z) := by
  obtain ⟨v, hv, h⟩ := atI_of (xs := ns.map V.int) h0 (by simpa using h1)
  rw [List.getElem?_map] at hv
  cases e : ns[i.toNat]? with
  | none =>
    rw [e] at hv
    cases hv
  | some z =>
    rw [e] at hv
    cases hv
    exact ⟨z, h⟩
/-- a def of the text: where it stands, by what name, how it is called -/
structure DefAt (K : PySem.W.Frag) (mg : Str → Option Value) (x : Str) (st : Stmt) (ps : List Str) (f : Addr) (fd : FuncData) : Prop where
  F : Fun K x x st f fd
  at_ : mg x = some (.ref f)
  b : Binds K fd ps []
theorem DefAt.kp {K : PySem.W.Frag} {mg : Str → Option Value} {x : Str} {st : Stmt} {ps : List Str} {f : Addr} {fd : FuncData}
    (D : DefAt K mg x st ps f fd) : PySem.W.keepIn K (.ref f) = true := D.F.kp

/-! ### calls with keywords alone -/
/-- the parameters' values picked out of the positional ones and the keywords' -/
def pickG (ix : List Nat) {α : Type} (us ws : List α) : List α := ix.filterMap fun i => (us ++ ws)[i]?
theorem vals_pick : ∀ (ix : List Nat) {vs : List V} {us : List Value}, Vals vs us → Vals (ix.filterMap fun i => vs[i]?) (ix.filterMap fun i => us[i]?)
  | [], _, _, _ => .nil
  | i :: ix, vs, us, r => by
    rw [List.filterMap_cons, List.filterMap_cons]
    cases e : vs[i]? with
    | none =>
      rw [Vals.none_of r e]
      exact vals_pick ix r
    | some x =>
      obtain ⟨u, h1, h2⟩ := Vals.get r e
      rw [h1]
      exact .cons h2 (vals_pick ix r)
theorem kb_of {K : PySem.W.Frag} {x qual : Str} {st : Stmt} {f : Addr} {fd : FuncData} {ps : List Str} (F : Fun K x qual st f fd)
    (n : Nat) (ks : List Str) (ix : List Nat)
    (h : ∀ (kV doc pm : Value) (an : Option Addr) (cdv ct : Value) (us ws : List Value), us.length = n → ws.length = ks.length →
      bindArgs (PySem.W.fnOf x qual (defArgs st) (defBody st) (defScope st) .none kV doc pm an cdv ct) ⟨us, ks.zip ws⟩ = pure (ps.zip (pickG ix us ws))) :
    KBn K fd ps n ks (pickG ix) (pickG ix) := by
  obtain ⟨oc, od, kV, doc, pm, an, cdv, ct, osl, rfl, lk, hcd⟩ := F.ex
  exact ⟨fun s us ws _ h1 h2 => .of_eq (h kV doc pm an cdv ct us ws h1 h2), fun r1 r2 => vals_pick ix (Vals.append r1 r2)⟩
section
variable {X : Cx} {CX : CXT} {k : Nat} {f : Addr} {fd : FuncData} {ps ks : List Str} {sp : Sp} {E : XK} {x : Str} {p pos : Pos}
  {kws : List Keyword} {tk : TA} {g : List Value → List Value → List Value} {gV : List V → List V → List V}
theorem pe_callN0 (F : FnOk X.prog X.w X.K X.mg X.base CX k f fd ps sp) (hr : Room k X.A) (hg : Gl X x) (hm : X.mg x = some (.ref f))
    (hk : PySem.W.keepIn X.K (.ref f) = true) (hb : KBn X.K fd ps 0 ks g gV) (hx : Passes CX X E) (hkw : PK X kws tk)
    (hall : (backToKw pos (keywordEach kws X.env)).all (·.1.isSome) = true := by rfl)
    (hks : (backToKw pos (keywordEach kws X.env)).filterMap (·.1) = ks := by rfl) (hdb : (x == ("__debug__" : Str)) = false := by decide)
    (hpl : ((backTo pos (starEach [] X.env)).any (·.1) || (backToKw pos (keywordEach kws X.env)).any (·.1.isNone)) = false := by rfl) :
    PE X (.Call (.Name x p) [] kws pos) (tCallN 0 ks.length sp gV E tNil tk) := by
  refine ⟨fun pins s σ H Q I h => ?_⟩
  refine wpAny_Call_Name_kw (ld_glob I hg hm ?_ hdb)
  refine PySem.W.callWith_KW0 (h₀ := X.base) I.ok.mod.kin hk hall ?_ hpl
  refine thn (hkw.run pos pins s σ H _ I h) fun ws s2 ⟨zs, H2, I2, rz, l1, l2, q2⟩ => ⟨I2.kIn, ?_⟩
  rw [hks]
  exact run_fnN (us := []) (vs := []) F hr hb hx I2 .nil rz rfl l2 q2
end

section
variable {X : Cx} {x : Str} {pos : Pos}
theorem pe_gInt {i : Int} (hg : Gl X x) (hm : ∃ t, X.mg x = some (.int i t)) (hd : (x == ("__debug__" : Str)) = false := by decide) :
    PE X (.Name x pos) (tC (.int i)) := by
  obtain ⟨t, e⟩ := hm
  exact pe_glob hg e ⟨t, rfl⟩ hd
theorem pe_gStr {z : Str} (hg : Gl X x) (hm : ∃ t, X.mg x = some (.str z t)) (hd : (x == ("__debug__" : Str)) = false := by decide) :
    PE X (.Name x pos) (tC (.str z)) := by
  obtain ⟨t, e⟩ := hm
  exact pe_glob hg e ⟨t, rfl⟩ hd
end

/-! ### kinds of values -/
inductive BT where
  | non | bl | int | str | lst | tup | dct
  deriving DecidableEq
def BT.nm : BT → String
  | .non => "NoneType" | .bl => "bool" | .int => "int" | .str => "str" | .lst => "list" | .tup => "tuple" | .dct => "dict"
/-- x is of the built-in type n -/
inductive Kn (K : PySem.W.Frag) (H : Hp) : V → BT → Prop where
  | non : Kn K H .non .non
  | bl (b : Bool) : Kn K H (.bl b) .bl
  | int (i : Int) : Kn K H (.int i) .int
  | str (z : Str) : Kn K H (.str z) .str
  | lst {a : Addr} {xs : List V} (h : SqL K H a xs) : Kn K H (.ref a) .lst
  | tup {a : Addr} {xs : List V} (h : SqT K H a xs) : Kn K H (.ref a) .tup
  | dct {a : Addr} {kvs : List (Key × V)} (h : At H a (.dK kvs)) : Kn K H (.ref a) .dct
theorem Kn.ty {K : PySem.W.Frag} {H : Hp} {x : V} {n : BT} (h : Kn K H x n) : TyX K H x (.type n.nm) := by
  cases h with
  | non => exact .base .non
  | bl b => exact .base (.bl b)
  | int i => exact .base (.int i)
  | str z => exact .base (.str z)
  | lst h =>
    rcases h with (h | ⟨o, h⟩) | ⟨o, its, m, h, c, _⟩
    · exact .base (.lst h)
    · exact .base (.frz h)
    · exact .kList h c
  | tup h =>
    rcases h with (h | ⟨o, h⟩) | ⟨o, its, m, h, c, _⟩
    · exact .base (.tup h)
    · exact .fTuple h
    · exact .kTuple h c
  | dct h => exact .base (.dK h)
/-- isinstance of built-in types -/
def isiB : BT → BT → Bool
  | .int, .int => true
  | .bl, .int => true
  | .bl, .bl => true
  | .str, .str => true
  | .lst, .lst => true
  | .tup, .tup => true
  | .dct, .dct => true
  | _, _ => false
theorem kit_menu {n c : BT} (hc : c ≠ .non) : kitB n.nm c.nm = some (isiB n c) := by
  cases c <;> first | exact absurd rfl hc | (cases n <;> decide +kernel)
theorem isi_kn {K : PySem.W.Frag} {H : Hp} {x : V} {n : BT} (c : BT) {Q : VK} (h : Kn K H x n) (q : Q (.bl (isiB n c)) H) (hc : c ≠ .non := by decide) :
    rIsi K [x, .ty c.nm] H Q :=
  ⟨x, .ty c.nm, .type n.nm, .type c.nm, isiB n c, rfl, .ty c.nm, h.ty, kit_ty (kit_menu hc), q⟩
theorem Kn.same {K : PySem.W.Frag} {H H' : Hp} {x : V} {n : BT} (e : Same H H') (h : Kn K H x n) : Kn K H' x n := by
  cases h with
  | non => exact .non
  | bl b => exact .bl b
  | int i => exact .int i
  | str z => exact .str z
  | lst h => exact .lst (e.seq h)
  | tup h => exact .tup (Same.seqT e h)
  | dct h => exact .dct (e _ _ h)
theorem Kn.but {K : PySem.W.Frag} {H H' : Hp} {p : Addr} {x : V} {n : BT} (e : But p H H') (ne : x ≠ .ref p) (h : Kn K H x n) : Kn K H' x n := by
  have ne' : ∀ a, V.ref a ≠ .ref p → a ≠ p := fun a z q => z (by rw [q])
  cases h with
  | non => exact .non
  | bl b => exact .bl b
  | int i => exact .int i
  | str z => exact .str z
  | lst h => exact .lst (SqL.but e (ne' _ ne) h)
  | tup h => exact .tup (SqT.but e (ne' _ ne) h)
  | dct h => exact .dct (e _ _ h (ne' _ ne))
end GG
/-! G4: comprehensions and loops over what yields the items of a list. -/
namespace GG
open PySem L2 PySem.Spec PyProof.Rows

/-- each turn yields the next of some items, told by R; the heap is only extended -/
structure Gives {α : Type} (J : It) (items : List α) (G : Hp → Prop) (R : α → V → Hp → Prop) : Prop where
  goes : ∀ i H, i < items.length → G H → J.go i H
  stops : ∀ H, G H → J.stop items.length H
  yields : ∀ i H x H', i < items.length → G H → J.yld i H x H' → Same H H' ∧ ∃ a, items[i]? = some a ∧ R a x H'
section
variable {α : Type} {J : It} {items : List α} {G : Hp → Prop} {R : α → V → Hp → Prop}
theorem Gives.of_walk {n : Nat} {Y : Nat → Hp → V → Hp → Prop} (w : Walk J n G Y) (hn : items.length = n)
    (hy : ∀ i H x H', i < n → G H → Y i H x H' → Same H H' ∧ ∃ a, items[i]? = some a ∧ R a x H') : Gives J items G R := by
  subst hn
  exact ⟨w.goes, w.stops, fun i H x H' hi g y => hy i H x H' hi g (w.yields i H x H' hi g y)⟩
theorem gives_list {K : PySem.W.Frag} {a : Addr} {xs : List V} : Gives (Itl K a) xs (fun H => SqL K H a xs) (fun b x _ => x = b) :=
  .of_walk walk_list rfl fun i H x H' _ _ y => by
    obtain ⟨rfl, h⟩ := y
    exact ⟨Same.refl _, x, h, rfl⟩
theorem gives_tup {K : PySem.W.Frag} {a : Addr} {xs : List V} : Gives (Itt K a) xs (fun H => SqT K H a xs) (fun b x _ => x = b) :=
  .of_walk walk_tup rfl fun i H x H' _ _ y => by
    obtain ⟨rfl, h⟩ := y
    exact ⟨Same.refl _, x, h, rfl⟩
theorem gives_str {z : Str} : Gives (Its z) z.cps.toList (fun _ => True) (fun c x _ => x = .str ⟨#[c]⟩) :=
  .of_walk walk_str (by simp) fun i H x H' _ _ y => by
    obtain ⟨rfl, c, h, rfl⟩ := y
    exact ⟨Same.refl _, c, by simpa using h, rfl⟩
theorem gives_range {lo : Int} {n : Nat} : Gives (Itr lo n) (List.range n) (fun _ => True) (fun i x _ => x = .int (lo + i)) :=
  .of_walk walk_range (by simp) fun i H x H' hi _ y => by
    obtain ⟨rfl, rfl⟩ := y
    exact ⟨Same.refl _, i, by simp [hi], rfl⟩
theorem gives_enum {K : PySem.W.Frag} {a : Addr} {xs : List V} : Gives (Ite K a) (xs.zipIdx) (fun H => SqL K H a xs)
    (fun b x H => ∃ T, x = .ref T ∧ At H T (.tup [.int b.2, b.1])) :=
  .of_walk walk_enum (by simp) fun i H v H' _ _ y => by
    obtain ⟨T, x, y, rfl, h, rfl, h1, h2⟩ := y
    cases h1
    have h2' : xs[i]? = some y := h2
    exact ⟨Same.new h, (y, i), by simp [h2'], T, rfl, at_same⟩
theorem gives_zip {K : PySem.W.Frag} {a b : Addr} {xs ys : List V} : Gives (Itz K a b) (xs.zip ys) (fun H => SqL K H a xs ∧ SqL K H b ys)
    (fun b x H => ∃ T, x = .ref T ∧ At H T (.tup [b.1, b.2])) :=
  .of_walk (walk_zip rfl) (by simp) fun i H v H' _ _ y => by
    obtain ⟨T, x, y, rfl, h, rfl, h1, h2⟩ := y
    have h1' : xs[i]? = some x := h1
    have h2' : ys[i]? = some y := h2
    exact ⟨Same.new h, (x, y), by simp [List.getElem?_zip_eq_some, h1', h2'], T, rfl, at_same⟩

/-- a comprehension whose element changes what is told by Pv: the turn, the items made so far, the heap -/
theorem lc_acc (w : Gives J items G R) {g : TG} {te : TE} {vs : List Nat} {σ : L2.St} {H1 : Hp} {D : Addr} {Qd : Hp → Prop}
    (Pv : Nat → List V → Hp → Prop) (hz : items.length < 100000) (h0 : Pv 0 [] (upd H1 D (.lst [])))
    (hG : ∀ i acc H, i ≤ items.length → Pv i acc H → At H D (.lst acc) → G H)
    (hs : ∀ i a acc x H H', items[i]? = some a → acc.length = i → Pv i acc H → At H D (.lst acc) → Same H H' → R a x H' →
      ∀ B : VK, (∀ y H4, At H4 D (.lst acc) → Pv (i + 1) (acc ++ [y]) (upd H4 D (.lst (acc ++ [y]))) → B y H4) →
        g x (wipe σ vs) H' fun σ2 H2 => wipe σ2 vs = wipe σ vs ∧ te σ2 H2 B)
    (hd : ∀ acc H, acc.length = items.length → Pv items.length acc H → At H D (.lst acc) → Qd H) :
    ∃ W : Nat → Nat → Hp → Prop, (∃ m, W 0 m (upd H1 D (.lst []))) ∧ ∀ i m H, W i m H →
      (J.stop i H ∧ Qd H) ∨ (J.go i H ∧ ∃ Nx : Hp → Prop, (∀ H', Nx H' → ∃ m', m' < m ∧ W (i + 1) m' H') ∧ ∀ x H', J.yld i H x H' →
        g x (wipe σ vs) H' fun σ2 H2 => wipe σ2 vs = wipe σ vs ∧ tYes σ2 H2 fun b H3 =>
          if b = true then te σ2 H3 fun y H4 => ∃ acc, H4 D = some (.lst acc) ∧ acc.length < sizeLine ∧ Nx (upd H4 D (.lst (acc ++ [y]))) else Nx H3) := by
  refine ⟨fun i m H => m = items.length - i ∧ i ≤ items.length ∧ ∃ acc, acc.length = i ∧ Pv i acc H ∧ At H D (.lst acc),
    ⟨_, rfl, Nat.zero_le _, [], rfl, h0, at_same⟩, ?_⟩
  rintro i m H ⟨rfl, hi, acc, hl, p, hat⟩
  have q := hG i acc H hi p hat
  by_cases hlt : i < items.length
  · refine Or.inr ⟨w.goes i H hlt q, fun H' => ∃ acc, acc.length = i + 1 ∧ Pv (i + 1) acc H' ∧ At H' D (.lst acc),
      fun H' h => ⟨_, (by omega : items.length - (i + 1) < items.length - i), rfl, hlt, h⟩, fun x H' y => ?_⟩
    obtain ⟨e, a, ha, r⟩ := w.yields i H x H' hlt q y
    exact hs i a acc x H H' ha hl p hat e r _ fun v H4 u1 u2 => ⟨acc, u1, sz_lt (by omega), acc ++ [v], by simp [hl], u2, at_same⟩
  · obtain rfl : i = items.length := by omega
    exact Or.inl ⟨w.stops H q, hd acc H hl p hat⟩

/-- a comprehension that only extends the heap: the new list holds the values of f -/
theorem lc_map (w : Gives J items G R) {g : TG} {te : TE} {vs : List Nat} {σ : L2.St} {H1 : Hp} {D : Addr} {Qd : Hp → Prop}
    (f : α → V) (hz : items.length < 100000) (hD : H1 D = none) (hG : ∀ H, Same H1 H → G H)
    (hs : ∀ a x H', a ∈ items → Same H1 H' → R a x H' → ∀ B : VK, (∀ H2, Same H' H2 → B (f a) H2) →
      g x (wipe σ vs) H' fun σ2 H2 => wipe σ2 vs = wipe σ vs ∧ te σ2 H2 B)
    (hd : ∀ H, Same H1 H → At H D (.lst (items.map f)) → Qd H) :
    ∃ W : Nat → Nat → Hp → Prop, (∃ m, W 0 m (upd H1 D (.lst []))) ∧ ∀ i m H, W i m H →
      (J.stop i H ∧ Qd H) ∨ (J.go i H ∧ ∃ Nx : Hp → Prop, (∀ H', Nx H' → ∃ m', m' < m ∧ W (i + 1) m' H') ∧ ∀ x H', J.yld i H x H' →
        g x (wipe σ vs) H' fun σ2 H2 => wipe σ2 vs = wipe σ vs ∧ tYes σ2 H2 fun b H3 =>
          if b = true then te σ2 H3 fun y H4 => ∃ acc, H4 D = some (.lst acc) ∧ acc.length < sizeLine ∧ Nx (upd H4 D (.lst (acc ++ [y]))) else Nx H3) := by
  have hD' : Nn H1 D := hD
  let P : Nat → Hp → Prop := fun i H => i ≤ items.length ∧ Same H1 H ∧ At H D (.lst ((items.take i).map f))
  refine ⟨fun i m H => m = items.length - i ∧ P i H, ⟨_, rfl, Nat.zero_le _, Same.new hD', by rw [List.take_zero]; exact at_same⟩, ?_⟩
  rintro i m H ⟨rfl, hi, e1, hat⟩
  have q := hG H e1
  by_cases hlt : i < items.length
  · refine Or.inr ⟨w.goes i H hlt q, P (i + 1), fun H' h => ⟨_, (by omega : items.length - (i + 1) < items.length - i), rfl, h⟩, fun x H' y => ?_⟩
    obtain ⟨e, a, ha, r⟩ := w.yields i H x H' hlt q y
    have et : items.take (i + 1) = items.take i ++ [a] := by
      rw [List.take_succ, ha]
      rfl
    refine hs a x H' (List.mem_of_getElem? ha) (e1.trans e) r _ fun H4 e4 => ⟨(items.take i).map f, e4 _ _ (e _ _ hat), sz_lt (by simp; omega), hlt, ?_, ?_⟩
    · exact Same.upd_free ((e1.trans e).trans e4) hD'
    · rw [et, List.map_append]
      exact at_same
  · obtain rfl : i = items.length := by omega
    rw [List.take_length] at hat
    exact Or.inl ⟨w.stops H q, hd H e1 hat⟩

/-- a for over it: Pv tells of the turn, the slots, the heap -/
theorem for_acc (w : Gives J items G R) {g : TG} {tb : TS} {D : Ends} {σ : L2.St} {H : Hp} (Pv : Nat → L2.St → Hp → Prop) (h0 : Pv 0 σ H)
    (hG : ∀ i σ H, i ≤ items.length → Pv i σ H → G H)
    (hs : ∀ i a x σ H H', items[i]? = some a → Pv i σ H → Same H H' → R a x H' → g x σ H' fun σ2 H2 => tb { D with nx := Pv (i + 1), ct := Pv (i + 1), bk := D.nx } σ2 H2)
    (hd : ∀ σ H, Pv items.length σ H → D.nx σ H) :
    ∃ W : Nat → Nat → L2.St → Hp → Prop, (∃ m, W 0 m σ H) ∧ ∀ i m σ H, W i m σ H →
      (J.stop i H ∧ D.nx σ H) ∨ (J.go i H ∧ ∃ N : L2.St → Hp → Prop, (∀ σ' H', N σ' H' → ∃ m', m' < m ∧ W (i + 1) m' σ' H') ∧
        ∀ x H', J.yld i H x H' → g x σ H' fun σ2 H2 => tb { D with nx := N, ct := N, bk := D.nx } σ2 H2) := by
  refine ⟨fun i m σ H => m = items.length - i ∧ i ≤ items.length ∧ Pv i σ H, ⟨_, rfl, Nat.zero_le _, h0⟩, ?_⟩
  rintro i m σ H ⟨rfl, hi, p⟩
  have q := hG i σ H hi p
  by_cases hlt : i < items.length
  · refine Or.inr ⟨w.goes i H hlt q, Pv (i + 1), fun σ' H' p' => ⟨_, (by omega : items.length - (i + 1) < items.length - i), rfl, hlt, p'⟩, fun x H' y => ?_⟩
    obtain ⟨e, a, ha, r⟩ := w.yields i H x H' hlt q y
    exact hs i a x σ H H' ha p e r
  · obtain rfl : i = items.length := by omega
    exact Or.inl ⟨w.stops H q, hd σ H p⟩
theorem str_len {z : Str} : z.cps.toList.length = z.length := by simp [PySem.Str.length]
theorem sq_bools {K : PySem.W.Frag} {H : Hp} {a : Addr} {f : α → Bool} (h : At H a (.lst (items.map fun c => V.bl (f c)))) :
    SqL K H a ((items.map f).map V.bl) := by
  rw [List.map_map]
  exact SqL.at_ h
theorem all_bools {f : α → Bool} : (items.map f).all id = items.all f := by
  rw [List.all_map]
  rfl
end
end GG
local macro_rules | `(tactic| walk_at "ne") => `(tactic| first
  | assumption
  | exact Ne.symm (by assumption)
  | (refine GG.ne_An (o := ?o) (by assumption) ?h; (case h => walk_at "at"))
  | (refine GG.ne_nA (o := ?o) (by assumption) ?h; (case h => walk_at "at")))
local macro_rules | `(tactic| walk_at "at") => `(tactic| first
  | assumption
  | exact GG.at_same
  | (refine GG.at_upd ?_ ?_; (walk_at "ne"); (walk_at "at"))
  | (refine GG.at_Same (by assumption) ?_; walk_at "at")
  | (refine GG.at_But (by assumption) ?_ ?_; (walk_at "ne"); (walk_at "at")))
local macro_rules | `(tactic| walk_at "sq") => `(tactic| first
  | assumption
  | (refine GG.SqL.at_ ?_; walk_at "at")
  | (refine GG.SqT.at_ ?_; walk_at "at")
  | (refine L2.Same.seq (by assumption) ?_; walk_at "sq")
  | (refine GG.Same.seqT (by assumption) ?_; walk_at "sq")
  | (refine L2.Same.seq (GG.Same.new (by assumption)) ?_; walk_at "sq")
  | (refine GG.Same.seqT (GG.Same.new (by assumption)) ?_; walk_at "sq"))
local macro_rules | `(tactic| walk_at "num") => `(tactic| first | decide | omega)
local macro_rules | `(tactic| walk_at "kn") => `(tactic| first
  | assumption
  | exact GG.Kn.int _
  | exact GG.Kn.str _
  | exact GG.Kn.bl _
  | exact GG.Kn.non
  | exact GG.Kn.lst (by walk_at "sq")
  | exact GG.Kn.tup (by walk_at "sq"))
local macro_rules | `(tactic| walk_at "isi") => `(tactic| first
  | refine ⟨_, _, _, _, GG.isiB _ .int, rfl, .ty "int", GG.Kn.ty (by walk_at "kn"), L2.kit_ty (GG.kit_menu (c := .int) (by decide)), ?_⟩
  | refine ⟨_, _, _, _, GG.isiB _ .bl, rfl, .ty "bool", GG.Kn.ty (by walk_at "kn"), L2.kit_ty (GG.kit_menu (c := .bl) (by decide)), ?_⟩
  | refine ⟨_, _, _, _, GG.isiB _ .str, rfl, .ty "str", GG.Kn.ty (by walk_at "kn"), L2.kit_ty (GG.kit_menu (c := .str) (by decide)), ?_⟩
  | refine ⟨_, _, _, _, GG.isiB _ .lst, rfl, .ty "list", GG.Kn.ty (by walk_at "kn"), L2.kit_ty (GG.kit_menu (c := .lst) (by decide)), ?_⟩
  | refine ⟨_, _, _, _, GG.isiB _ .tup, rfl, .ty "tuple", GG.Kn.ty (by walk_at "kn"), L2.kit_ty (GG.kit_menu (c := .tup) (by decide)), ?_⟩
  | refine ⟨_, _, _, _, GG.isiB _ .dct, rfl, .ty "dict", GG.Kn.ty (by walk_at "kn"), L2.kit_ty (GG.kit_menu (c := .dct) (by decide)), ?_⟩)
local macro_rules | `(tactic| walk_at "go1") => `(tactic| first
  | refine ⟨_, rfl, ?_⟩
  | refine ⟨_, _, rfl, rfl, (show _ < _ by (walk_at "num")), ?_⟩
  | refine ⟨_, _, rfl, rfl, (Or.inl ⟨(by walk_at "num"), (by walk_at "num")⟩), ?_⟩
  | refine ⟨_, _, rfl, rfl, ⟨(by walk_at "num"), (by walk_at "num")⟩, ?_⟩
  | refine ⟨_, _, rfl, rfl, ⟨(by decide), (by decide), (by walk_at "num")⟩, ?_⟩
  | (refine ⟨_, ?xs, _, ?v, rfl, rfl, ?h, ?e, ?_⟩; (case h => first | walk_at "sq" | (refine GG.At.out ?_; walk_at "at")); (case e => rfl))
  | (refine ⟨_, ?xs, rfl, ?h, ?e, ?_⟩; (case h => walk_at "sq"); (case e => rfl))
  | refine ⟨rfl, ?_⟩
  | refine ⟨⟨_, rfl⟩, ?_⟩
  | (refine ⟨Or.inl ⟨rfl, ?xs, ?h⟩, ?_⟩; (case h => walk_at "sq"))
  | (refine ⟨_, ?n, rfl, ⟨?h, ?e⟩, ?_⟩; (case h => exact GG.sz_ok (by omega)); (case e => rfl))
  | (refine ⟨_, ?n, rfl, Or.inl ⟨?xs, ?h, ?e⟩, ?_⟩; (case h => walk_at "sq"); (case e => rfl))
  | refine ⟨_, _, rfl, rfl, ?_⟩
  | refine Or.inl ⟨_, rfl, ?_⟩
  | walk_at "isi"
  | refine ⟨GG.sz_ok (Nat.le_of_ble_eq_true rfl), ?_⟩
  | refine ⟨_, _, rfl, ?_⟩)
local macro_rules | `(tactic| walk_at "go") => `(tactic| repeat (walk_at "go1"))
local macro_rules | `(tactic| walk_at "if") => `(tactic| first
  | refine GG.iteD (fun h => ?_) (fun h => ?_)
  | refine GG.iteB (fun h => ?_) (fun h => ?_))
local macro_rules | `(tactic| walk_at "same") => `(tactic| first
  | assumption
  | exact L2.Same.refl _
  | (refine L2.Same.trans ?_ (GG.Same.new (by assumption)); walk_at "same")
  | (refine L2.Same.trans ?_ (by assumption); walk_at "same"))
local macro_rules | `(tactic| walk_at "but") => `(tactic| first
  | assumption
  | exact GG.But.refl
  | (refine GG.But.same ?_ (GG.Same.new (by assumption)); walk_at "but")
  | (refine GG.But.trans ?_ GG.But.set; walk_at "but")
  | (refine GG.But.trans ?_ (by assumption); walk_at "but")
  | (refine GG.But.same ?_ (by assumption); walk_at "but")
  | (refine GG.But.of ?_; walk_at "same"))

namespace K18
open PySem L2 GG
def top (i : Nat) : Stmt := PySem.Challenge.pw_cutshows_k18_basics.main.body.getD i (.Pass ⟨0, 0, 0, 0⟩)
abbrev s_is_integer : Stmt := top 3
theorem sc_is_integer : FnScope ["value"] ["value"] (defScope s_is_integer) := ⟨rfl, rfl, rfl, by decide +kernel, rfl, by decide +kernel, by decide +kernel⟩
abbrev s_is_count : Stmt := top 4
theorem sc_is_count : FnScope ["value"] ["value"] (defScope s_is_count) := ⟨rfl, rfl, rfl, by decide +kernel, rfl, by decide +kernel, by decide +kernel⟩
abbrev s_is_name : Stmt := top 5
theorem sc_is_name : FnScope ["value", "sign"] ["value"] (defScope s_is_name) := ⟨rfl, rfl, rfl, by decide +kernel, rfl, by decide +kernel, by decide +kernel⟩
abbrev s_is_where : Stmt := top 6
theorem sc_is_where : FnScope ["value", "part"] ["value"] (defScope s_is_where) := ⟨rfl, rfl, rfl, by decide +kernel, rfl, by decide +kernel, by decide +kernel⟩
abbrev s_l_pot : Stmt := top 8
theorem sc_l_pot : FnScope ["_law_script", "_law_k", "_law_cell"] ["_law_script", "_law_k"] (defScope s_l_pot) := ⟨rfl, rfl, rfl, by decide +kernel, rfl, by decide +kernel, by decide +kernel⟩
abbrev s_l_draw : Stmt := top 9
theorem sc_l_draw : FnScope ["_law_pot_here", "_law_lot", "_law_digit"] ["_law_pot_here", "_law_lot"] (defScope s_l_draw) := ⟨rfl, rfl, rfl, by decide +kernel, rfl, by decide +kernel, by decide +kernel⟩
abbrev s_l_pick : Stmt := top 10
theorem sc_l_pick : FnScope ["_law_pot_here", "_law_some"] ["_law_pot_here", "_law_some"] (defScope s_l_pick) := ⟨rfl, rfl, rfl, by decide +kernel, rfl, by decide +kernel, by decide +kernel⟩
abbrev s_l_word : Stmt := top 11
theorem sc_l_word : FnScope ["_law_pot_here", "_law_signs", "_law_found", "_law_turn", "_law_k", "_law_way"] ["_law_pot_here"] (defScope s_l_word) := ⟨rfl, rfl, rfl, by decide +kernel, rfl, by decide +kernel, by decide +kernel⟩
abbrev s_l_thing : Stmt := top 12
theorem sc_l_thing : FnScope ["_law_pot_here", "_law_way"] ["_law_pot_here"] (defScope s_l_thing) := ⟨rfl, rfl, rfl, by decide +kernel, rfl, by decide +kernel, by decide +kernel⟩
abbrev s_l_is_number : Stmt := top 13
theorem sc_l_is_number : FnScope ["_law_thing_here"] ["_law_thing_here"] (defScope s_l_is_number) := ⟨rfl, rfl, rfl, by decide +kernel, rfl, by decide +kernel, by decide +kernel⟩
abbrev s_l_is_word : Stmt := top 14
theorem sc_l_is_word : FnScope ["_law_thing_here", "_law_sign"] ["_law_thing_here"] (defScope s_l_is_word) := ⟨rfl, rfl, rfl, by decide +kernel, rfl, by decide +kernel, by decide +kernel⟩
abbrev s_l_is_part : Stmt := top 15
theorem sc_l_is_part : FnScope ["_law_thing_here"] ["_law_thing_here"] (defScope s_l_is_part) := ⟨rfl, rfl, rfl, by decide +kernel, rfl, by decide +kernel, by decide +kernel⟩
abbrev s_l_parts : Stmt := top 16
theorem sc_l_parts : FnScope ["_law_pot_here", "_law_found", "_law_turn"] ["_law_pot_here"] (defScope s_l_parts) := ⟨rfl, rfl, rfl, by decide +kernel, rfl, by decide +kernel, by decide +kernel⟩
abbrev s_l_right : Stmt := top 17
theorem sc_l_right : FnScope ["_law_pot_here", "_law_turn", "_law_thing_here", "_law_parts_here", "_law_told", "_law_due", "_law_is_where_now", "_law_part"] ["_law_pot_here"] (defScope s_l_right) := ⟨rfl, rfl, rfl, by decide +kernel, rfl, by decide +kernel, by decide +kernel⟩
abbrev s_law : Stmt := top 18
theorem sc_law : FnScope ["_law_script", "_law_k"] ["_law_script"] (defScope s_law) := ⟨rfl, rfl, rfl, by decide +kernel, rfl, by decide +kernel, by decide +kernel⟩
structure Txt (K : PySem.W.Frag) (mg : Str → Option Value) (fa : Nat → Addr) (fd : Nat → FuncData) : Prop where
  d_is_integer : DefAt K mg "is_integer" s_is_integer ["value"] (fa 0) (fd 0)
  d_is_count : DefAt K mg "is_count" s_is_count ["value"] (fa 1) (fd 1)
  d_is_name : DefAt K mg "is_name" s_is_name ["value"] (fa 2) (fd 2)
  d_is_where : DefAt K mg "is_where" s_is_where ["value"] (fa 3) (fd 3)
  d_l_pot : DefAt K mg "_law_pot" s_l_pot ["_law_script", "_law_k"] (fa 4) (fd 4)
  d_l_draw : DefAt K mg "_law_draw" s_l_draw ["_law_pot_here", "_law_lot"] (fa 5) (fd 5)
  d_l_pick : DefAt K mg "_law_pick" s_l_pick ["_law_pot_here", "_law_some"] (fa 6) (fd 6)
  d_l_word : DefAt K mg "_law_word" s_l_word ["_law_pot_here"] (fa 7) (fd 7)
  d_l_thing : DefAt K mg "_law_thing" s_l_thing ["_law_pot_here"] (fa 8) (fd 8)
  d_l_is_number : DefAt K mg "_law_is_number" s_l_is_number ["_law_thing_here"] (fa 9) (fd 9)
  d_l_is_word : DefAt K mg "_law_is_word" s_l_is_word ["_law_thing_here"] (fa 10) (fd 10)
  d_l_is_part : DefAt K mg "_law_is_part" s_l_is_part ["_law_thing_here"] (fa 11) (fd 11)
  d_l_parts : DefAt K mg "_law_parts" s_l_parts ["_law_pot_here"] (fa 12) (fd 12)
  d_l_right : DefAt K mg "_law_right" s_l_right ["_law_pot_here"] (fa 13) (fd 13)
  d_law : DefAt K mg "law" s_law ["_law_script"] (fa 14) (fd 14)
  k_is_where_value : KBn K (fd 3) ["value"] 0 ["value"] (pickG [0]) (pickG [0])
  k_is_integer_value : KBn K (fd 0) ["value"] 0 ["value"] (pickG [0]) (pickG [0])
  k_is_count_value : KBn K (fd 1) ["value"] 0 ["value"] (pickG [0]) (pickG [0])
  k_is_name_value : KBn K (fd 2) ["value"] 0 ["value"] (pickG [0]) (pickG [0])
  c_LETTERS : ∃ t, mg "LETTERS" = some (.str "abcdefghijklmnopqrstuvwxyz" t)
  c_LONGEST_NAME : ∃ t, mg "LONGEST_NAME" = some (.int 8 t)
  b_abs : mg "abs" = none
  b_all : mg "all" = none
  b_bool : mg "bool" = none
  b_divmod : mg "divmod" = none
  b_int : mg "int" = none
  b_isinstance : mg "isinstance" = none
  b_len : mg "len" = none
  b_max : mg "max" = none
  b_min : mg "min" = none
  b_range : mg "range" = none
  b_repr : mg "repr" = none
  b_str : mg "str" = none
  b_tuple : mg "tuple" = none
theorem all_mk {K : PySem.W.Frag} {h : Heap} {mg : Str → Option Value} (X : K.In h) (G : h.Ns mainGlobals mg)
    {f0 f1 f2 f3 f4 f5 f6 f7 f8 f9 f10 f11 f12 f13 f14 : Addr}
    {oc0 : Value} {od0 : Option Addr} {sl0 : Array (Option Value)} {kV0 dc0 pm0 cd0 ct0 : Value} {an0 : Option Addr}
    {oc1 : Value} {od1 : Option Addr} {sl1 : Array (Option Value)} {kV1 dc1 pm1 cd1 ct1 : Value} {an1 : Option Addr}
    {oc2 : Value} {od2 : Option Addr} {sl2 : Array (Option Value)} {kV2 dc2 pm2 cd2 ct2 : Value} {an2 : Option Addr}
    {oc3 : Value} {od3 : Option Addr} {sl3 : Array (Option Value)} {kV3 dc3 pm3 cd3 ct3 : Value} {an3 : Option Addr}
    {oc4 : Value} {od4 : Option Addr} {sl4 : Array (Option Value)} {kV4 dc4 pm4 cd4 ct4 : Value} {an4 : Option Addr}
    {oc5 : Value} {od5 : Option Addr} {sl5 : Array (Option Value)} {kV5 dc5 pm5 cd5 ct5 : Value} {an5 : Option Addr}
    {oc6 : Value} {od6 : Option Addr} {sl6 : Array (Option Value)} {kV6 dc6 pm6 cd6 ct6 : Value} {an6 : Option Addr}
    {oc7 : Value} {od7 : Option Addr} {sl7 : Array (Option Value)} {kV7 dc7 pm7 cd7 ct7 : Value} {an7 : Option Addr}
    {oc8 : Value} {od8 : Option Addr} {sl8 : Array (Option Value)} {kV8 dc8 pm8 cd8 ct8 : Value} {an8 : Option Addr}
    {oc9 : Value} {od9 : Option Addr} {sl9 : Array (Option Value)} {kV9 dc9 pm9 cd9 ct9 : Value} {an9 : Option Addr}
    {oc10 : Value} {od10 : Option Addr} {sl10 : Array (Option Value)} {kV10 dc10 pm10 cd10 ct10 : Value} {an10 : Option Addr}
    {oc11 : Value} {od11 : Option Addr} {sl11 : Array (Option Value)} {kV11 dc11 pm11 cd11 ct11 : Value} {an11 : Option Addr}
    {oc12 : Value} {od12 : Option Addr} {sl12 : Array (Option Value)} {kV12 dc12 pm12 cd12 ct12 : Value} {an12 : Option Addr}
    {oc13 : Value} {od13 : Option Addr} {sl13 : Array (Option Value)} {kV13 dc13 pm13 cd13 ct13 : Value} {an13 : Option Addr}
    {oc14 : Value} {od14 : Option Addr} {sl14 : Array (Option Value)} {kV14 dc14 pm14 cd14 ct14 : Value} {an14 : Option Addr}
    (a0 : PySem.W.nsIn K mainGlobals "is_integer" = some (some (.ref f0)))
    (l0 : K.lookup f0 = some ⟨oc0, od0, .func (PySem.W.fnOf "is_integer" "is_integer" (defArgs s_is_integer) (defBody s_is_integer) (defScope s_is_integer) .none kV0 dc0 pm0 an0 cd0 ct0), sl0⟩)
    (c0 : PySem.W.codeIn K cd0 "is_integer" = true) (k0 : PySem.W.keepIn K (.ref f0) = true)
    (a1 : PySem.W.nsIn K mainGlobals "is_count" = some (some (.ref f1)))
    (l1 : K.lookup f1 = some ⟨oc1, od1, .func (PySem.W.fnOf "is_count" "is_count" (defArgs s_is_count) (defBody s_is_count) (defScope s_is_count) .none kV1 dc1 pm1 an1 cd1 ct1), sl1⟩)
    (c1 : PySem.W.codeIn K cd1 "is_count" = true) (k1 : PySem.W.keepIn K (.ref f1) = true)
    (a2 : PySem.W.nsIn K mainGlobals "is_name" = some (some (.ref f2)))
    (l2 : K.lookup f2 = some ⟨oc2, od2, .func (PySem.W.fnOf "is_name" "is_name" (defArgs s_is_name) (defBody s_is_name) (defScope s_is_name) .none kV2 dc2 pm2 an2 cd2 ct2), sl2⟩)
    (c2 : PySem.W.codeIn K cd2 "is_name" = true) (k2 : PySem.W.keepIn K (.ref f2) = true)
    (a3 : PySem.W.nsIn K mainGlobals "is_where" = some (some (.ref f3)))
    (l3 : K.lookup f3 = some ⟨oc3, od3, .func (PySem.W.fnOf "is_where" "is_where" (defArgs s_is_where) (defBody s_is_where) (defScope s_is_where) .none kV3 dc3 pm3 an3 cd3 ct3), sl3⟩)
    (c3 : PySem.W.codeIn K cd3 "is_where" = true) (k3 : PySem.W.keepIn K (.ref f3) = true)
    (a4 : PySem.W.nsIn K mainGlobals "_law_pot" = some (some (.ref f4)))
    (l4 : K.lookup f4 = some ⟨oc4, od4, .func (PySem.W.fnOf "_law_pot" "_law_pot" (defArgs s_l_pot) (defBody s_l_pot) (defScope s_l_pot) .none kV4 dc4 pm4 an4 cd4 ct4), sl4⟩)
    (c4 : PySem.W.codeIn K cd4 "_law_pot" = true) (k4 : PySem.W.keepIn K (.ref f4) = true)
    (a5 : PySem.W.nsIn K mainGlobals "_law_draw" = some (some (.ref f5)))
    (l5 : K.lookup f5 = some ⟨oc5, od5, .func (PySem.W.fnOf "_law_draw" "_law_draw" (defArgs s_l_draw) (defBody s_l_draw) (defScope s_l_draw) .none kV5 dc5 pm5 an5 cd5 ct5), sl5⟩)
    (c5 : PySem.W.codeIn K cd5 "_law_draw" = true) (k5 : PySem.W.keepIn K (.ref f5) = true)
    (a6 : PySem.W.nsIn K mainGlobals "_law_pick" = some (some (.ref f6)))
    (l6 : K.lookup f6 = some ⟨oc6, od6, .func (PySem.W.fnOf "_law_pick" "_law_pick" (defArgs s_l_pick) (defBody s_l_pick) (defScope s_l_pick) .none kV6 dc6 pm6 an6 cd6 ct6), sl6⟩)
    (c6 : PySem.W.codeIn K cd6 "_law_pick" = true) (k6 : PySem.W.keepIn K (.ref f6) = true)
    (a7 : PySem.W.nsIn K mainGlobals "_law_word" = some (some (.ref f7)))
    (l7 : K.lookup f7 = some ⟨oc7, od7, .func (PySem.W.fnOf "_law_word" "_law_word" (defArgs s_l_word) (defBody s_l_word) (defScope s_l_word) .none kV7 dc7 pm7 an7 cd7 ct7), sl7⟩)
    (c7 : PySem.W.codeIn K cd7 "_law_word" = true) (k7 : PySem.W.keepIn K (.ref f7) = true)
    (a8 : PySem.W.nsIn K mainGlobals "_law_thing" = some (some (.ref f8)))
    (l8 : K.lookup f8 = some ⟨oc8, od8, .func (PySem.W.fnOf "_law_thing" "_law_thing" (defArgs s_l_thing) (defBody s_l_thing) (defScope s_l_thing) .none kV8 dc8 pm8 an8 cd8 ct8), sl8⟩)
    (c8 : PySem.W.codeIn K cd8 "_law_thing" = true) (k8 : PySem.W.keepIn K (.ref f8) = true)
    (a9 : PySem.W.nsIn K mainGlobals "_law_is_number" = some (some (.ref f9)))
    (l9 : K.lookup f9 = some ⟨oc9, od9, .func (PySem.W.fnOf "_law_is_number" "_law_is_number" (defArgs s_l_is_number) (defBody s_l_is_number) (defScope s_l_is_number) .none kV9 dc9 pm9 an9 cd9 ct9), sl9⟩)
    (c9 : PySem.W.codeIn K cd9 "_law_is_number" = true) (k9 : PySem.W.keepIn K (.ref f9) = true)
    (a10 : PySem.W.nsIn K mainGlobals "_law_is_word" = some (some (.ref f10)))
    (l10 : K.lookup f10 = some ⟨oc10, od10, .func (PySem.W.fnOf "_law_is_word" "_law_is_word" (defArgs s_l_is_word) (defBody s_l_is_word) (defScope s_l_is_word) .none kV10 dc10 pm10 an10 cd10 ct10), sl10⟩)
    (c10 : PySem.W.codeIn K cd10 "_law_is_word" = true) (k10 : PySem.W.keepIn K (.ref f10) = true)
    (a11 : PySem.W.nsIn K mainGlobals "_law_is_part" = some (some (.ref f11)))
    (l11 : K.lookup f11 = some ⟨oc11, od11, .func (PySem.W.fnOf "_law_is_part" "_law_is_part" (defArgs s_l_is_part) (defBody s_l_is_part) (defScope s_l_is_part) .none kV11 dc11 pm11 an11 cd11 ct11), sl11⟩)
    (c11 : PySem.W.codeIn K cd11 "_law_is_part" = true) (k11 : PySem.W.keepIn K (.ref f11) = true)
    (a12 : PySem.W.nsIn K mainGlobals "_law_parts" = some (some (.ref f12)))
    (l12 : K.lookup f12 = some ⟨oc12, od12, .func (PySem.W.fnOf "_law_parts" "_law_parts" (defArgs s_l_parts) (defBody s_l_parts) (defScope s_l_parts) .none kV12 dc12 pm12 an12 cd12 ct12), sl12⟩)
    (c12 : PySem.W.codeIn K cd12 "_law_parts" = true) (k12 : PySem.W.keepIn K (.ref f12) = true)
    (a13 : PySem.W.nsIn K mainGlobals "_law_right" = some (some (.ref f13)))
    (l13 : K.lookup f13 = some ⟨oc13, od13, .func (PySem.W.fnOf "_law_right" "_law_right" (defArgs s_l_right) (defBody s_l_right) (defScope s_l_right) .none kV13 dc13 pm13 an13 cd13 ct13), sl13⟩)
    (c13 : PySem.W.codeIn K cd13 "_law_right" = true) (k13 : PySem.W.keepIn K (.ref f13) = true)
    (a14 : PySem.W.nsIn K mainGlobals "law" = some (some (.ref f14)))
    (l14 : K.lookup f14 = some ⟨oc14, od14, .func (PySem.W.fnOf "law" "law" (defArgs s_law) (defBody s_law) (defScope s_law) .none kV14 dc14 pm14 an14 cd14 ct14), sl14⟩)
    (c14 : PySem.W.codeIn K cd14 "law" = true) (k14 : PySem.W.keepIn K (.ref f14) = true)
    {t_LETTERS : Tok} (g_LETTERS : PySem.W.nsIn K mainGlobals "LETTERS" = some (some (.str "abcdefghijklmnopqrstuvwxyz" t_LETTERS)))
    {t_LONGEST_NAME : Tok} (g_LONGEST_NAME : PySem.W.nsIn K mainGlobals "LONGEST_NAME" = some (some (.int 8 t_LONGEST_NAME)))
    (z_abs : PySem.W.nsIn K mainGlobals "abs" = some none)
    (z_all : PySem.W.nsIn K mainGlobals "all" = some none)
    (z_bool : PySem.W.nsIn K mainGlobals "bool" = some none)
    (z_divmod : PySem.W.nsIn K mainGlobals "divmod" = some none)
    (z_int : PySem.W.nsIn K mainGlobals "int" = some none)
    (z_isinstance : PySem.W.nsIn K mainGlobals "isinstance" = some none)
    (z_len : PySem.W.nsIn K mainGlobals "len" = some none)
    (z_max : PySem.W.nsIn K mainGlobals "max" = some none)
    (z_min : PySem.W.nsIn K mainGlobals "min" = some none)
    (z_range : PySem.W.nsIn K mainGlobals "range" = some none)
    (z_repr : PySem.W.nsIn K mainGlobals "repr" = some none)
    (z_str : PySem.W.nsIn K mainGlobals "str" = some none)
    (z_tuple : PySem.W.nsIn K mainGlobals "tuple" = some none)
    : ∃ (fa : Nat → Addr) (fd : Nat → FuncData), (∃ kV dc pm an cd ct, fd 14 = PySem.W.fnOf "law" "law" (defArgs s_law) (defBody s_law) (defScope s_law) .none kV dc pm an cd ct) ∧ Txt K mg fa fd := by
  have F0 := fun_mk (st := s_is_integer) l0 c0 k0
  have F1 := fun_mk (st := s_is_count) l1 c1 k1
  have F2 := fun_mk (st := s_is_name) l2 c2 k2
  have F3 := fun_mk (st := s_is_where) l3 c3 k3
  have F4 := fun_mk (st := s_l_pot) l4 c4 k4
  have F5 := fun_mk (st := s_l_draw) l5 c5 k5
  have F6 := fun_mk (st := s_l_pick) l6 c6 k6
  have F7 := fun_mk (st := s_l_word) l7 c7 k7
  have F8 := fun_mk (st := s_l_thing) l8 c8 k8
  have F9 := fun_mk (st := s_l_is_number) l9 c9 k9
  have F10 := fun_mk (st := s_l_is_word) l10 c10 k10
  have F11 := fun_mk (st := s_l_is_part) l11 c11 k11
  have F12 := fun_mk (st := s_l_parts) l12 c12 k12
  have F13 := fun_mk (st := s_l_right) l13 c13 k13
  have F14 := fun_mk (st := s_law) l14 c14 k14
  refine ⟨fun i => ([f0, f1, f2, f3, f4, f5, f6, f7, f8, f9, f10, f11, f12, f13, f14] : List Addr).getD i 0, fun i => ([PySem.W.fnOf "is_integer" "is_integer" (defArgs s_is_integer) (defBody s_is_integer) (defScope s_is_integer) .none kV0 dc0 pm0 an0 cd0 ct0, PySem.W.fnOf "is_count" "is_count" (defArgs s_is_count) (defBody s_is_count) (defScope s_is_count) .none kV1 dc1 pm1 an1 cd1 ct1, PySem.W.fnOf "is_name" "is_name" (defArgs s_is_name) (defBody s_is_name) (defScope s_is_name) .none kV2 dc2 pm2 an2 cd2 ct2, PySem.W.fnOf "is_where" "is_where" (defArgs s_is_where) (defBody s_is_where) (defScope s_is_where) .none kV3 dc3 pm3 an3 cd3 ct3, PySem.W.fnOf "_law_pot" "_law_pot" (defArgs s_l_pot) (defBody s_l_pot) (defScope s_l_pot) .none kV4 dc4 pm4 an4 cd4 ct4, PySem.W.fnOf "_law_draw" "_law_draw" (defArgs s_l_draw) (defBody s_l_draw) (defScope s_l_draw) .none kV5 dc5 pm5 an5 cd5 ct5, PySem.W.fnOf "_law_pick" "_law_pick" (defArgs s_l_pick) (defBody s_l_pick) (defScope s_l_pick) .none kV6 dc6 pm6 an6 cd6 ct6, PySem.W.fnOf "_law_word" "_law_word" (defArgs s_l_word) (defBody s_l_word) (defScope s_l_word) .none kV7 dc7 pm7 an7 cd7 ct7, PySem.W.fnOf "_law_thing" "_law_thing" (defArgs s_l_thing) (defBody s_l_thing) (defScope s_l_thing) .none kV8 dc8 pm8 an8 cd8 ct8, PySem.W.fnOf "_law_is_number" "_law_is_number" (defArgs s_l_is_number) (defBody s_l_is_number) (defScope s_l_is_number) .none kV9 dc9 pm9 an9 cd9 ct9, PySem.W.fnOf "_law_is_word" "_law_is_word" (defArgs s_l_is_word) (defBody s_l_is_word) (defScope s_l_is_word) .none kV10 dc10 pm10 an10 cd10 ct10, PySem.W.fnOf "_law_is_part" "_law_is_part" (defArgs s_l_is_part) (defBody s_l_is_part) (defScope s_l_is_part) .none kV11 dc11 pm11 an11 cd11 ct11, PySem.W.fnOf "_law_parts" "_law_parts" (defArgs s_l_parts) (defBody s_l_parts) (defScope s_l_parts) .none kV12 dc12 pm12 an12 cd12 ct12, PySem.W.fnOf "_law_right" "_law_right" (defArgs s_l_right) (defBody s_l_right) (defScope s_l_right) .none kV13 dc13 pm13 an13 cd13 ct13, PySem.W.fnOf "law" "law" (defArgs s_law) (defBody s_law) (defScope s_law) .none kV14 dc14 pm14 an14 cd14 ct14] : List FuncData).getD i (PySem.W.fnOf "law" "law" (defArgs s_law) (defBody s_law) (defScope s_law) .none .none .none .none none .none .none), ⟨_, _, _, _, _, _, rfl⟩, ?_⟩
  exact {
    d_is_integer := ⟨F0, PySem.W.mg_of X G a0, F0.binds (ps := ["value"]) fun _ _ _ _ _ _ us hl => match us, hl with | [_], _ => rfl⟩
    d_is_count := ⟨F1, PySem.W.mg_of X G a1, F1.binds (ps := ["value"]) fun _ _ _ _ _ _ us hl => match us, hl with | [_], _ => rfl⟩
    d_is_name := ⟨F2, PySem.W.mg_of X G a2, F2.binds (ps := ["value"]) fun _ _ _ _ _ _ us hl => match us, hl with | [_], _ => rfl⟩
    d_is_where := ⟨F3, PySem.W.mg_of X G a3, F3.binds (ps := ["value"]) fun _ _ _ _ _ _ us hl => match us, hl with | [_], _ => rfl⟩
    d_l_pot := ⟨F4, PySem.W.mg_of X G a4, F4.binds (ps := ["_law_script", "_law_k"]) fun _ _ _ _ _ _ us hl => match us, hl with | [_, _], _ => rfl⟩
    d_l_draw := ⟨F5, PySem.W.mg_of X G a5, F5.binds (ps := ["_law_pot_here", "_law_lot"]) fun _ _ _ _ _ _ us hl => match us, hl with | [_, _], _ => rfl⟩
    d_l_pick := ⟨F6, PySem.W.mg_of X G a6, F6.binds (ps := ["_law_pot_here", "_law_some"]) fun _ _ _ _ _ _ us hl => match us, hl with | [_, _], _ => rfl⟩
    d_l_word := ⟨F7, PySem.W.mg_of X G a7, F7.binds (ps := ["_law_pot_here"]) fun _ _ _ _ _ _ us hl => match us, hl with | [_], _ => rfl⟩
    d_l_thing := ⟨F8, PySem.W.mg_of X G a8, F8.binds (ps := ["_law_pot_here"]) fun _ _ _ _ _ _ us hl => match us, hl with | [_], _ => rfl⟩
    d_l_is_number := ⟨F9, PySem.W.mg_of X G a9, F9.binds (ps := ["_law_thing_here"]) fun _ _ _ _ _ _ us hl => match us, hl with | [_], _ => rfl⟩
    d_l_is_word := ⟨F10, PySem.W.mg_of X G a10, F10.binds (ps := ["_law_thing_here"]) fun _ _ _ _ _ _ us hl => match us, hl with | [_], _ => rfl⟩
    d_l_is_part := ⟨F11, PySem.W.mg_of X G a11, F11.binds (ps := ["_law_thing_here"]) fun _ _ _ _ _ _ us hl => match us, hl with | [_], _ => rfl⟩
    d_l_parts := ⟨F12, PySem.W.mg_of X G a12, F12.binds (ps := ["_law_pot_here"]) fun _ _ _ _ _ _ us hl => match us, hl with | [_], _ => rfl⟩
    d_l_right := ⟨F13, PySem.W.mg_of X G a13, F13.binds (ps := ["_law_pot_here"]) fun _ _ _ _ _ _ us hl => match us, hl with | [_], _ => rfl⟩
    d_law := ⟨F14, PySem.W.mg_of X G a14, F14.binds (ps := ["_law_script"]) fun _ _ _ _ _ _ us hl => match us, hl with | [_], _ => rfl⟩
    k_is_where_value := kb_of F3 0 ["value"] [0] fun _ _ _ _ _ _ us ws h1 h2 => match us, ws, h1, h2 with | [], [_], _, _ => rfl
    k_is_integer_value := kb_of F0 0 ["value"] [0] fun _ _ _ _ _ _ us ws h1 h2 => match us, ws, h1, h2 with | [], [_], _, _ => rfl
    k_is_count_value := kb_of F1 0 ["value"] [0] fun _ _ _ _ _ _ us ws h1 h2 => match us, ws, h1, h2 with | [], [_], _, _ => rfl
    k_is_name_value := kb_of F2 0 ["value"] [0] fun _ _ _ _ _ _ us ws h1 h2 => match us, ws, h1, h2 with | [], [_], _, _ => rfl
    c_LETTERS := ⟨_, PySem.W.mg_of X G g_LETTERS⟩
    c_LONGEST_NAME := ⟨_, PySem.W.mg_of X G g_LONGEST_NAME⟩
    b_abs := PySem.W.mg_none_of X G z_abs
    b_all := PySem.W.mg_none_of X G z_all
    b_bool := PySem.W.mg_none_of X G z_bool
    b_divmod := PySem.W.mg_none_of X G z_divmod
    b_int := PySem.W.mg_none_of X G z_int
    b_isinstance := PySem.W.mg_none_of X G z_isinstance
    b_len := PySem.W.mg_none_of X G z_len
    b_max := PySem.W.mg_none_of X G z_max
    b_min := PySem.W.mg_none_of X G z_min
    b_range := PySem.W.mg_none_of X G z_range
    b_repr := PySem.W.mg_none_of X G z_repr
    b_str := PySem.W.mg_none_of X G z_str
    b_tuple := PySem.W.mg_none_of X G z_tuple
  }
end K18
namespace K18
open PySem L2 GG
structure Pot (H : Hp) (p : Addr) : Prop where
  ex : ∃ a b : Int, At H p (.lst [.int a, .int b]) ∧ 0 ≤ a ∧ 0 ≤ b ∧ b < 2147483648
def spPot (K : PySem.W.Frag) : Sp := fun vs H Q _ => ∃ (a : Addr) (ns : List Int) (k : Int), vs = [.ref a, .int k] ∧
  SqL K H a (ns.map V.int) ∧ 0 ≤ k ∧ k < 1000 ∧ ns.length ≤ 1000 ∧
  ∀ p o, Nn H p → Pot (upd H p o) p → Q (.ref p) (upd H p o)
def spDraw : Sp := fun vs H Q _ => ∃ (p : Addr) (n : Int), vs = [.ref p, .int n] ∧ Pot H p ∧ 0 < n ∧ n ≤ 1000000 ∧
  ∀ d H', 0 ≤ d → d < n → Pot H' p → But p H H' → Q (.int d) H'
/-- one of some values -/
def spPick (K : PySem.W.Frag) : Sp := fun vs H Q _ => ∃ (p a : Addr) (xs : List V), vs = [.ref p, .ref a] ∧ Pot H p ∧ SqL K H a xs ∧ a ≠ p ∧ 0 < xs.length ∧ xs.length ≤ 1000 ∧
  ∀ x H', x ∈ xs → Pot H' p → But p H H' → Q x H'
def isIntV : V → Bool
  | .int _ => true
  | _ => false
def countV : V → Bool
  | .int i => decide (0 ≤ i)
  | _ => false
def LETT : Str := "abcdefghijklmnopqrstuvwxyz"
def nameB (z : Str) : Bool := decide (1 ≤ z.length) && (decide (z.length ≤ 8) && z.cps.toList.all fun c => decide (c ∈ LETT.cps.toList))
def nameV : V → Bool
  | .str z => nameB z
  | _ => false
def partV : V → Bool
  | .str z => nameB z
  | .int i => decide (1 ≤ i)
  | _ => false
def Ok (K : PySem.W.Frag) (H : Hp) (x : V) : Prop := ∃ n, Kn K H x n ∧ ∀ z, x = .str z → z.length ≤ 1000
theorem Ok.same {K : PySem.W.Frag} {H H' : Hp} {x : V} (e : Same H H') (h : Ok K H x) : Ok K H' x := by
  obtain ⟨n, k, z⟩ := h
  exact ⟨n, k.same e, z⟩
def spB (K : PySem.W.Frag) (g : V → Bool) : Sp := fun vs H Q _ => ∃ x, vs = [x] ∧ Ok K H x ∧ ∀ H', Same H H' → Q (.bl (g x)) H'
section
variable {P : Program} {w : World} {K : PySem.W.Frag} {mg : Str → Option Value} {base : Heap} {fa : Nat → Addr} {fd : Nat → FuncData}
theorem ok_l_pot (T : Txt K mg fa fd) : FnOk P w K mg base CX0 1 (fa 4) (fd 4) ["_law_script", "_law_k"] (spPot K) := by
  refine T.d_l_pot.F.ok sc_l_pot (fun vs H Q E h => ?_) (fun cdv A outer s H vs Q E hr h => ?_)
  · obtain ⟨a, ns, k, rfl, _⟩ := h
    rfl
  · obtain ⟨a, ns, k, rfl, hS, k0, k1, hl, q⟩ := h
    refine ⟨_, (pss_cons (ps_set (i := 2) sc_l_pot.nd rfl (.inl rfl) (pe_op op_add (pe_op op_mul pe_int (pv 1)) pe_int))
      (C8.pss_cut (ps_if (pt_cmpR op_lt (pv 1) (pe_callB call_len (by rfl) T.b_len (by decide +kernel) (pa_cons (pv 0) pa_nil)) (nomark _)) (pss_one (ps_set (i := 2) sc_l_pot.nd rfl (.inl rfl) (pe_callB call_abs (by rfl) T.b_abs (by decide +kernel) (pa_cons (pe_ix ix_list (pv 0) (pv 1) (fun _ _ => rfl)) pa_nil)))) pss_nil)
      (pss_one (ps_ret (pe_lst (pa_cons (pe_callB (call_max2 rfl) (by rfl) T.b_max (by decide +kernel) (pa_cons pe_int (pa_cons (pe_op op_sub (pv 2) (pe_op op_pow pe_int pe_int)) pa_nil))) (pa_cons (pe_op op_add (pe_op op_mod (pe_op op_mul (pe_callTy call_int1 (by rfl) T.b_int (by decide +kernel) (pa_cons (pe_op op_add (pe_op op_mod (pe_callTy call_int1 (by rfl) T.b_int (by decide +kernel) (pa_cons (pv 2) pa_nil)) pe_int) pe_int) pa_nil)) (pe_op op_pow (pe_op op_add (pe_op op_mul pe_int (pv 1)) pe_int) pe_int)) pe_int) pe_int) pa_nil))))))), ?_⟩
    walk_at "go"
    refine ⟨fun σ' H' => H' = H ∧ ∃ c : Int, σ' = [some (.ref a), some (.int k), some (.int c)], ?_, ?_⟩
    · walk_at "go"
      refine iteD (fun h => ?_) (fun h => ?_)
      · obtain ⟨z, hz⟩ := atI_ints (ns := ns) k0 (by simpa using h)
        refine ⟨_, rfl, _, rfl, _, _, _, _, rfl, rfl, hS, hz, ?_⟩
        walk_at "go"
        exact ⟨_, rfl⟩
      · exact ⟨rfl, _, rfl⟩
    · rintro σ' H' ⟨rfl, c, rfl⟩
      walk_at "go"
      intro p np
      refine q p _ np ⟨_, _, at_same, ?_, ?_, ?_⟩
      · split <;> omega
      · show 0 ≤ _ % (2147483477 : Int) + 1
        omega
      · show _ % (2147483477 : Int) + 1 < _
        omega
theorem ok_l_draw (T : Txt K mg fa fd) : FnOk P w K mg base CX0 1 (fa 5) (fd 5) ["_law_pot_here", "_law_lot"] spDraw := by
  refine T.d_l_draw.F.ok sc_l_draw (fun vs H Q E h => ?_) (fun cdv A outer s H vs Q E hr h => ?_)
  · obtain ⟨p, n, rfl, _⟩ := h
    rfl
  · obtain ⟨p, n, rfl, ⟨x, y, hp, x0, y0, y1⟩, n0, n1, q⟩ := h
    refine ⟨_, (pss_cons (ps_if (pt_cmpR op_gt (pe_ix ix_list (pv 0) pe_int (fun _ _ => rfl)) pe_int (nomark _)) (pss_cons (ps_asg (pe_callB call_divmodW (by rfl) T.b_divmod (by decide +kernel) (pa_cons (pe_ix ix_list (pv 0) pe_int (fun _ _ => rfl)) (pa_cons (pv 1) pa_nil))) (pg_tup rfl (pgs_cons (pg_sub (pv 0) pe_int set_list) (pgs_cons (pg_name (i := 2) sc_l_draw.nd rfl (.inl rfl)) pgs_nil))))
      (pss_one (ps_ret (pv 2)))) pss_nil)
      (pss_cons (ps_asg (pe_op op_mod (pe_callTy call_int1 (by rfl) T.b_int (by decide +kernel) (pa_cons (pe_op op_add (pe_op op_mul (pe_ix ix_list (pv 0) pe_int (fun _ _ => rfl)) pe_int) pe_int) pa_nil)) pe_int) (pg_sub (pv 0) pe_int set_list))
      (pss_one (ps_ret (pe_op op_mod (pe_callTy call_int1 (by rfl) T.b_int (by decide +kernel) (pa_cons (pe_op op_fdiv (pe_op op_mod (pe_callTy call_int1 (by rfl) T.b_int (by decide +kernel) (pa_cons (pe_op op_mul (pe_ix ix_list (pv 0) pe_int (fun _ _ => rfl)) (pe_ix ix_list (pv 0) pe_int (fun _ _ => rfl))) pa_nil)) pe_int) pe_int) pa_nil)) (pv 1)))))), ?_⟩
    walk_at "go"
    refine iteD (fun h => ?_) (fun h => ?_)
    · walk_at "go"
      refine ⟨⟨n0, PyProof.noPylong_small (by omega)⟩, fun t nt => ?_⟩
      have nt' : Nn H t := nt
      walk_at "go"
      refine q _ _ (Int.emod_nonneg _ (by omega)) (Int.emod_lt_of_pos _ n0) ⟨_, _, at_same, Int.ediv_nonneg x0 (by omega), y0, y1⟩ ((But.new nt').trans But.set)
    · walk_at "go"
      refine q _ _ (Int.emod_nonneg _ (by omega)) (Int.emod_lt_of_pos _ n0) ⟨_, _, at_same, x0, ?_, ?_⟩ But.set
      · exact Int.emod_nonneg _ (by decide)
      · exact Int.lt_trans (Int.emod_lt_of_pos _ (by decide)) (by decide)
theorem ok_l_pick (T : Txt K mg fa fd) : FnOk P w K mg base CX0 2 (fa 6) (fd 6) ["_law_pot_here", "_law_some"] (spPick K) := by
  refine T.d_l_pick.F.ok sc_l_pick (fun vs H Q E h => ?_) (fun cdv A outer s H vs Q E hr h => ?_)
  · obtain ⟨p, a, xs, rfl, _⟩ := h
    rfl
  · obtain ⟨p, a, xs, rfl, hp, hs, ne, l0, l1, q⟩ := h
    refine ⟨_, (pss_one (ps_ret (pe_ix ix_list (pv 1) (pe_call (ok_l_draw T) (hr.mono (by decide)) (by rfl) T.d_l_draw.at_ T.d_l_draw.kp T.d_l_draw.b .nil pass0 (pa_cons (pv 0) (pa_cons (pe_callB call_len (by rfl) T.b_len (by decide +kernel) (pa_cons (pv 1) pa_nil)) pa_nil))) (fun _ _ => rfl)))), ?_⟩
    walk_at "go"
    refine ⟨hp, by omega, by omega, fun d H' d0 d1 hp' hb => ?_⟩
    obtain ⟨v, hv, ha⟩ := atI_of (xs := xs) d0 (by simpa using d1)
    exact ⟨_, _, _, _, rfl, rfl, SqL.but hb ne hs, ha, q _ _ (List.mem_of_getElem? hv) hp' hb⟩
theorem ok_is_integer (T : Txt K mg fa fd) : FnOk P w K mg base CX0 1 (fa 0) (fd 0) ["value"] (spB K isIntV) := by
  refine T.d_is_integer.F.ok sc_is_integer (fun vs H Q E h => ?_) (fun cdv A outer s H vs Q E hr h => ?_)
  · obtain ⟨x, rfl, _⟩ := h
    rfl
  · obtain ⟨x, rfl, ⟨n, kn, _⟩, q⟩ := h
    refine ⟨_, (pss_one (ps_ret (pe_and (pe_callB call_isi (by rfl) T.b_isinstance (by decide +kernel) (pa_cons (pv 0) (pa_cons (pe_bltn (v := .ty "int") (by rfl) T.b_int (by decide +kernel) rfl) pa_nil))) (pe_one (pe_not (pe_callB call_isi (by rfl) T.b_isinstance (by decide +kernel) (pa_cons (pv 0) (pa_cons (pe_bltn (v := .ty "bool") (by rfl) T.b_bool (by decide +kernel) rfl) pa_nil)))))))), ?_⟩
    walk_at "go"
    cases kn
    all_goals first
      | (refine iteF ?_; exact q H (Same.refl H))
      | (refine iteT ?_; walk_at "go"; exact q H (Same.refl H))
theorem ok_l_is_number (T : Txt K mg fa fd) : FnOk P w K mg base CX0 1 (fa 9) (fd 9) ["_law_thing_here"] (spB K isIntV) := by
  refine T.d_l_is_number.F.ok sc_l_is_number (fun vs H Q E h => ?_) (fun cdv A outer s H vs Q E hr h => ?_)
  · obtain ⟨x, rfl, _⟩ := h
    rfl
  · obtain ⟨x, rfl, ⟨n, kn, _⟩, q⟩ := h
    refine ⟨_, (pss_one (ps_ret (pe_and (pe_callB call_isi (by rfl) T.b_isinstance (by decide +kernel) (pa_cons (pv 0) (pa_cons (pe_bltn (v := .ty "int") (by rfl) T.b_int (by decide +kernel) rfl) pa_nil))) (pe_one (pe_not (pe_callB call_isi (by rfl) T.b_isinstance (by decide +kernel) (pa_cons (pv 0) (pa_cons (pe_bltn (v := .ty "bool") (by rfl) T.b_bool (by decide +kernel) rfl) pa_nil)))))))), ?_⟩
    walk_at "go"
    cases kn
    all_goals first
      | (refine iteF ?_; exact q H (Same.refl H))
      | (refine iteT ?_; walk_at "go"; exact q H (Same.refl H))
theorem ok_is_count (T : Txt K mg fa fd) : FnOk P w K mg base CX0 2 (fa 1) (fd 1) ["value"] (spB K countV) := by
  refine T.d_is_count.F.ok sc_is_count (fun vs H Q E h => ?_) (fun cdv A outer s H vs Q E hr h => ?_)
  · obtain ⟨x, rfl, _⟩ := h
    rfl
  · obtain ⟨x, rfl, ⟨n, kn, hz⟩, q⟩ := h
    refine ⟨_, (pss_one (ps_ret (pe_and (pe_call (ok_is_integer T) (hr.mono (by decide)) (by rfl) T.d_is_integer.at_ T.d_is_integer.kp T.d_is_integer.b .nil pass0 (pa_cons (pv 0) pa_nil)) (pe_one (pe_cmpR op_ge (pv 0) pe_int (nomark _)))))), ?_⟩
    walk_at "go"
    refine ⟨⟨n, kn, hz⟩, fun H' e => ⟨_, rfl, ?_⟩⟩
    cases kn
    all_goals first
      | (refine iteF ?_; exact q H' e)
      | (refine iteT ?_; walk_at "go"; exact q H' e)
theorem ok_is_name (T : Txt K mg fa fd) : FnOk P w K mg base CX0 1 (fa 2) (fd 2) ["value"] (spB K nameV) := by
  refine T.d_is_name.F.ok sc_is_name (fun vs H Q E h => ?_) (fun cdv A outer s H vs Q E hr h => ?_)
  · obtain ⟨x, rfl, _⟩ := h
    rfl
  · obtain ⟨x, rfl, ⟨n, kn, hz⟩, q⟩ := h
    refine ⟨_, (pss_cons (ps_if (PW.pt (pw_or (pt_not (pt_val (pe_callB call_isi (by rfl) T.b_isinstance (by decide +kernel) (pa_cons (pv 0) (pa_cons (pe_bltn (v := .ty "str") (by rfl) T.b_str (by decide +kernel) rfl) pa_nil))))) (pw_or1 (pt_not (pt_chain op_le op_le pe_int (pe_callB call_len (by rfl) T.b_len (by decide +kernel) (pa_cons (pv 0) pa_nil)) (GG.pe_gInt (by rfl) T.c_LONGEST_NAME)))))) (pss_one (ps_ret pe_bl)) pss_nil)
      (pss_one (ps_ret (pe_callB (cr_all rfl) (by rfl) T.b_all (by decide +kernel) (pa_cons (pe_lc (own := [("sign", 1)]) (g := gName 1) (tt := tYes) rfl sc_is_name.nd (pi_str (pv 0)) (blkOk_by (own := [("sign", 1)]) (N := ["value", "sign"]) (sc := defScope s_is_name) (by decide +kernel)) (fun _ _ _ _ _ => pg_name (i := 1) sc_is_name.nd rfl (Or.inl rfl)) (fun _ _ _ _ _ => pts_nil) (fun _ _ _ _ _ => (pe_cmpR op_in_sign (pv 1) (GG.pe_gStr (by rfl) T.c_LETTERS) (by rfl)))) pa_nil))))), ?_⟩
    walk_at "go"
    cases kn
    case str z =>
      have hz' := hz z rfl
      refine iteF ?_
      walk_at "go"
      refine iteD (fun h1 => ?_) (fun h1 => ?_)
      · walk_at "go"
        refine iteN (fun h2 => ?_) (fun h2 => ?_)
        · have e : nameV (.str z) = false := by
            show nameB z = false
            unfold nameB
            rw [decide_eq_false (show ¬ z.length ≤ 8 by omega)]
            simp
          rw [e] at q
          exact q H (Same.refl H)
        · have e0 : nameV (.str z) = z.cps.toList.all fun c => decide (c ∈ LETT.cps.toList) := by
            show nameB z = _
            unfold nameB
            rw [decide_eq_true (show 1 ≤ z.length by omega), decide_eq_true (show z.length ≤ 8 by omega), Bool.true_and, Bool.true_and]
          rw [e0] at q
          walk_at "go"
          refine fun D nD => lc_map gives_str (fun c => .bl (decide (c ∈ LETT.cps.toList))) (by rw [str_len]; omega) nD (fun _ _ => trivial) ?_ ?_
          · rintro c x H' _ e rfl B hB
            walk_at "go"
            exact hB _ (Same.refl _)
          · intro H' e hat
            refine ⟨_, _, rfl, sq_bools hat, ?_⟩
            rw [all_bools]
            exact q H' e
      · have e : nameV (.str z) = false := by
          show nameB z = false
          unfold nameB
          rw [decide_eq_false (show ¬ 1 ≤ z.length by omega)]
          simp
        rw [e] at q
        exact ⟨_, rfl, iteT (q H (Same.refl H))⟩
    all_goals exact iteT (iteT (q H (Same.refl H)))
end
end K18
namespace K18
open PySem L2 GG
inductive WhereIs (K : PySem.W.Frag) (H : Hp) : V → Bool → Prop where
  | tup {a : Addr} {xs : List V} (h : SqT K H a xs) (ok : ∀ y ∈ xs, Ok K H y) (hl : xs.length ≤ 1000) : WhereIs K H (.ref a) (xs.all partV)
  | no {x : V} {n : BT} (kn : Kn K H x n) (ne : n ≠ .tup) : WhereIs K H x false
def spW (K : PySem.W.Frag) : Sp := fun vs H Q _ => ∃ x b, vs = [x] ∧ WhereIs K H x b ∧ ∀ H', Same H H' → Q (.bl b) H'
theorem isInt_part {x : V} : partV x = (nameV x || (isIntV x && match x with | .int i => decide (1 ≤ i) | _ => false)) := by
  cases x <;> simp [partV, nameV, isIntV]
section
variable {P : Program} {w : World} {K : PySem.W.Frag} {mg : Str → Option Value} {base : Heap} {fa : Nat → Addr} {fd : Nat → FuncData}
theorem ok_l_is_word (T : Txt K mg fa fd) : FnOk P w K mg base CX0 1 (fa 10) (fd 10) ["_law_thing_here"] (spB K nameV) := by
  refine T.d_l_is_word.F.ok sc_l_is_word (fun vs H Q E h => ?_) (fun cdv A outer s H vs Q E hr h => ?_)
  · obtain ⟨x, rfl, _⟩ := h
    rfl
  · obtain ⟨x, rfl, ⟨n, kn, hz⟩, q⟩ := h
    refine ⟨_, (pss_cons (ps_if (PW.pt (pw_or (pt_not (pt_val (pe_callB call_isi (by rfl) T.b_isinstance (by decide +kernel) (pa_cons (pv 0) (pa_cons (pe_bltn (v := .ty "str") (by rfl) T.b_str (by decide +kernel) rfl) pa_nil))))) (pw_or1 (pt_not (pt_chain op_le op_le pe_int (pe_callB call_len (by rfl) T.b_len (by decide +kernel) (pa_cons (pv 0) pa_nil)) pe_int))))) (pss_one (ps_ret pe_bl)) pss_nil)
      (pss_one (ps_ret (pe_callB (cr_all rfl) (by rfl) T.b_all (by decide +kernel) (pa_cons (pe_lc (own := [("_law_sign", 1)]) (g := gName 1) (tt := tYes) rfl sc_l_is_word.nd (pi_str (pv 0)) (blkOk_by (own := [("_law_sign", 1)]) (N := ["_law_thing_here", "_law_sign"]) (sc := defScope s_l_is_word) (by decide +kernel)) (fun _ _ _ _ _ => pg_name (i := 1) sc_l_is_word.nd rfl (Or.inl rfl)) (fun _ _ _ _ _ => pts_nil) (fun _ _ _ _ _ => (pe_cmpR op_in_sign (pv 1) pe_str (by rfl)))) pa_nil))))), ?_⟩
    walk_at "go"
    cases kn
    case str z =>
      have hz' := hz z rfl
      refine iteF ?_
      walk_at "go"
      refine iteD (fun h1 => ?_) (fun h1 => ?_)
      · walk_at "go"
        refine iteN (fun h2 => ?_) (fun h2 => ?_)
        · have e : nameV (.str z) = false := by
            show nameB z = false
            unfold nameB
            rw [decide_eq_false (show ¬ z.length ≤ 8 by omega)]
            simp
          rw [e] at q
          exact q H (Same.refl H)
        · have e0 : nameV (.str z) = z.cps.toList.all fun c => decide (c ∈ LETT.cps.toList) := by
            show nameB z = _
            unfold nameB
            rw [decide_eq_true (show 1 ≤ z.length by omega), decide_eq_true (show z.length ≤ 8 by omega), Bool.true_and, Bool.true_and]
          rw [e0] at q
          walk_at "go"
          refine fun D nD => lc_map gives_str (fun c => .bl (decide (c ∈ LETT.cps.toList))) (by rw [str_len]; omega) nD (fun _ _ => trivial) ?_ ?_
          · rintro c x H' _ e rfl B hB
            walk_at "go"
            exact hB _ (Same.refl _)
          · intro H' e hat
            refine ⟨_, _, rfl, sq_bools hat, ?_⟩
            rw [all_bools]
            exact q H' e
      · have e : nameV (.str z) = false := by
          show nameB z = false
          unfold nameB
          rw [decide_eq_false (show ¬ 1 ≤ z.length by omega)]
          simp
        rw [e] at q
        exact ⟨_, rfl, iteT (q H (Same.refl H))⟩
    all_goals exact iteT (iteT (q H (Same.refl H)))
theorem ok_l_is_part (T : Txt K mg fa fd) : FnOk P w K mg base CX0 2 (fa 11) (fd 11) ["_law_thing_here"] (spB K partV) := by
  refine T.d_l_is_part.F.ok sc_l_is_part (fun vs H Q E h => ?_) (fun cdv A outer s H vs Q E hr h => ?_)
  · obtain ⟨x, rfl, _⟩ := h
    rfl
  · obtain ⟨x, rfl, ok, q⟩ := h
    refine ⟨_, (pss_one (ps_ret (pe_or (pe_call (ok_l_is_word T) (hr.mono (by decide)) (by rfl) T.d_l_is_word.at_ T.d_l_is_word.kp T.d_l_is_word.b .nil pass0 (pa_cons (pv 0) pa_nil)) (pe_one (pe_and (pe_call (ok_l_is_number T) (hr.mono (by decide)) (by rfl) T.d_l_is_number.at_ T.d_l_is_number.kp T.d_l_is_number.b .nil pass0 (pa_cons (pv 0) pa_nil)) (pe_one (pe_cmpR op_ge (pv 0) pe_int (nomark _)))))))), ?_⟩
    walk_at "go"
    refine ⟨ok, fun H1 e1 => ⟨_, rfl, ?_⟩⟩
    cases x
    case str z =>
      refine iteB (fun h => ?_) (fun h => ?_)
      · have q' := q H1 e1
        rw [show partV (.str z) = true from h] at q'
        exact q'
      · walk_at "go"
        refine ⟨ok.same e1, fun H2 e2 => ⟨_, rfl, ?_⟩⟩
        have q' := q H2 (e1.trans e2)
        rw [show partV (.str z) = false from h] at q'
        exact iteF q'
    all_goals
      refine iteF ?_
      walk_at "go"
      refine ⟨ok.same e1, fun H2 e2 => ⟨_, rfl, ?_⟩⟩
      first
        | exact iteF (q H2 (e1.trans e2))
        | (refine iteT ?_; walk_at "go"; exact q H2 (e1.trans e2))
theorem ok_is_where (T : Txt K mg fa fd) : FnOk P w K mg base CX0 2 (fa 3) (fd 3) ["value"] (spW K) := by
  refine T.d_is_where.F.ok sc_is_where (fun vs H Q E h => ?_) (fun cdv A outer s H vs Q E hr h => ?_)
  · obtain ⟨x, b, rfl, _⟩ := h
    rfl
  · obtain ⟨x, b, rfl, wi, q⟩ := h
    refine ⟨_, (pss_cons (ps_if (pt_not (pt_val (pe_callB call_isi (by rfl) T.b_isinstance (by decide +kernel) (pa_cons (pv 0) (pa_cons (pe_bltn (v := .ty "tuple") (by rfl) T.b_tuple (by decide +kernel) rfl) pa_nil))))) (pss_one (ps_ret pe_bl)) pss_nil)
      (pss_one (ps_ret (pe_callB (cr_all rfl) (by rfl) T.b_all (by decide +kernel) (pa_cons (pe_lc (own := [("part", 1)]) (g := gName 1) (tt := tYes) rfl sc_is_where.nd (pi_tup (pv 0)) (blkOk_by (own := [("part", 1)]) (N := ["value", "part"]) (sc := defScope s_is_where) (by decide +kernel)) (fun _ _ _ _ _ => pg_name (i := 1) sc_is_where.nd rfl (Or.inl rfl)) (fun _ _ _ _ _ => pts_nil) (fun _ _ _ _ _ => (pe_or (pe_call (ok_is_name T) (hr.mono (by decide)) (by rfl) T.d_is_name.at_ T.d_is_name.kp T.d_is_name.b .nil pass0 (pa_cons (pv 1) pa_nil)) (pe_one (pe_and (pe_call (ok_is_integer T) (hr.mono (by decide)) (by rfl) T.d_is_integer.at_ T.d_is_integer.kp T.d_is_integer.b .nil pass0 (pa_cons (pv 1) pa_nil)) (pe_one (pe_cmpR op_ge (pv 1) pe_int (nomark _)))))))) pa_nil))))), ?_⟩
    cases wi with
    | no kn ne =>
      walk_at "go"
      cases kn
      case tup => exact absurd rfl ne
      all_goals exact iteT (q H (Same.refl H))
    | @tup a xs h ok hl =>
      walk_at "go"
      refine ⟨⟨_, h⟩, ?_⟩
      refine fun D nD => lc_map gives_tup (fun y => .bl (partV y)) (by omega) nD (fun _ e => Same.seqT e h) ?_ ?_
      · rintro y x H' hy e rfl B hB
        walk_at "go"
        have oky := (ok x hy).same e
        refine ⟨oky, fun H1 e1 => ⟨_, rfl, ?_⟩⟩
        cases x
        case str z =>
          refine iteB (fun h => ?_) (fun h => ?_)
          · have q' := hB H1 e1
            rw [show partV (.str z) = true from h] at q'
            exact q'
          · walk_at "go"
            refine ⟨oky.same e1, fun H2 e2 => ⟨_, rfl, ?_⟩⟩
            have q' := hB H2 (e1.trans e2)
            rw [show partV (.str z) = false from h] at q'
            exact iteF q'
        all_goals
          refine iteF ?_
          walk_at "go"
          refine ⟨oky.same e1, fun H2 e2 => ⟨_, rfl, ?_⟩⟩
          first
            | exact iteF (hB H2 (e1.trans e2))
            | (refine iteT ?_; walk_at "go"; exact hB H2 (e1.trans e2))
      · intro H' e hat
        refine ⟨_, _, rfl, sq_bools hat, ?_⟩
        rw [all_bools]
        exact q H' e
end
end K18
namespace K18
open PySem L2 GG
theorem Pot.same {H H' : Hp} {p : Addr} (e : Same H H') (h : Pot H p) : Pot H' p := by
  obtain ⟨a, b, h, r⟩ := h
  exact ⟨a, b, e _ _ h, r⟩
theorem Pot.upd {H : Hp} {p q : Addr} {o : HO} (n : p ≠ q) (h : Pot H p) : Pot (upd H q o) p := by
  obtain ⟨a, b, h, r⟩ := h
  exact ⟨a, b, at_upd n h, r⟩
theorem Pot.ne {H : Hp} {p q : Addr} (h : Pot H p) (n : Nn H q) : p ≠ q := by
  obtain ⟨a, b, h, r⟩ := h
  exact ne_An n h
def spWord : Sp := fun vs H Q _ => ∃ p : Addr, vs = [.ref p] ∧ Pot H p ∧ ∀ z H', z.length ≤ 100 → Pot H' p → But p H H' → Q (.str z) H'
def Flat (y : V) : Prop := (∃ i, y = .int i) ∨ ∃ z : Str, y = .str z ∧ z.length ≤ 1000
theorem Flat.ok {K : PySem.W.Frag} {H : Hp} {y : V} (h : Flat y) : Ok K H y := by
  rcases h with ⟨i, rfl⟩ | ⟨z, rfl, hz⟩
  · exact ⟨_, .int _, fun z h => by cases h⟩
  · exact ⟨_, .str _, fun u h => by cases h; exact hz⟩
theorem Ok.but {K : PySem.W.Frag} {H H' : Hp} {p : Addr} {x : V} (e : But p H H') (ne : x ≠ .ref p) (h : Ok K H x) : Ok K H' x := by
  obtain ⟨n, k, z⟩ := h
  exact ⟨n, k.but e ne, z⟩
/-- whether a thing is a where; what it holds is flat -/
inductive WhereF (K : PySem.W.Frag) (H : Hp) : V → Bool → Prop where
  | tup {a : Addr} {xs : List V} (h : SqT K H a xs) (ok : ∀ y ∈ xs, Flat y) (hl : xs.length ≤ 1000) : WhereF K H (.ref a) (xs.all partV)
  | no {x : V} {n : BT} (kn : Kn K H x n) (ne : n ≠ .tup) : WhereF K H x false
theorem WhereF.but {K : PySem.W.Frag} {H H' : Hp} {p : Addr} {x : V} {b : Bool} (e : But p H H') (ne : x ≠ .ref p) (h : WhereF K H x b) : WhereF K H' x b := by
  cases h with
  | tup h ok hl => exact .tup (SqT.but e (fun z => ne (by rw [z])) h) ok hl
  | no kn n => exact .no (kn.but e ne) n
theorem WhereF.is {K : PySem.W.Frag} {H H' : Hp} {x : V} {b : Bool} (e : Same H H') (h : WhereF K H x b) : WhereIs K H' x b := by
  cases h with
  | tup h ok hl => exact .tup (Same.seqT e h) (fun y hy => (ok y hy).ok) hl
  | no kn n => exact .no (kn.same e) n
/-- a thing that is drawn; b: whether it is a where -/
structure Thing (K : PySem.W.Frag) (H0 H : Hp) (p : Addr) (x : V) (b : Bool) : Prop where
  fr : ∀ a, x = .ref a → Nn H0 a
  ok : Ok K H x
  wi : WhereF K H x b
  ne : x ≠ .ref p
def spThing (K : PySem.W.Frag) : Sp := fun vs H Q _ => ∃ p : Addr, vs = [.ref p] ∧ Pot H p ∧ ∀ x b H', Thing K H H' p x b → Pot H' p → But p H H' → Q x H'
theorem sum_ones : ∀ {ss : List Str}, (∀ s ∈ ss, s.length ≤ 1) → (ss.map (·.length)).sum ≤ ss.length
  | [], _ => Nat.le_refl _
  | s :: ss, h => by
    have h1 := h s List.mem_cons_self
    have h2 := sum_ones (ss := ss) fun z hz => h z (List.mem_cons_of_mem _ hz)
    simp only [List.map_cons, List.sum_cons, List.length_cons]
    omega
section
variable {P : Program} {w : World} {K : PySem.W.Frag} {mg : Str → Option Value} {base : Heap} {fa : Nat → Addr} {fd : Nat → FuncData}
theorem ok_l_word (T : Txt K mg fa fd) : FnOk P w K mg base CX0 3 (fa 7) (fd 7) ["_law_pot_here"] spWord := by
  refine T.d_l_word.F.ok sc_l_word (fun vs H Q E h => ?_) (fun cdv A outer s H vs Q E hr h => ?_)
  · obtain ⟨p, rfl, _⟩ := h
    rfl
  · obtain ⟨p, rfl, hp, q⟩ := h
    refine ⟨_, (pss_cons (ps_set (i := 1) sc_l_word.nd rfl (.inr rfl) pe_str)
      (pss_cons (ps_set (i := 2) sc_l_word.nd rfl (.inl rfl) (pe_join pe_str (pe_lc (own := [("_law_turn", 3)]) (g := gName 3) (tt := tYes) rfl sc_l_word.nd (pi_range1 (by rfl) T.b_range (pa_cons (pe_call (ok_l_draw T) (hr.mono (by decide)) (by rfl) T.d_l_draw.at_ T.d_l_draw.kp T.d_l_draw.b .nil pass0 (pa_cons (pv 0) (pa_cons pe_int pa_nil))) pa_nil)) (blkOk_by (own := [("_law_turn", 3)]) (N := ["_law_pot_here", "_law_signs", "_law_found", "_law_turn", "_law_k", "_law_way"]) (sc := defScope s_l_word) (by decide +kernel)) (fun _ _ _ _ _ => pg_name (i := 3) sc_l_word.nd rfl (Or.inl rfl)) (fun _ _ _ _ _ => pts_nil) (fun _ _ _ _ _ => (pe_ix ix_str (pv 1) (pe_call (ok_l_draw T) (hr.mono (by decide)) (by rfl) T.d_l_draw.at_ T.d_l_draw.kp T.d_l_draw.b .nil pass0 (pa_cons (pv 0) (pa_cons pe_int pa_nil))) (fun _ _ => rfl))))))
      (pss_cons (ps_par (i := 4) (j := 5) (by rfl) sc_l_word.nd rfl rfl (by decide) rfl rfl (pa_cons (pe_call (ok_l_draw T) (hr.mono (by decide)) (by rfl) T.d_l_draw.at_ T.d_l_draw.kp T.d_l_draw.b .nil pass0 (pa_cons (pv 0) (pa_cons (pe_op op_add (pe_callB call_len (by rfl) T.b_len (by decide +kernel) (pa_cons (pv 2) pa_nil)) pe_int) pa_nil))) (pa_cons (pe_call (ok_l_draw T) (hr.mono (by decide)) (by rfl) T.d_l_draw.at_ T.d_l_draw.kp T.d_l_draw.b .nil pass0 (pa_cons (pv 0) (pa_cons pe_int pa_nil))) pa_nil)) (by rfl))
      (pss_cons (ps_if (pt_cmpR op_eq (pv 5) pe_int (nomark _)) (pss_one (ps_set (i := 2) sc_l_word.nd rfl (.inl rfl) (pe_op op_add_str (pe_op op_add_str (pe_slice sl_str (pv 2) po_none (po_some (pv 4))) (pe_call (ok_l_pick T) (hr.mono (by decide)) (by rfl) T.d_l_pick.at_ T.d_l_pick.kp T.d_l_pick.b .nil pass0 (pa_cons (pv 0) (pa_cons (pe_lst (pa_cons pe_str (pa_cons pe_str (pa_cons pe_str (pa_cons pe_str (pa_cons pe_str (pa_cons pe_str (pa_cons pe_str (pa_cons pe_str (pa_cons pe_str pa_nil)))))))))) pa_nil)))) (pe_slice sl_str (pv 2) (po_some (pv 4)) po_none)))) pss_nil)
      (pss_one (ps_ret (pv 2))))))), ?_⟩
    walk_at "go"
    refine ⟨hp, by decide, by decide, fun d H1 d0 d1 hp1 hb1 => ?_⟩
    walk_at "go"
    refine ⟨by omega, by omega, ?_⟩
    refine fun D nD => lc_acc gives_range (fun i acc H2 => Pot H2 p ∧ But p H H2 ∧ ∃ ss : List Str, acc = ss.map V.str ∧ ∀ s ∈ ss, s.length ≤ 1) ?hz ?h0 (fun _ _ _ _ _ _ => trivial) ?hs ?hd
    case hz =>
      rw [List.length_range]
      omega
    case h0 => exact ⟨hp1.upd (hp1.ne nD), hb1.same (Same.new nD), [], rfl, fun _ z => by simp at z⟩
    case hs =>
      rintro i a acc x H2 H3 hi hl ⟨hp2, hb2, ss, rfl, hss⟩ hat e rfl B hB
      walk_at "go"
      refine ⟨hp2.same e, by decide, by decide, fun c H4 c0 c1 hp4 hb4 => ?_⟩
      have npD : D ≠ p := (hp1.ne nD).symm
      obtain ⟨sg, _, ha⟩ := atI_of (xs := LETT.cps.toList) c0 (by exact c1)
      refine ⟨_, _, _, rfl, rfl, sz_ok (by decide), ha, ?_⟩
      refine hB _ _ (hb4 _ _ (e _ _ hat) npD) ⟨hp4.upd npD.symm, ?_, ss ++ [⟨#[sg]⟩], by simp, ?_⟩
      · exact ((hb2.same e).trans hb4).upd_free (nn_But hb1 npD nD)
      · intro z hz
        rcases List.mem_append.mp hz with hz | hz
        · exact hss z hz
        · rw [List.mem_singleton.mp hz]
          exact Nat.le_refl _
    case hd =>
      rintro acc H2 hl ⟨hp2, hb2, ss, rfl, hss⟩ hat
      have hls : ss.length ≤ 10 := by
        rw [List.length_map, List.length_range] at hl
        omega
      have hsum := sum_ones hss
      refine ⟨_, _, ss, rfl, rfl, Or.inl (SqL.at_ hat), by show _ + ss.length * 0 ≤ _; omega, ?_⟩
      have hlen : (Txt.join (Str.ofString "") ss).length ≤ 10 := by
        rw [show Txt.join (Str.ofString "") ss = Str.join (Str.ofString "") ss from StrLaws.glued_eq_join _ _]
        refine Nat.le_trans (StrLaws.join_length_le _ ss) ?_
        show _ + ss.length * 0 ≤ _
        omega
      generalize Txt.join (Str.ofString "") ss = z at hlen ⊢
      walk_at "go"
      refine ⟨hp2, by omega, by omega, fun k H3 k0 k1 hp3 hb3 => ?_⟩
      walk_at "go"
      refine ⟨hp3, by omega, by omega, fun y H4 y0 y1 hp4 hb4 => ?_⟩
      walk_at "go"
      refine iteD (fun h => ?_) (fun h => ?_)
      · walk_at "go"
        refine ⟨sz_ok (by omega), ?_⟩
        walk_at "go"
        intro a na
        have na' : Nn H4 a := na
        have nap : a ≠ p := (hp4.ne na').symm
        refine ⟨_, _, _, rfl, hp4.same (Same.new na'), SqL.at_ at_same, nap, by decide, by decide, fun x H5 hx hp5 hb5 => ?_⟩
        obtain ⟨u, rfl, hu⟩ : ∃ u : Str, x = .str u ∧ u.length ≤ 1 := by
          simp only [List.mem_cons, List.not_mem_nil, or_false] at hx
          rcases hx with rfl | rfl | rfl | rfl | rfl | rfl | rfl | rfl | rfl <;> exact ⟨_, rfl, by decide⟩
        have hc1 := cutS_length z none (some k)
        have hc2 := cutS_length z (some k) none
        refine ⟨_, _, rfl, rfl, sz_ok (by omega), ?_⟩
        walk_at "go"
        refine ⟨sz_ok (by omega), ?_⟩
        have hc3 := Str.length_append (cutS z none (some k)) u
        refine ⟨_, _, rfl, rfl, sz_ok (by omega), ?_⟩
        walk_at "go"
        refine q _ _ ?_ hp5 ((((hb2.trans hb3).trans hb4).same (Same.new na')).trans hb5)
        rw [Str.length_append]
        omega
      · exact ⟨_, rfl, q _ _ (by omega) hp4 ((hb2.trans hb3).trans hb4)⟩
theorem ok_l_thing (T : Txt K mg fa fd) : FnOk P w K mg base CX0 4 (fa 8) (fd 8) ["_law_pot_here"] (spThing K) := by
  refine T.d_l_thing.F.ok sc_l_thing (fun vs H Q E h => ?_) (fun cdv A outer s H vs Q E hr h => ?_)
  · obtain ⟨p, rfl, _⟩ := h
    rfl
  · obtain ⟨p, rfl, hp, q⟩ := h
    refine ⟨_, (pss_cons (ps_set (i := 1) sc_l_thing.nd rfl (.inl rfl) (pe_call (ok_l_draw T) (hr.mono (by decide)) (by rfl) T.d_l_draw.at_ T.d_l_draw.kp T.d_l_draw.b .nil pass0 (pa_cons (pv 0) (pa_cons pe_int pa_nil))))
      (pss_cons (ps_if (pt_cmpR op_eq (pv 1) pe_int (nomark _)) (pss_one (ps_ret (pe_op op_sub (pe_call (ok_l_draw T) (hr.mono (by decide)) (by rfl) T.d_l_draw.at_ T.d_l_draw.kp T.d_l_draw.b .nil pass0 (pa_cons (pv 0) (pa_cons pe_int pa_nil))) pe_int))) pss_nil)
      (pss_cons (ps_if (pt_cmpR op_lt (pv 1) pe_int (nomark _)) (pss_one (ps_ret (pe_call (ok_l_word T) (hr.mono (by decide)) (by rfl) T.d_l_word.at_ T.d_l_word.kp T.d_l_word.b .nil pass0 (pa_cons (pv 0) pa_nil)))) pss_nil)
      (pss_one (ps_ret (pe_call (ok_l_pick T) (hr.mono (by decide)) (by rfl) T.d_l_pick.at_ T.d_l_pick.kp T.d_l_pick.b .nil pass0 (pa_cons (pv 0) (pa_cons (pe_lst (pa_cons pe_non (pa_cons pe_bl (pa_cons pe_bl (pa_cons pe_int (pa_cons pe_int (pa_cons (pe_un un_neg pe_int) (pa_cons (pe_op op_pow pe_int pe_int) (pa_cons (pe_un un_neg (pe_op op_pow pe_int pe_int)) (pa_cons pe_str (pa_cons pe_str (pa_cons (pe_tup pa_nil) (pa_cons (pe_lst pa_nil) (pa_cons pe_dnewK (pa_cons (pe_tup (pa_cons pe_str pa_nil)) (pa_cons (pe_lst (pa_cons pe_str pa_nil)) (pa_cons (pe_lst (pa_cons pe_int pa_nil)) pa_nil))))))))))))))))) pa_nil)))))))), ?_⟩
    walk_at "go"
    refine ⟨hp, by decide, by decide, fun d H1 d0 d1 hp1 hb1 => ?_⟩
    walk_at "go"
    refine iteD (fun h => ?_) (fun h => ?_)
    · walk_at "go"
      refine ⟨hp1, by decide, by decide, fun e H2 e0 e1 hp2 hb2 => ?_⟩
      walk_at "go"
      exact q _ _ _ ⟨fun _ z => (by cases z), ⟨_, .int _, fun z h => by cases h⟩, .no (.int _) (by decide), by simp⟩ hp2 (hb1.trans hb2)
    · walk_at "go"
      refine iteD (fun h2 => ?_) (fun h2 => ?_)
      · walk_at "go"
        refine ⟨hp1, fun z H2 hz hp2 hb2 => ?_⟩
        exact q _ _ _ ⟨fun _ z => (by cases z), ⟨_, .str _, fun z h => by cases h; omega⟩, .no (.str _) (by decide), by simp⟩ hp2 (hb1.trans hb2)
      · obtain ⟨pa, pb, hpa, _⟩ := id hp1
        walk_at "go"
        refine fun a1 (n1 : Nn _ a1) => ?_
        walk_at "go"
        refine fun a2 (n2 : Nn _ a2) => ?_
        walk_at "go"
        refine fun a3 (n3 : Nn _ a3) => ?_
        walk_at "go"
        refine fun a4 (n4 : Nn _ a4) => ?_
        walk_at "go"
        refine fun a5 (n5 : Nn _ a5) => ?_
        walk_at "go"
        refine fun a6 (n6 : Nn _ a6) => ?_
        walk_at "go"
        refine fun a7 (n7 : Nn _ a7) => ?_
        refine ⟨_, _, _, rfl, hp1.same (by walk_at "same"), SqL.at_ at_same, (by walk_at "ne"), Nat.le_of_ble_eq_true rfl, Nat.le_of_ble_eq_true rfl, fun x H5 hx hp5 hb5 => ?_⟩
        have e1 : At H5 a1 (.tup []) := by walk_at "at"
        have e2 : At H5 a2 (.lst []) := by walk_at "at"
        have e3 : At H5 a3 (.dK []) := by walk_at "at"
        have e4 : At H5 a4 (.tup [.str "a"]) := by walk_at "at"
        have e5 : At H5 a5 (.lst [.str "a"]) := by walk_at "at"
        have e6 : At H5 a6 (.lst [.int 1]) := by walk_at "at"
        have hb : But p H H5 := by walk_at "but"
        have okr : ∀ (a : Addr) (n : BT), Kn K H5 (.ref a) n → Ok K H5 (.ref a) := fun a n h => ⟨n, h, fun z q => by cases q⟩
        have nr : ∀ a : Addr, a ≠ p → V.ref a ≠ V.ref p := fun a h q => h (by cases q; rfl)
        have oki : ∀ i : Int, Thing K H H5 p (.int i) false := fun i => ⟨fun _ z => (by cases z), ⟨_, .int _, fun z h => by cases h⟩, .no (.int _) (by decide), by simp⟩
        have okb : ∀ b : Bool, Thing K H H5 p (.bl b) false := fun b => ⟨fun _ z => (by cases z), ⟨_, .bl _, fun z h => by cases h⟩, .no (.bl _) (by decide), by simp⟩
        have oks : ∀ s : Str, s.length ≤ 1000 → Thing K H H5 p (.str s) false := fun s hs => ⟨fun _ z => (by cases z), ⟨_, .str _, fun z h => by cases h; exact hs⟩, .no (.str _) (by decide), by simp⟩
        have okn : Thing K H H5 p .non false := ⟨fun _ z => (by cases z), ⟨_, .non, fun z h => by cases h⟩, .no .non (by decide), by simp⟩
        have t1 : Thing K H H5 p (.ref a1) true := ⟨fun _ z => (by cases z; exact nn_But hb1 (by walk_at "ne") n1), okr _ _ (.tup (SqT.at_ e1)), .tup (SqT.at_ e1) (fun _ z => by simp at z) (by decide), nr _ (by walk_at "ne")⟩
        have t2 : Thing K H H5 p (.ref a2) false := ⟨fun _ z => (by cases z; exact nn_But hb1 (by walk_at "ne") (nn_upd n2)), okr _ _ (.lst (SqL.at_ e2)), .no (.lst (SqL.at_ e2)) (by decide), nr _ (by walk_at "ne")⟩
        have t3 : Thing K H H5 p (.ref a3) false := ⟨fun _ z => (by cases z; exact nn_But hb1 (by walk_at "ne") (nn_upd (nn_upd n3))), okr _ _ (.dct e3), .no (.dct e3) (by decide), nr _ (by walk_at "ne")⟩
        have t4 : Thing K H H5 p (.ref a4) _ := ⟨fun _ z => (by cases z; exact nn_But hb1 (by walk_at "ne") (nn_upd (nn_upd (nn_upd n4)))), okr _ _ (.tup (SqT.at_ e4)), .tup (SqT.at_ e4) (fun y z => by rw [List.mem_singleton.mp z]; exact Or.inr ⟨_, rfl, by decide⟩) (by decide), nr _ (by walk_at "ne")⟩
        have t5 : Thing K H H5 p (.ref a5) false := ⟨fun _ z => (by cases z; exact nn_But hb1 (by walk_at "ne") (nn_upd (nn_upd (nn_upd (nn_upd n5))))), okr _ _ (.lst (SqL.at_ e5)), .no (.lst (SqL.at_ e5)) (by decide), nr _ (by walk_at "ne")⟩
        have t6 : Thing K H H5 p (.ref a6) false := ⟨fun _ z => (by cases z; exact nn_But hb1 (by walk_at "ne") (nn_upd (nn_upd (nn_upd (nn_upd (nn_upd n6)))))), okr _ _ (.lst (SqL.at_ e6)), .no (.lst (SqL.at_ e6)) (by decide), nr _ (by walk_at "ne")⟩
        have fin : ∃ b, Thing K H H5 p x b := by
          simp only [List.mem_cons, List.not_mem_nil, or_false] at hx
          rcases hx with rfl | rfl | rfl | rfl | rfl | rfl | rfl | rfl | rfl | rfl | rfl | rfl | rfl | rfl | rfl | rfl
          all_goals first
            | exact ⟨_, okn⟩
            | exact ⟨_, okb _⟩
            | exact ⟨_, oki _⟩
            | exact ⟨_, oks _ (by decide)⟩
            | exact ⟨_, t1⟩
            | exact ⟨_, t2⟩
            | exact ⟨_, t3⟩
            | exact ⟨_, t4⟩
            | exact ⟨_, t5⟩
            | exact ⟨_, t6⟩
        obtain ⟨b, tb⟩ := fin
        exact q x b H5 tb hp5 hb
end
end K18
namespace K18
open PySem L2 GG
def spParts (K : PySem.W.Frag) : Sp := fun vs H Q _ => ∃ p : Addr, vs = [.ref p] ∧ Pot H p ∧ ∀ a xs H', At H' a (.lst xs) → Nn H a → xs.length ≤ 100 → (∀ y ∈ xs, Ok K H' y) → Pot H' p → But p H H' → Q (.ref a) H'
section
variable {P : Program} {w : World} {K : PySem.W.Frag} {mg : Str → Option Value} {base : Heap} {fa : Nat → Addr} {fd : Nat → FuncData}
theorem ok_l_parts (T : Txt K mg fa fd) : FnOk P w K mg base CX0 5 (fa 12) (fd 12) ["_law_pot_here"] (spParts K) := by
  refine T.d_l_parts.F.ok sc_l_parts (fun vs H Q E h => ?_) (fun cdv A outer s H vs Q E hr h => ?_)
  · obtain ⟨p, rfl, _⟩ := h
    rfl
  · obtain ⟨p, rfl, hp, q⟩ := h
    refine ⟨_, (pss_cons (ps_setLc (i := 1) (own := [("_law_turn", 2)]) (g := gName 2) (tt := tYes) rfl sc_l_parts.nd rfl rfl (sw_true rfl rfl rfl (by decide +kernel)) (pi_range1 (by rfl) T.b_range (pa_cons (pe_call (ok_l_draw T) (hr.mono (by decide)) (by rfl) T.d_l_draw.at_ T.d_l_draw.kp T.d_l_draw.b .nil pass0 (pa_cons (pv 0) (pa_cons pe_int pa_nil))) pa_nil)) (blkOk_by (own := [("_law_turn", 2)]) (N := ["_law_pot_here", "_law_found", "_law_turn"]) (sc := defScope s_l_parts) (by decide +kernel)) (fun _ _ _ _ _ => pg_name (i := 2) sc_l_parts.nd rfl (Or.inl rfl)) (fun _ _ _ _ _ => pts_nil) (fun _ _ _ _ _ => (pe_call (ok_l_pick T) (hr.mono (by decide)) (by rfl) T.d_l_pick.at_ T.d_l_pick.kp T.d_l_pick.b .nil pass0 (pa_cons (pv 0) (pa_cons (pe_lst (pa_cons (pe_op op_add pe_int (pe_call (ok_l_draw T) (hr.mono (by decide)) (by rfl) T.d_l_draw.at_ T.d_l_draw.kp T.d_l_draw.b .nil pass0 (pa_cons (pv 0) (pa_cons pe_int pa_nil)))) (pa_cons pe_str (pa_cons pe_str pa_nil)))) pa_nil)))))
      (pss_cons (ps_if (pt_cmpR op_eq (pe_call (ok_l_draw T) (hr.mono (by decide)) (by rfl) T.d_l_draw.at_ T.d_l_draw.kp T.d_l_draw.b .nil pass0 (pa_cons (pv 0) (pa_cons pe_int pa_nil))) pe_int (nomark _)) (pss_one (ps_expr (pe_bm PySem.F.plainAttrs_list PySem.F.slot_list_insert PySem.F.type_list_insert mt_insert (pv 1) (pa_cons (pe_call (ok_l_draw T) (hr.mono (by decide)) (by rfl) T.d_l_draw.at_ T.d_l_draw.kp T.d_l_draw.b .nil pass0 (pa_cons (pv 0) (pa_cons (pe_op op_add (pe_callB call_len (by rfl) T.b_len (by decide +kernel) (pa_cons (pv 1) pa_nil)) pe_int) pa_nil))) (pa_cons (pe_call (ok_l_thing T) (hr.mono (by decide)) (by rfl) T.d_l_thing.at_ T.d_l_thing.kp T.d_l_thing.b .nil pass0 (pa_cons (pv 0) pa_nil)) pa_nil))))) pss_nil)
      (pss_one (ps_ret (pv 1))))), ?_⟩
    walk_at "go"
    refine ⟨hp, by decide, by decide, fun d H1 d0 d1 hp1 hb1 => ?_⟩
    walk_at "go"
    refine ⟨by omega, by omega, ?_⟩
    refine fun D nD => lc_acc gives_range (fun i acc H2 => Pot H2 p ∧ But p H H2 ∧ ∀ y ∈ acc, Flat y) ?hz ?h0 (fun _ _ _ _ _ _ => trivial) ?hs ?hd
    case hz =>
      rw [List.length_range]
      omega
    case h0 => exact ⟨hp1.upd (hp1.ne nD), hb1.same (Same.new nD), fun _ z => by simp at z⟩
    case hs =>
      rintro i a acc x H2 H3 hi hl ⟨hp2, hb2, hss⟩ hat e rfl B hB
      have npD : D ≠ p := (hp1.ne nD).symm
      walk_at "go"
      refine ⟨hp2.same e, by decide, by decide, fun c H4 c0 c1 hp4 hb4 => ?_⟩
      walk_at "go"
      refine fun b (nb : Nn _ b) => ?_
      refine ⟨_, _, _, rfl, hp4.same (by walk_at "same"), SqL.at_ at_same, (hp4.ne nb).symm, Nat.le_of_ble_eq_true rfl, Nat.le_of_ble_eq_true rfl, fun y H5 hy hp5 hb5 => ?_⟩
      have hD4 : At H4 D (.lst acc) := hb4 _ _ (e _ _ hat) npD
      refine hB _ _ (hb5 _ _ (Same.new nb _ _ hD4) npD) ⟨hp5.upd npD.symm, But.upd_free (by walk_at "but") (nn_But hb1 npD nD), ?_⟩
      intro z hz
      rcases List.mem_append.mp hz with hz | hz
      · exact hss z hz
      · rw [List.mem_singleton.mp hz]
        simp only [List.mem_cons, List.not_mem_nil, or_false] at hy
        rcases hy with rfl | rfl | rfl
        · exact Or.inl ⟨_, rfl⟩
        · exact Or.inr ⟨_, rfl, by decide⟩
        · exact Or.inr ⟨_, rfl, by decide⟩
    case hd =>
      rintro acc H2 hl ⟨hp2, hb2, hss⟩ hat
      have npD : D ≠ p := (hp1.ne nD).symm
      rw [List.length_range] at hl
      walk_at "go"
      refine ⟨hp2, by decide, by decide, fun c H4 c0 c1 hp4 hb4 => ?_⟩
      have hD4 : At H4 D (.lst acc) := hb4 _ _ hat npD
      have nD0 : Nn H D := nn_But hb1 npD nD
      walk_at "go"
      refine iteD (fun h => ?_) (fun h => ?_)
      · walk_at "go"
        refine ⟨hp4, by omega, by omega, fun k H5 k0 k1 hp5 hb5 => ?_⟩
        walk_at "go"
        refine ⟨hp5, fun x b H6 tb hp6 hb6 => ?_⟩
        have hD6 : At H6 D (.lst acc) := hb6 _ _ (hb5 _ _ hD4 npD) npD
        walk_at "go"
        refine ⟨_, _, _, _, rfl, rfl, hD6, sz_lt (by omega), k0, by omega, ?_⟩
        have nDx : x ≠ .ref D := fun e => by
          have z : Nn H5 D := tb.fr D e
          have z2 : At H5 D (.lst acc) := hb5 _ _ hD4 npD
          have z3 : H5 D = none := z
          have z4 : H5 D = some _ := z2
          rw [z3] at z4
          cases z4
        walk_at "go"
        refine q _ _ _ at_same nD0 (by simp; omega) (fun y hy => ?_) (hp6.upd npD.symm) (But.upd_free (by walk_at "but") nD0)
        have hy' : y ∈ acc ∨ y = x := by
          simp only [List.mem_append, List.mem_singleton] at hy
          rcases hy with (hy | hy) | hy
          · exact Or.inl (List.mem_of_mem_take hy)
          · exact Or.inr hy
          · exact Or.inl (List.mem_of_mem_drop hy)
        rcases hy' with hy | rfl
        · exact (hss y hy).ok
        · exact Ok.but But.set nDx tb.ok
      · refine ⟨_, rfl, q _ _ _ hD4 nD0 (by omega) (fun y hy => (hss y hy).ok) hp4 (by walk_at "but")⟩
end
end K18
local macro_rules | `(tactic| walk_at "kn") => `(tactic| first
  | assumption
  | exact GG.Kn.int _
  | exact GG.Kn.str _
  | exact GG.Kn.bl _
  | exact GG.Kn.non
  | (refine GG.Kn.same (H := ?H0) ?e ?k; (case k => assumption); (case e => walk_at "same"))
  | exact GG.Kn.lst (by walk_at "sq")
  | exact GG.Kn.tup (by walk_at "sq"))
local macro_rules | `(tactic| walk_at "isi") => `(tactic| first
  | (refine ⟨_, _, _, _, GG.isiB ?n .int, rfl, .ty "int", GG.Kn.ty (n := ?n) ?k, L2.kit_ty (GG.kit_menu (c := .int) (by decide)), ?_⟩; (case k => walk_at "kn"))
  | (refine ⟨_, _, _, _, GG.isiB ?n .bl, rfl, .ty "bool", GG.Kn.ty (n := ?n) ?k, L2.kit_ty (GG.kit_menu (c := .bl) (by decide)), ?_⟩; (case k => walk_at "kn"))
  | (refine ⟨_, _, _, _, GG.isiB ?n .str, rfl, .ty "str", GG.Kn.ty (n := ?n) ?k, L2.kit_ty (GG.kit_menu (c := .str) (by decide)), ?_⟩; (case k => walk_at "kn"))
  | (refine ⟨_, _, _, _, GG.isiB ?n .lst, rfl, .ty "list", GG.Kn.ty (n := ?n) ?k, L2.kit_ty (GG.kit_menu (c := .lst) (by decide)), ?_⟩; (case k => walk_at "kn"))
  | (refine ⟨_, _, _, _, GG.isiB ?n .tup, rfl, .ty "tuple", GG.Kn.ty (n := ?n) ?k, L2.kit_ty (GG.kit_menu (c := .tup) (by decide)), ?_⟩; (case k => walk_at "kn"))
  | (refine ⟨_, _, _, _, GG.isiB ?n .dct, rfl, .ty "dict", GG.Kn.ty (n := ?n) ?k, L2.kit_ty (GG.kit_menu (c := .dct) (by decide)), ?_⟩; (case k => walk_at "kn")))

namespace K18
open PySem L2 GG
def spRight : Sp := fun vs H Q _ => ∃ p : Addr, vs = [.ref p] ∧ Pot H p ∧ ∀ H', But p H H' → Q (.bl true) H'
theorem show3 : ∀ a b c : Bool, (PyData.list [.bool a, .bool b, .bool c]).shown.length ≤ 100 := by decide +kernel
theorem show1 : ∀ a : Bool, (PyData.bool a).shown.length ≤ 100 := by decide +kernel
theorem len3 (a b c : Bool) : (PyData.list [.bool a, .bool b, .bool c]).shown.length ≤ sizeLine := sz_ok (Nat.le_trans (show3 a b c) (by decide))
theorem len1 (a : Bool) : (PyData.bool a).shown.length ≤ sizeLine := sz_ok (Nat.le_trans (show1 a) (by decide))
theorem dep3 : ∀ a b c : Bool, (PyData.list [.bool a, .bool b, .bool c]).depth ≤ 60 := by decide +kernel
theorem dep1 : ∀ a : Bool, (PyData.bool a).depth ≤ 60 := by decide +kernel
local macro_rules | `(tactic| walk_at "rp3") => `(tactic| (
  (refine ⟨_, .list [.bool ?a, .bool ?b, .bool ?c], rfl, .lst ?h (.cons (.bl _) (.cons (.bl _) (.cons (.bl _) .nil))), rfl, rfl, dep3 _ _ _, len3 _ _ _, ?_⟩); (case h => walk_at "sq")))
local macro_rules | `(tactic| walk_at "rp1") => `(tactic| refine ⟨_, .bool _, rfl, .bl _, rfl, rfl, dep1 _, len1 _, ?_⟩)
section
variable {P : Program} {w : World} {K : PySem.W.Frag} {mg : Str → Option Value} {base : Heap} {fa : Nat → Addr} {fd : Nat → FuncData}
theorem ok_l_right (T : Txt K mg fa fd) : FnG P w K mg base CX0 6 (fa 13) (fd 13) ["_law_pot_here"] spRight := by
  refine FnG.ofFun T.d_l_right.F sc_l_right (fun vs H Q E h => ?_) (fun cdv A outer s H vs Q E hg hr h => ?_)
  · obtain ⟨p, rfl, _⟩ := h
    rfl
  · obtain ⟨p, rfl, hp, q⟩ := h
    refine ⟨_, (pss_cons (ps_for PassesOwn.never rfl (pi_range1 (by rfl) T.b_range (pa_cons pe_int pa_nil)) (pg_name (i := 1) sc_l_right.nd rfl (.inl rfl)) (pss_cons (ps_par (i := 2) (j := 3) (by rfl) sc_l_right.nd rfl rfl (by decide) rfl rfl (pa_cons (pe_call (ok_l_thing T) (hr.mono (by decide)) (by rfl) T.d_l_thing.at_ T.d_l_thing.kp T.d_l_thing.b .nil pass0 (pa_cons (pv 0) pa_nil)) (pa_cons (pe_call (ok_l_parts T) (hr.mono (by decide)) (by rfl) T.d_l_parts.at_ T.d_l_parts.kp T.d_l_parts.b .nil pass0 (pa_cons (pv 0) pa_nil)) pa_nil)) (by rfl))
      (pss_cons (ps_set (i := 4) sc_l_right.nd rfl (.inl rfl) (pe_lst (pa_cons (pe_call (ok_is_integer T) (hr.mono (by decide)) (by rfl) T.d_is_integer.at_ T.d_is_integer.kp T.d_is_integer.b .nil pass0 (pa_cons (pv 2) pa_nil)) (pa_cons (pe_call (ok_is_count T) (hr.mono (by decide)) (by rfl) T.d_is_count.at_ T.d_is_count.kp T.d_is_count.b .nil pass0 (pa_cons (pv 2) pa_nil)) (pa_cons (pe_call (ok_is_name T) (hr.mono (by decide)) (by rfl) T.d_is_name.at_ T.d_is_name.kp T.d_is_name.b .nil pass0 (pa_cons (pv 2) pa_nil)) pa_nil)))))
      (pss_cons (ps_set (i := 5) sc_l_right.nd rfl (.inl rfl) (pe_lst (pa_cons (pe_call (ok_l_is_number T) (hr.mono (by decide)) (by rfl) T.d_l_is_number.at_ T.d_l_is_number.kp T.d_l_is_number.b .nil pass0 (pa_cons (pv 2) pa_nil)) (pa_cons (pe_and (pe_call (ok_l_is_number T) (hr.mono (by decide)) (by rfl) T.d_l_is_number.at_ T.d_l_is_number.kp T.d_l_is_number.b .nil pass0 (pa_cons (pv 2) pa_nil)) (pe_one (pe_cmpR op_ge (pv 2) pe_int (nomark _)))) (pa_cons (pe_call (ok_l_is_word T) (hr.mono (by decide)) (by rfl) T.d_l_is_word.at_ T.d_l_is_word.kp T.d_l_is_word.b .nil pass0 (pa_cons (pv 2) pa_nil)) pa_nil)))))
      (pss_cons (ps_if (pt_cmpR op_ne (pe_callB (call_repr_data hg (by have := hr.units; exact this)) (by rfl) T.b_repr (by decide +kernel) (pa_cons (pv 4) pa_nil)) (pe_callB (call_repr_data hg (by have := hr.units; exact this)) (by rfl) T.b_repr (by decide +kernel) (pa_cons (pv 5) pa_nil)) (nomark _)) (pss_one (ps_ret pe_bl)) pss_nil)
      (pss_cons (ps_if (pt_cmpR op_ne (pe_callB (call_repr_data hg (by have := hr.units; exact this)) (by rfl) T.b_repr (by decide +kernel) (pa_cons (pe_lst (pa_cons (pe_callN0 (ok_is_integer T) (hr.mono (by decide)) (by rfl) T.d_is_integer.at_ T.d_is_integer.kp T.k_is_integer_value pass0 (pk_cons (pv 2) (pk_nil))) (pa_cons (pe_callN0 (ok_is_count T) (hr.mono (by decide)) (by rfl) T.d_is_count.at_ T.d_is_count.kp T.k_is_count_value pass0 (pk_cons (pv 2) (pk_nil))) (pa_cons (pe_callN0 (ok_is_name T) (hr.mono (by decide)) (by rfl) T.d_is_name.at_ T.d_is_name.kp T.k_is_name_value pass0 (pk_cons (pv 2) (pk_nil))) pa_nil)))) pa_nil)) (pe_callB (call_repr_data hg (by have := hr.units; exact this)) (by rfl) T.b_repr (by decide +kernel) (pa_cons (pv 5) pa_nil)) (nomark _)) (pss_one (ps_ret pe_bl)) pss_nil)
      (pss_cons (ps_set (i := 6) sc_l_right.nd rfl (.inl rfl) (pe_callB (cr_all rfl) (by rfl) T.b_all (by decide +kernel) (pa_cons (pe_lc (own := [("_law_part", 7)]) (g := gName 7) (tt := tYes) rfl sc_l_right.nd (pi_list (pv 3)) (blkOk_by (own := [("_law_part", 7)]) (N := ["_law_pot_here", "_law_turn", "_law_thing_here", "_law_parts_here", "_law_told", "_law_due", "_law_is_where_now", "_law_part"]) (sc := defScope s_l_right) (by decide +kernel)) (fun _ _ _ _ _ => pg_name (i := 7) sc_l_right.nd rfl (Or.inl rfl)) (fun _ _ _ _ _ => pts_nil) (fun _ _ _ _ _ => (pe_call (ok_l_is_part T) (hr.mono (by decide)) (by rfl) T.d_l_is_part.at_ T.d_l_is_part.kp T.d_l_is_part.b .nil pass0 (pa_cons (pv 7) pa_nil)))) pa_nil)))
      (pss_cons (ps_set (i := 4) sc_l_right.nd rfl (.inl rfl) (pe_lst (pa_cons (pe_call (ok_is_where T) (hr.mono (by decide)) (by rfl) T.d_is_where.at_ T.d_is_where.kp T.d_is_where.b .nil pass0 (pa_cons (pe_callTy call_tuple_of (by rfl) T.b_tuple (by decide +kernel) (pa_cons (pv 3) pa_nil)) pa_nil)) (pa_cons (pe_callN0 (ok_is_where T) (hr.mono (by decide)) (by rfl) T.d_is_where.at_ T.d_is_where.kp T.k_is_where_value pass0 (pk_cons (pe_callTy call_tuple_of (by rfl) T.b_tuple (by decide +kernel) (pa_cons (pv 3) pa_nil)) (pk_nil))) (pa_cons (pe_call (ok_is_where T) (hr.mono (by decide)) (by rfl) T.d_is_where.at_ T.d_is_where.kp T.d_is_where.b .nil pass0 (pa_cons (pv 3) pa_nil)) pa_nil)))))
      (pss_cons (ps_if (pt_cmpR op_ne (pe_callB (call_repr_data hg (by have := hr.units; exact this)) (by rfl) T.b_repr (by decide +kernel) (pa_cons (pv 4) pa_nil)) (pe_callB (call_repr_data hg (by have := hr.units; exact this)) (by rfl) T.b_repr (by decide +kernel) (pa_cons (pe_op op_cat (pe_op op_rep (pe_lst (pa_cons (pv 6) pa_nil)) pe_int) (pe_lst (pa_cons pe_bl pa_nil))) pa_nil)) (nomark _)) (pss_one (ps_ret pe_bl)) pss_nil)
      (pss_cons (ps_set (i := 5) sc_l_right.nd rfl (.inl rfl) (pe_and (pe_callB call_isi (by rfl) T.b_isinstance (by decide +kernel) (pa_cons (pv 2) (pa_cons (pe_bltn (v := .ty "tuple") (by rfl) T.b_tuple (by decide +kernel) rfl) pa_nil))) (pe_one (pe_callB (cr_all rfl) (by rfl) T.b_all (by decide +kernel) (pa_cons (pe_lc (own := [("_law_part", 7)]) (g := gName 7) (tt := tYes) rfl sc_l_right.nd (pi_tup (pv 2)) (blkOk_by (own := [("_law_part", 7)]) (N := ["_law_pot_here", "_law_turn", "_law_thing_here", "_law_parts_here", "_law_told", "_law_due", "_law_is_where_now", "_law_part"]) (sc := defScope s_l_right) (by decide +kernel)) (fun _ _ _ _ _ => pg_name (i := 7) sc_l_right.nd rfl (Or.inl rfl)) (fun _ _ _ _ _ => pts_nil) (fun _ _ _ _ _ => (pe_call (ok_l_is_part T) (hr.mono (by decide)) (by rfl) T.d_l_is_part.at_ T.d_l_is_part.kp T.d_l_is_part.b .nil pass0 (pa_cons (pv 7) pa_nil)))) pa_nil)))))
      (pss_one (ps_if (pt_cmpR op_ne (pe_callB (call_repr_data hg (by have := hr.units; exact this)) (by rfl) T.b_repr (by decide +kernel) (pa_cons (pe_call (ok_is_where T) (hr.mono (by decide)) (by rfl) T.d_is_where.at_ T.d_is_where.kp T.d_is_where.b .nil pass0 (pa_cons (pv 2) pa_nil)) pa_nil)) (pe_callB (call_repr_data hg (by have := hr.units; exact this)) (by rfl) T.b_repr (by decide +kernel) (pa_cons (pv 5) pa_nil)) (nomark _)) (pss_one (ps_ret pe_bl)) pss_nil))))))))))))
      (pss_one (ps_ret (pe_and (pe_cmpR op_isBl (pe_call (ok_is_where T) (hr.mono (by decide)) (by rfl) T.d_is_where.at_ T.d_is_where.kp T.d_is_where.b .nil pass0 (pa_cons (pe_tup pa_nil) pa_nil)) pe_bl (nomark _)) (pe_one (pe_cmpR op_isBl (pe_call (ok_is_where T) (hr.mono (by decide)) (by rfl) T.d_is_where.at_ T.d_is_where.kp T.d_is_where.b .nil pass0 (pa_cons (pe_lst pa_nil) pa_nil)) pe_bl (nomark _))))))), ?_⟩
    walk_at "go"
    refine ⟨by decide, by decide, for_acc gives_range (fun i σ H' => Pot H' p ∧ But p H H' ∧ ∃ v1 v2 v3 v4 v5 v6 v7, σ = [some (.ref p), v1, v2, v3, v4, v5, v6, v7])
      ⟨hp, But.refl, _, _, _, _, _, _, _, rfl⟩ (fun _ _ _ _ _ => trivial) ?hs ?hd⟩
    case hd =>
      rintro σ H1 ⟨hp1, hb1, v1, v2, v3, v4, v5, v6, v7, rfl⟩
      walk_at "go"
      refine fun a (na : Nn _ a) => ?_
      refine ⟨_, _, rfl, .tup (SqT.at_ at_same) (fun _ z => by simp at z) (by decide), fun H2 e2 => ?_⟩
      walk_at "go"
      refine fun l (nl : Nn _ l) => ?_
      walk_at "go"
      refine ⟨_, _, rfl, .no (.lst (SqL.at_ at_same)) (by decide), fun H3 e3 => ?_⟩
      walk_at "go"
      exact q _ (hb1.same (by walk_at "same"))
    case hs =>
      rintro i a x σ H1 H2 hi ⟨hp1, hb1, v1, v2, v3, v4, v5, v6, v7, rfl⟩ e rfl
      walk_at "go"
      refine ⟨hp1.same e, fun x b H3 tb hp3 hb3 => ?_⟩
      walk_at "go"
      refine ⟨hp3, fun l xs H4 hat nl hl hok hp4 hb4 => ?_⟩
      have okx : Ok K H4 x := Ok.but hb4 tb.ne tb.ok
      have wx : WhereF K H4 x b := tb.wi.but hb4 tb.ne
      have hb : But p H H4 := by walk_at "but"
      clear tb hb3 hb4 hp3 hb1 hp1 hp
      cases wx with
      | @tup a ys hys fl hl2 =>
        have kx : Kn K H4 (.ref a) .tup := .tup hys
        walk_at "go"
        refine ⟨okx.same (by walk_at "same"), fun H5 e5 => ?_⟩
        walk_at "go"
        refine ⟨okx.same (by walk_at "same"), fun H6 e6 => ?_⟩
        walk_at "go"
        refine ⟨okx.same (by walk_at "same"), fun H7 e7 => ?_⟩
        walk_at "go"
        refine fun t1 (n1 : Nn _ t1) => ?_
        walk_at "go"
        refine ⟨okx.same (by walk_at "same"), fun H8 e8 => ?_⟩
        walk_at "go"
        refine ⟨okx.same (by walk_at "same"), fun H9 e9 => ?_⟩
        walk_at "go"
        refine ⟨okx.same (by walk_at "same"), fun H10 e10 => ?_⟩
        walk_at "go"
        refine fun t2 (n2 : Nn _ t2) => ?_
        walk_at "go"
        walk_at "rp3"
        walk_at "go"
        walk_at "rp3"
        walk_at "go"
        refine iteNS rfl ?_
        walk_at "go"
        refine ⟨okx.same (by walk_at "same"), fun H11 e11 => ?_⟩
        walk_at "go"
        refine ⟨okx.same (by walk_at "same"), fun H12 e12 => ?_⟩
        walk_at "go"
        refine ⟨okx.same (by walk_at "same"), fun H13 e13 => ?_⟩
        walk_at "go"
        refine fun t3 (n3 : Nn _ t3) => ?_
        walk_at "go"
        walk_at "rp3"
        walk_at "go"
        walk_at "rp3"
        walk_at "go"
        refine iteNS rfl ?_
        walk_at "go"
        have s13 : ∀ o, Same H4 (upd H13 t3 o) := fun o => L2.Same.trans (by walk_at "same" : Same H4 H13) (Same.new n3)
        refine ⟨⟨_, Same.seq (s13 _) (SqL.at_ hat)⟩, ?_⟩
        refine fun D nD => lc_map gives_list (fun y => .bl (partV y)) (by omega) nD (fun _ e => Same.seq ((s13 _).trans e) (SqL.at_ hat)) ?_ ?_
        · rintro y y' H14 hy e14 rfl B hB
          walk_at "go"
          exact ⟨(hok y' hy).same ((s13 _).trans e14), fun H15 e15 => hB H15 e15⟩
        · intro H14 e14 hat14
          refine ⟨_, _, rfl, sq_bools hat14, ?_⟩
          rw [all_bools]
          walk_at "go"
          have s14 := (s13 _).trans e14
          refine ⟨_, _, rfl, Or.inl ⟨Same.seq s14 (SqL.at_ hat), fun u1 (m1 : Nn _ u1) => ?_⟩⟩
          walk_at "go"
          refine ⟨_, _, rfl, .tup (SqT.at_ at_same) (fun y hy => (hok y hy).same (s14.trans (Same.new m1))) (by omega), fun H15 e15 => ?_⟩
          walk_at "go"
          have s15 := (s14.trans (Same.new m1)).trans e15
          refine ⟨_, _, rfl, Or.inl ⟨Same.seq s15 (SqL.at_ hat), fun u2 (m2 : Nn _ u2) => ?_⟩⟩
          walk_at "go"
          refine ⟨_, _, rfl, .tup (SqT.at_ at_same) (fun y hy => (hok y hy).same (s15.trans (Same.new m2))) (by omega), fun H16 e16 => ?_⟩
          walk_at "go"
          have s16 := (s15.trans (Same.new m2)).trans e16
          refine ⟨_, _, rfl, .no (.lst (Same.seq s16 (SqL.at_ hat))) (by decide), fun H17 e17 => ?_⟩
          walk_at "go"
          refine fun t4 (n4 : Nn _ t4) => ?_
          walk_at "go"
          walk_at "rp3"
          walk_at "go"
          refine fun l1 (k1 : Nn _ l1) => ?_
          walk_at "go"
          refine ⟨_, _, _, rfl, rfl, at_same, by decide, by decide, sz_ok (Nat.le_of_ble_eq_true rfl), fun r1 (j1 : Nn _ r1) => ?_⟩
          walk_at "go"
          refine fun l2 (k2 : Nn _ l2) => ?_
          walk_at "go"
          refine ⟨_, _, _, _, rfl, rfl, at_upd (by walk_at "ne") at_same, at_same, sz_ok (Nat.le_of_ble_eq_true rfl), fun r2 (j2 : Nn _ r2) => ?_⟩
          walk_at "go"
          walk_at "rp3"
          walk_at "go"
          refine iteNS rfl ?_
          walk_at "go"
          have s17 := s16.trans e17
          refine ⟨⟨_, Same.seqT (by walk_at "same") hys⟩, ?_⟩
          refine fun D nD => lc_map gives_tup (fun y => .bl (partV y)) (by omega) nD (fun _ e => Same.seqT e (Same.seqT (by walk_at "same") hys)) ?_ ?_
          · rintro y y' H18 hy e18 rfl B hB
            walk_at "go"
            exact ⟨(fl y' hy).ok, fun H19 e19 => hB H19 e19⟩
          · intro H18 e18 hat18
            refine ⟨_, _, rfl, sq_bools hat18, ?_⟩
            rw [all_bools]
            walk_at "go"
            refine ⟨_, _, rfl, .tup (Same.seqT (by walk_at "same") hys) (fun y hy => (fl y hy).ok) hl2, fun H19 e19 => ?_⟩
            walk_at "go"
            walk_at "rp1"
            walk_at "go"
            walk_at "rp1"
            walk_at "go"
            refine iteNS rfl ?_
            exact ⟨hp4.same (by walk_at "same"), hb.same (by walk_at "same"), _, _, _, _, _, _, _, rfl⟩
      | no kn ne =>
        have wn : WhereF K H4 x false := .no kn ne
        have kx := kn
        cases kn
        case tup => exact absurd rfl ne
        all_goals
          walk_at "go"
          refine ⟨okx.same (by walk_at "same"), fun H5 e5 => ?_⟩
          walk_at "go"
          refine ⟨okx.same (by walk_at "same"), fun H6 e6 => ?_⟩
          walk_at "go"
          refine ⟨okx.same (by walk_at "same"), fun H7 e7 => ?_⟩
          walk_at "go"
          refine fun t1 (n1 : Nn _ t1) => ?_
          walk_at "go"
          refine ⟨okx.same (by walk_at "same"), fun H8 e8 => ?_⟩
          walk_at "go"
          refine ⟨okx.same (by walk_at "same"), fun H9 e9 => ?_⟩
          walk_at "go"
          refine ⟨okx.same (by walk_at "same"), fun H10 e10 => ?_⟩
          walk_at "go"
          refine fun t2 (n2 : Nn _ t2) => ?_
          walk_at "go"
          walk_at "rp3"
          walk_at "go"
          walk_at "rp3"
          walk_at "go"
          refine iteNS rfl ?_
          walk_at "go"
          refine ⟨okx.same (by walk_at "same"), fun H11 e11 => ?_⟩
          walk_at "go"
          refine ⟨okx.same (by walk_at "same"), fun H12 e12 => ?_⟩
          walk_at "go"
          refine ⟨okx.same (by walk_at "same"), fun H13 e13 => ?_⟩
          walk_at "go"
          refine fun t3 (n3 : Nn _ t3) => ?_
          walk_at "go"
          walk_at "rp3"
          walk_at "go"
          walk_at "rp3"
          walk_at "go"
          refine iteNS rfl ?_
          walk_at "go"
          have s13 : ∀ o, Same H4 (upd H13 t3 o) := fun o => L2.Same.trans (by walk_at "same" : Same H4 H13) (Same.new n3)
          refine ⟨⟨_, Same.seq (s13 _) (SqL.at_ hat)⟩, ?_⟩
          refine fun D nD => lc_map gives_list (fun y => .bl (partV y)) (by omega) nD (fun _ e => Same.seq ((s13 _).trans e) (SqL.at_ hat)) ?_ ?_
          · rintro y y' H14 hy e14 rfl B hB
            walk_at "go"
            exact ⟨(hok y' hy).same ((s13 _).trans e14), fun H15 e15 => hB H15 e15⟩
          · intro H14 e14 hat14
            refine ⟨_, _, rfl, sq_bools hat14, ?_⟩
            rw [all_bools]
            walk_at "go"
            have s14 := (s13 _).trans e14
            refine ⟨_, _, rfl, Or.inl ⟨Same.seq s14 (SqL.at_ hat), fun u1 (m1 : Nn _ u1) => ?_⟩⟩
            walk_at "go"
            refine ⟨_, _, rfl, .tup (SqT.at_ at_same) (fun y hy => (hok y hy).same (s14.trans (Same.new m1))) (by omega), fun H15 e15 => ?_⟩
            walk_at "go"
            have s15 := (s14.trans (Same.new m1)).trans e15
            refine ⟨_, _, rfl, Or.inl ⟨Same.seq s15 (SqL.at_ hat), fun u2 (m2 : Nn _ u2) => ?_⟩⟩
            walk_at "go"
            refine ⟨_, _, rfl, .tup (SqT.at_ at_same) (fun y hy => (hok y hy).same (s15.trans (Same.new m2))) (by omega), fun H16 e16 => ?_⟩
            walk_at "go"
            have s16 := (s15.trans (Same.new m2)).trans e16
            refine ⟨_, _, rfl, .no (.lst (Same.seq s16 (SqL.at_ hat))) (by decide), fun H17 e17 => ?_⟩
            walk_at "go"
            refine fun t4 (n4 : Nn _ t4) => ?_
            walk_at "go"
            walk_at "rp3"
            walk_at "go"
            refine fun l1 (k1 : Nn _ l1) => ?_
            walk_at "go"
            refine ⟨_, _, _, rfl, rfl, at_same, by decide, by decide, sz_ok (Nat.le_of_ble_eq_true rfl), fun r1 (j1 : Nn _ r1) => ?_⟩
            walk_at "go"
            refine fun l2 (k2 : Nn _ l2) => ?_
            walk_at "go"
            refine ⟨_, _, _, _, rfl, rfl, at_upd (by walk_at "ne") at_same, at_same, sz_ok (Nat.le_of_ble_eq_true rfl), fun r2 (j2 : Nn _ r2) => ?_⟩
            walk_at "go"
            walk_at "rp3"
            walk_at "go"
            refine iteNS rfl ?_
            walk_at "go"
            have s17 := s16.trans e17
            refine ⟨_, _, rfl, wn.is (by walk_at "same"), fun H19 e19 => ?_⟩
            walk_at "go"
            walk_at "rp1"
            walk_at "go"
            walk_at "rp1"
            walk_at "go"
            refine iteNS rfl ?_
            exact ⟨hp4.same (by walk_at "same"), hb.same (by walk_at "same"), _, _, _, _, _, _, _, rfl⟩
end
end K18
namespace K18
open PySem L2 GG
def spLaw (K : PySem.W.Frag) : Sp := fun vs H Q _ => ∃ (a : Addr) (ns : List Int), vs = [.ref a] ∧ SqL K H a (ns.map V.int) ∧ ns.length ≤ 63 ∧ ∀ H', Q (.bl true) H'
theorem ok_l_law {P : Program} {w : World} {K : PySem.W.Frag} {mg : Str → Option Value} {base : Heap} {fa : Nat → Addr} {fd : Nat → FuncData} (T : Txt K mg fa fd) : FnG P w K mg base CX0 7 (fa 14) (fd 14) ["_law_script"] (spLaw K) := by
  refine FnG.ofFun T.d_law.F sc_law (fun vs H Q E h => ?_) (fun cdv A outer s H vs Q E hg hr h => ?_)
  · obtain ⟨a, ns, rfl, _⟩ := h
    rfl
  · obtain ⟨a, ns, rfl, hS, hl, q⟩ := h
    refine ⟨_, (pss_one (ps_ret (pe_callB (cr_all rfl) (by rfl) T.b_all (by decide +kernel) (pa_cons (pe_lc (own := [("_law_k", 1)]) (g := gName 1) (tt := tYes) rfl sc_law.nd (pi_range1 (by rfl) T.b_range (pa_cons (pe_callB (call_max2 rfl) (by rfl) T.b_max (by decide +kernel) (pa_cons pe_int (pa_cons (pe_callB (call_min2 rfl) (by rfl) T.b_min (by decide +kernel) (pa_cons (pe_callB call_len (by rfl) T.b_len (by decide +kernel) (pa_cons (pv 0) pa_nil)) (pa_cons pe_int pa_nil))) pa_nil))) pa_nil)) (blkOk_by (own := [("_law_k", 1)]) (N := ["_law_script", "_law_k"]) (sc := defScope s_law) (by decide +kernel)) (fun _ _ _ _ _ => pg_name (i := 1) sc_law.nd rfl (Or.inl rfl)) (fun _ _ _ _ _ => pts_nil) (fun _ _ _ _ _ => (pe_callG (ok_l_right T) (hr.mono (by decide)) hg (by rfl) T.d_l_right.at_ T.d_l_right.kp T.d_l_right.b .nil pass0 (pa_cons (pe_call (ok_l_pot T) (hr.mono (by decide)) (by rfl) T.d_l_pot.at_ T.d_l_pot.kp T.d_l_pot.b .nil pass0 (pa_cons (pv 0) (pa_cons (pv 1) pa_nil))) pa_nil)))) pa_nil)))), ?_⟩
    walk_at "go"
    refine ⟨?_, ?_, ?_⟩
    · repeat' split
      all_goals omega
    · repeat' split
      all_goals omega
    refine fun D nD => lc_map gives_range (fun _ => .bl true) ?_ nD (fun _ _ => trivial) ?_ ?_
    · rw [List.length_range]
      repeat' split
      all_goals omega
    · rintro k x H1 hk e1 rfl B hB
      have hk4 : k < 4 := by
        have := List.mem_range.mp hk
        repeat' split at this
        all_goals omega
      walk_at "go"
      refine ⟨_, ns, _, rfl, e1.seq hS, by omega, by omega, by omega, fun p o np hp => ?_⟩
      walk_at "go"
      refine ⟨hp, fun H2 hb => ?_⟩
      exact hB H2 (But.free (GG.Same.but (Same.new np) hb) np)
    · intro H1 e1 hat
      refine ⟨_, _, rfl, sq_bools (f := fun _ => true) hat, ?_⟩
      rw [all_bools]
      have e : ∀ xs : List Nat, (xs.all fun _ => true) = true := fun xs => by simp
      rw [e]
      exact q _
theorem all_F {l : PySem.W.OpenLaw} {w : World} {K : PySem.W.Frag} {mg : Str → Option Value} {f : Addr} (hf : mg "law" = some (.ref f))
    (R : ∃ (fa : Nat → Addr) (fd : Nat → FuncData), (∃ kV dc pm an cd ct, fd 14 = PySem.W.fnOf "law" "law" (defArgs s_law) (defBody s_law) (defScope s_law) .none kV dc pm an cd ct) ∧ Txt K mg fa fd) :
    ∃ fd : FuncData, (∀ (s : Shared) (v : Value), BindsTo s fd ⟨[v], []⟩ [("_law_script", v)]) ∧
      ∀ base : Heap, K.In base → base.Ns mainGlobals mg → FnG l.prog w K mg base CX0 7 f fd ["_law_script"] (spLaw K) := by
  obtain ⟨fa, fd, ⟨kV, dc, pm, an, cd, ct, e⟩, T⟩ := R
  obtain rfl : f = fa 14 := by
    have q := hf.symm.trans T.d_law.at_
    cases q
    rfl
  exact ⟨fd 14, fun s v => by rw [e]; exact .of_eq rfl, fun base _ _ => ok_l_law T⟩
theorem walk {l : PySem.W.OpenLaw} {q : Program} {loose : List Str} {XP : (Str → Option Value) → Heap → Prop} {YP : World → Heap → Prop} {d : DefRec} {K : Params → PySem.W.Frag} (hn : l.most = some 63) (hdf : d.params.defaults = [])
    (hY : ∀ (w : World) (h : Heap), YP w h → (K w.params).In h)
    (F : ∀ (w : World) (mg : Str → Option Value) (fa : Addr) (h : Heap), (K w.params).In h → h.Ns mainGlobals mg → mg d.name = some (.ref fa) →
      ∃ fd : FuncData, (∀ (s : Shared) (u : Value), BindsTo s fd ⟨[u], []⟩ [("_law_script", u)]) ∧ ∀ base : Heap, (K w.params).In base → base.Ns mainGlobals mg → FnG l.prog w (K w.params) mg base CX0 7 fa fd ["_law_script"] (spLaw (K w.params))) :
    PySem.W.WalkO q loose XP YP l.row.toRowW d [] (fun f vs => PySem.call f vs) :=
  GG.walkG (n := 63) (k := 7) (x := "_law_script") (sp := fun w => spLaw (K w.params)) hn (by decide) hdf ⟨rfl, by decide, by decide⟩ hY F
    (fun _ _ a ns hl _ hS => ⟨a, ns, rfl, hS, hl, fun _ => rfl⟩)
end K18
open PySem PySem.W PyProof.Rows
set_option maxRecDepth 100000 in
set_option maxHeartbeats 0 in
theorem PySem.Challenge.cw_cutshows_k18_basics_holds : PySem.Challenge.rw_cutshows_k18_basics.Holds := by
  w_on; o_law; k_head; (case hw => w_witness2)
  k_fill
  refine K18.walk (l := PySem.Challenge.rw_cutshows_k18_basics) rfl rfl (fun w h Y => PySem.W.kIn_of Y) ?F
  case F =>
    intro w mg fa h KX G hmg
    refine K18.all_F hmg ?R
    refine' K18.all_mk KX G ?a0 ?l0 ?c0 ?k0 ?a1 ?l1 ?c1 ?k1 ?a2 ?l2 ?c2 ?k2 ?a3 ?l3 ?c3 ?k3 ?a4 ?l4 ?c4 ?k4 ?a5 ?l5 ?c5 ?k5 ?a6 ?l6 ?c6 ?k6 ?a7 ?l7 ?c7 ?k7 ?a8 ?l8 ?c8 ?k8 ?a9 ?l9 ?c9 ?k9 ?a10 ?l10 ?c10 ?k10 ?a11 ?l11 ?c11 ?k11 ?a12 ?l12 ?c12 ?k12 ?a13 ?l13 ?c13 ?k13 ?a14 ?l14 ?c14 ?k14 ?g_LETTERS ?g_LONGEST_NAME ?z_abs ?z_all ?z_bool ?z_divmod ?z_int ?z_isinstance ?z_len ?z_max ?z_min ?z_range ?z_repr ?z_str ?z_tuple
    (case a0 => k_is); (case l0 => k_is); (case c0 => k_is); (case k0 => k_is); (case a1 => k_is); (case l1 => k_is); (case c1 => k_is); (case k1 => k_is); (case a2 => k_is); (case l2 => k_is); (case c2 => k_is); (case k2 => k_is); (case a3 => k_is); (case l3 => k_is); (case c3 => k_is); (case k3 => k_is); (case a4 => k_is); (case l4 => k_is); (case c4 => k_is); (case k4 => k_is); (case a5 => k_is); (case l5 => k_is); (case c5 => k_is); (case k5 => k_is); (case a6 => k_is); (case l6 => k_is); (case c6 => k_is); (case k6 => k_is); (case a7 => k_is); (case l7 => k_is); (case c7 => k_is); (case k7 => k_is); (case a8 => k_is); (case l8 => k_is); (case c8 => k_is); (case k8 => k_is); (case a9 => k_is); (case l9 => k_is); (case c9 => k_is); (case k9 => k_is); (case a10 => k_is); (case l10 => k_is); (case c10 => k_is); (case k10 => k_is); (case a11 => k_is); (case l11 => k_is); (case c11 => k_is); (case k11 => k_is); (case a12 => k_is); (case l12 => k_is); (case c12 => k_is); (case k12 => k_is); (case a13 => k_is); (case l13 => k_is); (case c13 => k_is); (case k13 => k_is); (case a14 => k_is); (case l14 => k_is); (case c14 => k_is); (case k14 => k_is); (case g_LETTERS => k_is); (case g_LONGEST_NAME => k_is); (case z_abs => k_is); (case z_all => k_is); (case z_bool => k_is); (case z_divmod => k_is); (case z_int => k_is); (case z_isinstance => k_is); (case z_len => k_is); (case z_max => k_is); (case z_min => k_is); (case z_range => k_is); (case z_repr => k_is); (case z_str => k_is); (case z_tuple => k_is);
#print axioms PySem.Challenge.cw_cutshows_k18_basics_holds
