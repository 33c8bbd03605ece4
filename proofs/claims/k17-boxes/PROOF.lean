import PyProof.Rows.All
import Wide.All
import OpenK.AllK
import Wide.FinOn
import HandS.ForMost
import HandS.IsInst
import HandS.WideBits
import HandS.Wide
import HandS.Walk
import HandS.Style
import HandS.Flow
import PyProof.ReprRoads
import HandS.Codes
import HandS.Defaults
import HandS.Zip
import KE.GoesEnum
import HandS.Star
import HandS.Property
import HandS.ClsMeth
import HandS.More
import HandS.Deep
import HandS.Conv
import HandS.Strs
import HandS.SetFor
import HandS.TupAny
import PySem.Challenge.RW_cutshows_k17_whole_boxes_of_two_sides
set_option Elab.async false
set_option linter.all false
set_option maxRecDepth 100000
set_option maxHeartbeats 4000000
/-! G1: defs whose promise may lean on the absence of guards (for repr); the call of such a def; the end of a law's row; repr of data. -/
namespace GG
open PySem L2 PySem.Spec PyProof.Rows

abbrev NoG (A : Around) : Prop := A.guards = some []

structure FnG (P : Program) (w : World) (K : PySem.W.Frag) (mg : Str → Option Value) (base : Heap)
    (CX : CXT) (k : Nat) (f : Addr) (fd : FuncData) (ps : List Str) (sp : Sp) : Prop where
  size : ∀ vs H Q E, sp vs H Q E → vs.length = ps.length
  go : ∀ (A : Around) (out : List Env) (s : Shared) (H : Hp) (args : Args) (us : List Value)
    (vs : List V) (Q : VK) (E : XK), Room k A → NoG A → Env0 P w K mg base A out s H →
    BindsTo s fd args (ps.zip us) → Vals vs us → sp vs H Q E →
    codeAny (model P w) A (.call (.ref f) args) (CR CX out P w H s Q E) s

theorem FnG.plain {P : Program} {w : World} {K : PySem.W.Frag} {mg : Str → Option Value} {base : Heap}
    {CX : CXT} {k : Nat} {f : Addr} {fd : FuncData} {ps : List Str} {sp : Sp}
    (F : FnOk P w K mg base CX k f fd ps sp) : FnG P w K mg base CX k f fd ps sp :=
  ⟨F.len, fun A out s H args us vs Q E hr _ e0 hb hv h => F.run A out s H args us vs Q E hr e0 hb hv h⟩

theorem FnG.ofFun {P : Program} {w : World} {K : PySem.W.Frag} {mg : Str → Option Value} {base : Heap}
    {x qual : Str} {st : Stmt} {f : Addr} {fd : FuncData} {N ps : List Str} {k : Nat} {sp : Sp}
    (F : Fun K x qual st f fd) (S : FnScope N ps (defScope st))
    (size : ∀ vs H Q E, sp vs H Q E → vs.length = ps.length)
    (body : ∀ (cdv : Value) (A : Around) (out : List Env) (s : Shared) (H : Hp) (vs : List V) (Q : VK) (E : XK),
      NoG A → Room k (A.deeper (envOfC qual (defScope st) s.heap.objs.size f cdv)) → sp vs H Q E →
      ∃ t, PSs (cxOf CX0 P w K mg base N qual (defScope st) f cdv A out s H E).nox (defBody st) t ∧
        t { nx := fun _ H' => Q .non H', rt := Q } (start N vs) H) :
    FnG P w K mg base CX0 (k + 1) f fd ps sp := by
  obtain ⟨oc, od, kV, doc, pm, an, cdv, ct, osl, rfl, lk, hcd⟩ := F.ex
  refine ⟨size, fun A out s H args us vs Q E hr hg e0 hb r hsp => ?_⟩
  have hz := size _ _ _ _ hsp
  have KX : K.In s.heap := e0.mod.kin.keeps fun b o q => (e0.bs b o q).1
  have lim : s.heap.NoLimit := e0.mod.nolimit.keeps fun b o q => (e0.bs b o q).1
  have hkind : ∀ y ∈ ps.zip us, (defScope st).names.lookup y.1 = some .local ∨
      ((defScope st).names.lookup y.1 = some .cell ∧
        ((cellsFrom (s.heap.objs.size + 1) (defScope st).names []).lookup y.1).isSome = true) := by
    rintro ⟨n, v⟩ hy
    rcases S.par n (List.of_mem_zip hy).1 with q | q
    · exact Or.inl q
    · exact Or.inr ⟨q, PySem.W.cellsFrom_some _ _ _ (Or.inl q)⟩
  refine codeAny_call_function hr.depth (KX _ _ lk) rfl S.co S.gen rfl
    (PySem.W.codeRec_of KX hcd) (hb _ _ _ _ ?_)
  refine wpAny_newFunctionEnv_cells S.kind hkind fun env he s1 x => ?_
  subst he
  refine ⟨lim.keeps x.toInCall.keep, codeAny_func ?_⟩
  obtain ⟨t, ht0, hq⟩ := body cdv A out s H vs Q E hg (hr.deeper _) hsp
  have ht := ht0.nox
  have I : Inv (cxOf CX0 P w K mg base N qual (defScope st) f cdv A out s H E) [] (start N vs) H s1 :=
    inv_start S hr.hd e0 hz r x
  refine wpAny_mono (ht.run [] s1 (start N vs) H _ I hq) (fun fl s' hs => ?_) (fun e s' hs => hs)
  have fin : ∀ {σ' : L2.St} {H' : Hp} {v : V} {u : Value},
      Inv (cxOf CX0 P w K mg base N qual (defScope st) f cdv A out s H E) [] σ' H' s' →
      RelV v u → Q v H' → CE out P w H s Q u s' :=
    fun {σ' H' v u} J rv q => ⟨v, H', J.os, J.bare, J.base, J.hok, rv, q⟩
  cases fl with
  | ret u =>
    obtain ⟨v, σ', H', J, rv, q⟩ := hs
    exact fin J rv q
  | next =>
    obtain ⟨σ', H', J, q⟩ := hs
    exact fin (v := V.non) (u := Value.none) J rfl q
  | brk =>
    obtain ⟨_, _, _, q⟩ := hs
    exact q.elim
  | cont =>
    obtain ⟨_, _, _, q⟩ := hs
    exact q.elim

section
variable {X : Cx} {CX : CXT} {k : Nat} {f C : Addr} {fd : FuncData} {ps : List Str} {sp : Sp}
  {dvs : List V} {ds : List Value} {E : XK} {x m : Str} {p pos apos : Pos} {e o : Expr} {es : List Expr}
  {ta : TE} {t : TA}
theorem run_g {pins : List (Addr × Obj)} {σ : L2.St} {H : Hp} {s : Shared} {Q : VK} {us : List Value} {vs : List V}
    (F : FnG X.prog X.w X.K X.mg X.base CX k f fd ps sp) (hr : Room k X.A) (hg : NoG X.A)
    (hb : Binds X.K fd ps ds) (hd : Vals dvs ds) (hx : Passes CX X E)
    (I : Inv X pins σ H s) (r : Vals vs us) (h : sp (vs ++ dvs) H Q E) :
    wpAny (model X.prog X.w) X.A (call (.ref f) us) (EP X pins σ Q) X.xe s := by
  have r2 : Vals (vs ++ dvs) (us ++ ds) := Vals.append r hd
  have hl : (us ++ ds).length = ps.length := by
    rw [← r2.length]
    exact F.size _ _ _ _ h
  refine wpAny_call (codeAny_mono (F.go X.A X.stack s H ⟨us, []⟩ (us ++ ds) (vs ++ dvs) Q E hr hg
    I.env0 (hb s us I.kIn hl) r2 h) fun r s' hq => ?_)
  cases r with
  | error e => exact hx pins σ H s e s' I hq
  | ok fl =>
    cases fl with
    | ret u => exact Inv.after I hq
    | next => exact hq.elim
    | brk => exact hq.elim
    | cont => exact hq.elim
theorem pe_callG (F : FnG X.prog X.w X.K X.mg X.base CX k f fd ps sp) (hr : Room k X.A) (hg : NoG X.A)
    (gl : Gl X x) (hm : X.mg x = some (.ref f)) (hk : PySem.W.keepIn X.K (.ref f) = true)
    (hb : Binds X.K fd ps ds) (hd : Vals dvs ds) (hx : Passes CX X E)
    (ha : PA X (e :: es) t) (hdb : (x == ("__debug__" : Str)) = false := by decide)
    (he : starEach (e :: es) X.env = (false, eval e X.env) :: starEach es X.env := by rfl)
    (hpl : (backTo pos (starEach es X.env)).any (·.1) = false := by rfl) :
    PE X (.Call (.Name x p) (e :: es) [] pos) (tCall sp dvs E t) := by
  refine ⟨fun pins s σ H Q I h => ?_⟩
  refine wpAny_Call_Name_kw (ld_glob I gl hm ?_ hdb)
  refine PySem.W.callWith_K (h₀ := X.base) I.ok.mod.kin hk
    (thn (ha.run pos pins s σ H _ I h) fun us s1 ⟨vs, H1, I1, r, q⟩ => ⟨I1.kIn, ?_⟩) he hpl
  exact run_g F hr hg hb hd hx I1 r q
end

/-! ### repr of data -/
/-- the text of data, closed to reckoning -/
@[irreducible] def shownI (d : PyData) : Str := d.shown
theorem shownI_eq (d : PyData) : shownI d = d.shown := by
  unfold shownI
  rfl
def rRepr (K : PySem.W.Frag) : List V → Hp → VK → Prop := fun xs H Q =>
  ∃ (x : V) (d : PyData), xs = [x] ∧ Dp K H x d ∧ d.showable = true ∧ d.hasDict = false ∧ d.depth ≤ 60 ∧
    d.shown.length ≤ sizeLine ∧ Q (.str (shownI d)) H
section
variable {X : Cx}
theorem call_repr_data (hg : NoG X.A) (hu : X.A.units + 64 < cLine) :
    CallR X (.builtin "repr") (rRepr X.K) := by
  intro pins s σ H xs us Q I r h
  obtain ⟨x, d, rfl, hd, hs, hn, hz, hl, q⟩ := h
  rw [shownI_eq] at q
  obtain ⟨u, rfl, ru⟩ := vals1 r
  obtain ⟨as, rd⟩ := Dp.reads I d x u hd ru
  have fin : ∀ (h' : Heap) (tk : Tok) (n : Nat), (∀ b o, s.heap.get? b = some o → h'.get? b = some o) →
      EP X pins σ Q (.str d.shown tk) { s with heap := h', toks := n } := fun h' tk n hk =>
    ⟨.str d.shown, H, I.kept (t' := n) hk, ⟨tk, rfl⟩, q⟩
  cases rd with
  | none => exact P.repr_of_none (fin s.heap _ _ fun _ _ z => z)
  | bool b => exact P.repr_of_bool (fin s.heap _ _ fun _ _ z => z)
  | int i t =>
    refine P.repr_of_int ?_ (fin s.heap _ _ fun _ _ z => z)
    have : decide (i.natAbs.log2 < 1920) = true := by simpa [PyData.showable] using hs
    exact of_decide_eq_true this
  | str y t => exact P.repr_of_str (fin s.heap _ _ fun _ _ z => z) hl
  | list h1 h2 h3 h4 =>
    refine repr_of_reads' (.list h1 h2 h3 h4) hs (fun z => ?_) hg (by omega) (fun _ _ z => z) (fun h' u tk hk => fin h' u tk hk) hl
    rw [hn] at z
    cases z
  | tuple h1 h2 h3 h4 =>
    refine repr_of_reads' (.tuple h1 h2 h3 h4) hs (fun z => ?_) hg (by omega) (fun _ _ z => z) (fun h' u tk hk => fin h' u tk hk) hl
    rw [hn] at z
    cases z
  | dict h1 h2 h3 h4 h5 =>
    simp [PyData.hasDict] at hn
end
end GG
/-! G2: the end of a law's row by a promise of the kind FnG. -/
namespace GG
open PySem L2 PySem.Spec PyProof.Rows

/-- from an abstract heap that tracks at most the script -/
theorem callG_at {P : Program} {w : World} {K : PySem.W.Frag} {mg mb : Str → Option Value} {k : Nat} {fa a : Addr}
    {fd : FuncData} {x : Str} {sp : Sp} {s₁ : Shared} {vs : List Value} {H : Hp}
    (KX : K.In s₁.heap) (hns : s₁.heap.Ns mainGlobals mg) (hb : s₁.heap.Ns builtinsNs mb)
    (hbb : ∀ x : Str, x ≠ "__name__" → mb x = bootBuiltins x) (hlim : s₁.heap.NoLimit) (hg : s₁.gens = #[])
    (ha : s₁.heap.get? a = some { cls := .type "list", data := .seq vs.toArray })
    (hr : Room k callerA)
    (F : ∀ base : Heap, K.In base → base.Ns mainGlobals mg → FnG P w K mg base CX0 k fa fd [x] sp)
    (hbind : ∀ (s : Shared) (u : Value), BindsTo s fd ⟨[u], []⟩ [(x, u)])
    (hsp : sp [.ref a] H (fun v _ => v = .bl true) fun _ _ _ => False)
    (hO : Only H) (hok : HOk P w H s₁.heap) (hA : ∀ b, H b ≠ none → b = a) (hK : H a ≠ none → K.lookup a = none) :
    codeAny (model P w) callerA (.call (.ref fa) ⟨[.ref a], []⟩)
      (fun r s' => r = .ok (.ret (.bool true)) ∧ OldK s₁.heap s'.heap ∧ s'.os = s₁.os ∧ AllBare s'.gens) s₁ := by
  have noA : ∀ {b : Addr} {o : Obj} {es : Array DictEntry} {ep : Nat},
      s₁.heap.get? b = some o → o.data = .dict es ep → H b = none := by
    intro b o es ep e d
    cases q : H b with
    | none => rfl
    | some u =>
      obtain rfl : b = a := hA b (by rw [q]; simp)
      rw [ha] at e
      cases e
      have d' : Data.seq vs.toArray _ = Data.dict es ep := d
      cases d'
  have nsK : ∀ {b : Addr} {m : Str → Option Value}, s₁.heap.Ns b m → (hidT s₁.heap H).Ns b m :=
    fun {b m} ⟨o, es, ep, e, d, r⟩ => ⟨o, es, ep, hidT_get e (noA e d), d, r⟩
  have hKb : K.In (hidT s₁.heap H) := by
    intro b o e
    refine hidT_get (KX b o e) ?_
    cases q : H b with
    | none => rfl
    | some u =>
      obtain rfl : b = a := hA b (by rw [q]; simp)
      rw [hK (by rw [q]; simp)] at e
      cases e
  have hM : Mod K mg (hidT s₁.heap H) := by
    refine ⟨hKb, nsK hns, ⟨mb, nsK hb, hbb⟩, ?_⟩
    obtain ⟨mc, h1, h2⟩ := hlim
    exact ⟨mc, nsK h1, h2⟩
  have no : ∀ {b : Addr}, b ∈ ([] : List Addr) → False := fun z => by simp at z
  have e0 : Env0 P w K mg (hidT s₁.heap H) callerA [] s₁ H :=
    ⟨rfl, hM, fun b o e => of_hidT e, Nat.le_of_eq (hidT_size _ _), trivial, fun b z => (no z).elim, hok, .of_eq hg⟩
  refine codeAny_mono ((F _ hKb (nsK hns)).go callerA [] s₁ H ⟨[.ref a], []⟩ [.ref a] [.ref a] _ _ hr rfl
    e0 (hbind s₁ (.ref a)) (.cons rfl .nil) hsp) fun r s' h => ?_
  cases r with
  | error e => exact False.elim (show False from h)
  | ok fl =>
    cases fl with
    | next => exact False.elim h
    | brk => exact False.elim h
    | cont => exact False.elim h
    | ret u =>
      obtain ⟨v, H', os, bare, un, hok', r', q⟩ := h
      obtain rfl : v = .bl true := q
      obtain rfl : u = Value.bool true := r'
      refine ⟨rfl, OldK.of_keep fun b o e => ?_, os, bare⟩
      cases q : H b with
      | none => exact un.keep b o e q (fun z => no z) (fun z => no z)
      | some u =>
        rcases hO b with z | ⟨ob, xs, z⟩
        · rw [q] at z
          cases z
        · obtain ⟨e1, _⟩ := hok b _ z
          obtain ⟨e2, _⟩ := hok' b _ (un.frzs b ob _ z)
          rw [e] at e1
          cases e1
          exact e2

theorem law_callG {P : Program} {w : World} {K : PySem.W.Frag} {mg mb : Str → Option Value} {k : Nat} {fa a : Addr}
    {fd : FuncData} {x : Str} {sp : Sp} {s₁ : Shared} {vs : List Value} {ns : List Int}
    (KX : K.In s₁.heap) (hns : s₁.heap.Ns mainGlobals mg) (hb : s₁.heap.Ns builtinsNs mb)
    (hbb : ∀ x : Str, x ≠ "__name__" → mb x = bootBuiltins x) (hlim : s₁.heap.NoLimit) (hg : s₁.gens = #[])
    (ha : s₁.heap.get? a = some { cls := .type "list", data := .seq vs.toArray })
    (hi : IntsAre vs ns) (hl : ns.length ≤ sizeLine) (hr : Room k callerA)
    (F : ∀ base : Heap, K.In base → base.Ns mainGlobals mg → FnG P w K mg base CX0 k fa fd [x] sp)
    (hbind : ∀ (s : Shared) (u : Value), BindsTo s fd ⟨[u], []⟩ [(x, u)])
    (hsp : ∀ H : Hp, Only H → SqL K H a (ns.map V.int) → sp [.ref a] H (fun v _ => v = .bl true) fun _ _ _ => False) :
    codeAny (model P w) callerA (.call (.ref fa) ⟨[.ref a], []⟩)
      (fun r s' => r = .ok (.ret (.bool true)) ∧ OldK s₁.heap s'.heap ∧ s'.os = s₁.os ∧ AllBare s'.gens) s₁ := by
  have rv := vals_ints hi
  have lenV := hi.length
  cases hk : K.lookup a with
  | some o =>
    have e := KX a o hk
    rw [ha] at e
    cases e
    have hO : Only (fun _ => none) := fun _ => Or.inl rfl
    have hS : SqL K (fun _ => none) a (ns.map V.int) :=
      Or.inr ⟨_, vs.toArray, _, hk, rfl, rfl, rfl, by rw [List.size_toArray, lenV]; exact hl, by simpa using rv⟩
    refine callG_at KX hns hb hbb hlim hg ha hr F hbind (hsp _ hO hS) hO (fun b u z => ?_) (fun b z => absurd rfl z)
      fun z => absurd rfl z
    have z' : (none : Option HO) = some u := z
    cases z'
  | none =>
    have at_ : ∀ b, b = a → (fun b => if b = a then some (HO.frz { cls := .type "list", data := .seq vs.toArray }
        (.lst (ns.map V.int))) else none) b = some (HO.frz { cls := .type "list", data := .seq vs.toArray } (.lst (ns.map V.int))) :=
      fun b hb => if_pos hb
    have off : ∀ b, ¬ b = a → (fun b => if b = a then some (HO.frz { cls := .type "list", data := .seq vs.toArray }
        (.lst (ns.map V.int))) else none) b = none := fun b hb => if_neg hb
    have hO : Only (fun b => if b = a then some (HO.frz { cls := .type "list", data := .seq vs.toArray }
        (.lst (ns.map V.int))) else none) := fun b => by
      by_cases hb : b = a
      · exact Or.inr ⟨_, _, at_ b hb⟩
      · exact Or.inl (off b hb)
    refine callG_at KX hns hb hbb hlim hg ha hr F hbind (hsp _ hO (Or.inl (Or.inr ⟨_, at_ a rfl⟩))) hO (fun b u z => ?_)
      (fun b z => ?_) fun _ => hk
    · by_cases hb : b = a
      · have z' := (at_ b hb).symm.trans z
        cases z'
        subst hb
        exact ⟨ha, by rw [List.length_map]; exact hl, vs, _, rv, ha⟩
      · have z' := (off b hb).symm.trans z
        cases z'
    · by_cases hb : b = a
      · exact hb
      · exact absurd (off b hb) z

theorem walkG {l : PySem.W.OpenLaw} {n k : Nat} {q : Program} {loose : List Str}
    {XP : (Str → Option Value) → Heap → Prop} {YP : World → Heap → Prop} {d : DefRec} {K : Params → PySem.W.Frag}
    {sp : World → Sp} {x : Str}
    (hn : l.most = some n) (hn2 : n ≤ sizeLine) (hdf : d.params.defaults = []) (hr : Room k callerA)
    (hY : ∀ (w : World) (h : Heap), YP w h → (K w.params).In h)
    (F : ∀ (w : World) (mg : Str → Option Value) (fa : Addr) (h : Heap), (K w.params).In h → h.Ns mainGlobals mg →
      mg d.name = some (.ref fa) → ∃ fd : FuncData, (∀ (s : Shared) (u : Value), BindsTo s fd ⟨[u], []⟩ [(x, u)]) ∧
        ∀ base : Heap, (K w.params).In base → base.Ns mainGlobals mg →
          FnG l.prog w (K w.params) mg base CX0 k fa fd [x] (sp w))
    (hsp : ∀ (w : World) (H : Hp) (a : Addr) (ns : List Int), ns.length ≤ n → Only H →
      SqL (K w.params) H a (ns.map V.int) → sp w [.ref a] H (fun v _ => v = .bl true) fun _ _ _ => False) :
    PySem.W.WalkO q loose XP YP l.row.toRowW d [] (fun f vs => PySem.call f vs) := by
  refine Att.attach_call hn hdf fun w s₀ s₁ mg mb fa o pm cd doc a vs ns G Y ho hd hcd hmg hobj hints hlen hg => ?_
  have KX := hY w _ Y
  obtain ⟨fd, hb, hF⟩ := F w mg fa _ KX G.T.g hmg
  exact law_callG KX G.T.g G.T.b G.T.builtins G.T.nolimit hg hobj hints (Nat.le_trans hlen hn2) hr hF hb
    fun H hO hS => hsp w H a ns hlen hO hS
end GG
/-! G3: what stands where, in words that unify first order; facts of names. -/
namespace GG
open PySem L2 PySem.Spec PyProof.Rows

/-- o stands at a -/
def At (H : Hp) (a : Addr) (o : HO) : Prop := H a = some o
/-- nothing stands at a -/
def Nn (H : Hp) (a : Addr) : Prop := H a = none
/-- all but the object at p is as it was -/
def But (p : Addr) (H H' : Hp) : Prop := ∀ b o, H b = some o → b ≠ p → H' b = some o
section
variable {H H' H1 : Hp} {a b p : Addr} {o u : HO} {K : PySem.W.Frag} {xs : List V}
theorem At.out (h : At H a o) : H a = some o := h
theorem Nn.out (h : Nn H a) : H a = none := h
theorem at_same : At (upd H a o) a o := upd_same
theorem at_upd (n : a ≠ p) (h : At H a o) : At (upd H p u) a o := (upd_ne n).trans h
theorem at_Same (e : Same H H') (h : At H a o) : At H' a o := e _ _ h
theorem at_But (e : But p H H') (n : a ≠ p) (h : At H a o) : At H' a o := e _ _ h n
theorem ne_An (h : Nn H b) (q : At H a o) : a ≠ b := ne_of_none q h
theorem ne_nA (h : Nn H a) (q : At H b o) : a ≠ b := (ne_of_none q h).symm
theorem nn_Same (e : Same H H') (h : Nn H' a) : Nn H a := Same.free e h
theorem nn_upd (h : Nn (upd H p u) a) : Nn H a := by
  unfold Nn upd at h
  split at h
  · cases h
  · exact h
theorem nn_But (e : But p H H') (n : a ≠ p) (h : Nn H' a) : Nn H a := by
  cases q : H a with
  | none => exact q
  | some o =>
    have z : H' a = none := h
    rw [e a o q n] at z
    cases z
theorem SqL.at_ (h : At H a (.lst xs)) : SqL K H a xs := Or.inl (Or.inl h)
theorem SqT.at_ (h : At H a (.tup xs)) : SqT K H a xs := Or.inl (Or.inl h)
theorem Same.new (h : Nn H p) : Same H (upd H p o) := fun b u e => by
  rw [upd_ne (ne_of_none e h)]
  exact e
theorem But.new (h : Nn H p) : But a H (upd H p o) := fun b u e _ => Same.new h b u e
theorem But.refl : But a H H := fun _ _ e _ => e
theorem But.set : But a H (upd H a o) := fun b u e n => (upd_ne n).trans e
theorem But.trans (e : But p H H1) (f : But p H1 H') : But p H H' := fun b o h n => f b o (e b o h n) n
theorem But.same (e : But p H H1) (f : Same H1 H') : But p H H' := fun b o h n => f b o (e b o h n)
theorem Same.but (e : Same H H1) (f : But p H1 H') : But p H H' := fun b o h n => f b o (e b o h) n
theorem But.of (e : Same H H1) : But p H H1 := fun b o h _ => e b o h
/-- what was changed was not there -/
theorem But.free (e : But p H H1) (n : Nn H p) : Same H H1 := fun b o h => e b o h (ne_of_none h n)
theorem Same.upd_free (e : Same H H1) (n : Nn H p) : Same H (upd H1 p o) := fun b u h => (upd_ne (ne_of_none h n)).trans (e b u h)
theorem But.upd_free {q : Addr} (e : But p H H1) (n : Nn H q) : But p H (upd H1 q o) := fun b u h z => (upd_ne (ne_of_none h n)).trans (e b u h z)
theorem Same.seqT (e : Same H H') (h : SqT K H a xs) : SqT K H' a xs := by
  rcases h with (h | ⟨o, h⟩) | h
  · exact Or.inl (Or.inl (e _ _ h))
  · exact Or.inl (Or.inr ⟨o, e _ _ h⟩)
  · exact Or.inr h
theorem SqL.but (e : But p H H') (n : a ≠ p) (h : SqL K H a xs) : SqL K H' a xs := by
  rcases h with (h | ⟨o, h⟩) | h
  · exact Or.inl (Or.inl (e _ _ h n))
  · exact Or.inl (Or.inr ⟨o, e _ _ h n⟩)
  · exact Or.inr h
theorem SqT.but (e : But p H H') (n : a ≠ p) (h : SqT K H a xs) : SqT K H' a xs := by
  rcases h with (h | ⟨o, h⟩) | h
  · exact Or.inl (Or.inl (e _ _ h n))
  · exact Or.inl (Or.inr ⟨o, e _ _ h n⟩)
  · exact Or.inr h
end

theorem iteD {c A B : Prop} [Decidable c] (h1 : c → A) (h2 : ¬ c → B) : if decide c = true then A else B := by
  by_cases h : c
  · rw [decide_eq_true h]
    exact h1 h
  · rw [decide_eq_false h]
    exact h2 h
theorem iteB {b : Bool} {A B : Prop} (h1 : b = true → A) (h2 : b = false → B) : if b = true then A else B := by
  cases b with
  | true => exact h1 rfl
  | false => exact h2 rfl
theorem iteN {c A B : Prop} [Decidable c] (h1 : ¬ c → A) (h2 : c → B) : if (!decide c) = true then A else B := by
  by_cases h : c
  · rw [decide_eq_true h]
    exact h2 h
  · rw [decide_eq_false h]
    exact h1 h
theorem sz_ok {n : Nat} (h : n ≤ 100000) : n ≤ sizeLine := Nat.le_trans h (by decide)
theorem sz_lt {n : Nat} (h : n < 100000) : n < sizeLine := Nat.lt_of_lt_of_le h (by decide)
theorem atI_of {α : Type} {xs : List α} {i : Int} (h0 : 0 ≤ i) (h1 : i < (xs.length : Int)) : ∃ v, xs[i.toNat]? = some v ∧ atI xs i = some v := by
  have hj : i.toNat < xs.length := by omega
  have e : ((i.toNat : Nat) : Int) = i := by omega
  have h := atI_nat (xs := xs) (j := i.toNat) (v := xs[i.toNat]) (by simp [hj])
  rw [e] at h
  exact ⟨xs[i.toNat], by simp [hj], h⟩
theorem atI_ints {ns : List Int} {i : Int} (h0 : 0 ≤ i) (h1 : i < (ns.length : Int)) : ∃ z, atI (ns.map V.int) i = some (.int z) := by
  obtain ⟨v, hv, h⟩ := atI_of (xs := ns.map V.int) h0 (by simpa using h1)
  rw [List.getElem?_map] at hv
  cases e : ns[i.toNat]? with
  | none =>
    rw [e] at hv
    cases hv
  | some z =>
    rw [e] at hv
    cases hv
    exact ⟨z, h⟩
/-- a def of the text: where it stands, by what name, how it is called -/
structure DefAt (K : PySem.W.Frag) (mg : Str → Option Value) (x : Str) (st : Stmt) (ps : List Str) (f : Addr) (fd : FuncData) : Prop where
  F : Fun K x x st f fd
  at_ : mg x = some (.ref f)
  b : Binds K fd ps []
theorem DefAt.kp {K : PySem.W.Frag} {mg : Str → Option Value} {x : Str} {st : Stmt} {ps : List Str} {f : Addr} {fd : FuncData}
    (D : DefAt K mg x st ps f fd) : PySem.W.keepIn K (.ref f) = true := D.F.kp

/-! ### calls with keywords alone -/
/-- the parameters' values picked out of the positional ones and the keywords' -/
def pickG (ix : List Nat) {α : Type} (us ws : List α) : List α := ix.filterMap fun i => (us ++ ws)[i]?
theorem vals_pick : ∀ (ix : List Nat) {vs : List V} {us : List Value}, Vals vs us → Vals (ix.filterMap fun i => vs[i]?) (ix.filterMap fun i => us[i]?)
  | [], _, _, _ => .nil
  | i :: ix, vs, us, r => by
    rw [List.filterMap_cons, List.filterMap_cons]
    cases e : vs[i]? with
    | none =>
      rw [Vals.none_of r e]
      exact vals_pick ix r
    | some x =>
      obtain ⟨u, h1, h2⟩ := Vals.get r e
      rw [h1]
      exact .cons h2 (vals_pick ix r)
theorem kb_of {K : PySem.W.Frag} {x qual : Str} {st : Stmt} {f : Addr} {fd : FuncData} {ps : List Str} (F : Fun K x qual st f fd)
    (n : Nat) (ks : List Str) (ix : List Nat)
    (h : ∀ (kV doc pm : Value) (an : Option Addr) (cdv ct : Value) (us ws : List Value), us.length = n → ws.length = ks.length →
      bindArgs (PySem.W.fnOf x qual (defArgs st) (defBody st) (defScope st) .none kV doc pm an cdv ct) ⟨us, ks.zip ws⟩ = pure (ps.zip (pickG ix us ws))) :
    KBn K fd ps n ks (pickG ix) (pickG ix) := by
  obtain ⟨oc, od, kV, doc, pm, an, cdv, ct, osl, rfl, lk, hcd⟩ := F.ex
  exact ⟨fun s us ws _ h1 h2 => .of_eq (h kV doc pm an cdv ct us ws h1 h2), fun r1 r2 => vals_pick ix (Vals.append r1 r2)⟩
section
variable {X : Cx} {CX : CXT} {k : Nat} {f : Addr} {fd : FuncData} {ps ks : List Str} {sp : Sp} {E : XK} {x : Str} {p pos : Pos}
  {kws : List Keyword} {tk : TA} {g : List Value → List Value → List Value} {gV : List V → List V → List V}
theorem pe_callN0 (F : FnOk X.prog X.w X.K X.mg X.base CX k f fd ps sp) (hr : Room k X.A) (hg : Gl X x) (hm : X.mg x = some (.ref f))
    (hk : PySem.W.keepIn X.K (.ref f) = true) (hb : KBn X.K fd ps 0 ks g gV) (hx : Passes CX X E) (hkw : PK X kws tk)
    (hall : (backToKw pos (keywordEach kws X.env)).all (·.1.isSome) = true := by rfl)
    (hks : (backToKw pos (keywordEach kws X.env)).filterMap (·.1) = ks := by rfl) (hdb : (x == ("__debug__" : Str)) = false := by decide)
    (hpl : ((backTo pos (starEach [] X.env)).any (·.1) || (backToKw pos (keywordEach kws X.env)).any (·.1.isNone)) = false := by rfl) :
    PE X (.Call (.Name x p) [] kws pos) (tCallN 0 ks.length sp gV E tNil tk) := by
  refine ⟨fun pins s σ H Q I h => ?_⟩
  refine wpAny_Call_Name_kw (ld_glob I hg hm ?_ hdb)
  refine PySem.W.callWith_KW0 (h₀ := X.base) I.ok.mod.kin hk hall ?_ hpl
  refine thn (hkw.run pos pins s σ H _ I h) fun ws s2 ⟨zs, H2, I2, rz, l1, l2, q2⟩ => ⟨I2.kIn, ?_⟩
  rw [hks]
  exact run_fnN (us := []) (vs := []) F hr hb hx I2 .nil rz rfl l2 q2
end

section
variable {X : Cx} {x : Str} {pos : Pos}
theorem pe_gInt {i : Int} (hg : Gl X x) (hm : ∃ t, X.mg x = some (.int i t)) (hd : (x == ("__debug__" : Str)) = false := by decide) :
    PE X (.Name x pos) (tC (.int i)) := by
  obtain ⟨t, e⟩ := hm
  exact pe_glob hg e ⟨t, rfl⟩ hd
theorem pe_gStr {z : Str} (hg : Gl X x) (hm : ∃ t, X.mg x = some (.str z t)) (hd : (x == ("__debug__" : Str)) = false := by decide) :
    PE X (.Name x pos) (tC (.str z)) := by
  obtain ⟨t, e⟩ := hm
  exact pe_glob hg e ⟨t, rfl⟩ hd
end

/-! ### kinds of values -/
inductive BT where
  | non | bl | int | str | lst | tup | dct
  deriving DecidableEq
def BT.nm : BT → String
  | .non => "NoneType" | .bl => "bool" | .int => "int" | .str => "str" | .lst => "list" | .tup => "tuple" | .dct => "dict"
/-- x is of the built-in type n -/
inductive Kn (K : PySem.W.Frag) (H : Hp) : V → BT → Prop where
  | non : Kn K H .non .non
  | bl (b : Bool) : Kn K H (.bl b) .bl
  | int (i : Int) : Kn K H (.int i) .int
  | str (z : Str) : Kn K H (.str z) .str
  | lst {a : Addr} {xs : List V} (h : SqL K H a xs) : Kn K H (.ref a) .lst
  | tup {a : Addr} {xs : List V} (h : SqT K H a xs) : Kn K H (.ref a) .tup
  | dct {a : Addr} {kvs : List (Key × V)} (h : At H a (.dK kvs)) : Kn K H (.ref a) .dct
theorem Kn.ty {K : PySem.W.Frag} {H : Hp} {x : V} {n : BT} (h : Kn K H x n) : TyX K H x (.type n.nm) := by
  cases h with
  | non => exact .base .non
  | bl b => exact .base (.bl b)
  | int i => exact .base (.int i)
  | str z => exact .base (.str z)
  | lst h =>
    rcases h with (h | ⟨o, h⟩) | ⟨o, its, m, h, c, _⟩
    · exact .base (.lst h)
    · exact .base (.frz h)
    · exact .kList h c
  | tup h =>
    rcases h with (h | ⟨o, h⟩) | ⟨o, its, m, h, c, _⟩
    · exact .base (.tup h)
    · exact .fTuple h
    · exact .kTuple h c
  | dct h => exact .base (.dK h)
/-- isinstance of built-in types -/
def isiB : BT → BT → Bool
  | .int, .int => true
  | .bl, .int => true
  | .bl, .bl => true
  | .str, .str => true
  | .lst, .lst => true
  | .tup, .tup => true
  | .dct, .dct => true
  | _, _ => false
theorem kit_menu {n c : BT} (hc : c ≠ .non) : kitB n.nm c.nm = some (isiB n c) := by
  cases c <;> first | exact absurd rfl hc | (cases n <;> decide +kernel)
theorem isi_kn {K : PySem.W.Frag} {H : Hp} {x : V} {n : BT} (c : BT) {Q : VK} (h : Kn K H x n) (q : Q (.bl (isiB n c)) H) (hc : c ≠ .non := by decide) :
    rIsi K [x, .ty c.nm] H Q :=
  ⟨x, .ty c.nm, .type n.nm, .type c.nm, isiB n c, rfl, .ty c.nm, h.ty, kit_ty (kit_menu hc), q⟩
theorem Kn.same {K : PySem.W.Frag} {H H' : Hp} {x : V} {n : BT} (e : Same H H') (h : Kn K H x n) : Kn K H' x n := by
  cases h with
  | non => exact .non
  | bl b => exact .bl b
  | int i => exact .int i
  | str z => exact .str z
  | lst h => exact .lst (e.seq h)
  | tup h => exact .tup (Same.seqT e h)
  | dct h => exact .dct (e _ _ h)
theorem Kn.but {K : PySem.W.Frag} {H H' : Hp} {p : Addr} {x : V} {n : BT} (e : But p H H') (ne : x ≠ .ref p) (h : Kn K H x n) : Kn K H' x n := by
  have ne' : ∀ a, V.ref a ≠ .ref p → a ≠ p := fun a z q => z (by rw [q])
  cases h with
  | non => exact .non
  | bl b => exact .bl b
  | int i => exact .int i
  | str z => exact .str z
  | lst h => exact .lst (SqL.but e (ne' _ ne) h)
  | tup h => exact .tup (SqT.but e (ne' _ ne) h)
  | dct h => exact .dct (e _ _ h (ne' _ ne))
end GG
/-! G4: comprehensions and loops over what yields the items of a list. -/
namespace GG
open PySem L2 PySem.Spec PyProof.Rows

/-- each turn yields the next of some items, told by R; the heap is only extended -/
structure Gives {α : Type} (J : It) (items : List α) (G : Hp → Prop) (R : α → V → Hp → Prop) : Prop where
  goes : ∀ i H, i < items.length → G H → J.go i H
  stops : ∀ H, G H → J.stop items.length H
  yields : ∀ i H x H', i < items.length → G H → J.yld i H x H' → Same H H' ∧ ∃ a, items[i]? = some a ∧ R a x H'
section
variable {α : Type} {J : It} {items : List α} {G : Hp → Prop} {R : α → V → Hp → Prop}
theorem Gives.of_walk {n : Nat} {Y : Nat → Hp → V → Hp → Prop} (w : Walk J n G Y) (hn : items.length = n)
    (hy : ∀ i H x H', i < n → G H → Y i H x H' → Same H H' ∧ ∃ a, items[i]? = some a ∧ R a x H') : Gives J items G R := by
  subst hn
  exact ⟨w.goes, w.stops, fun i H x H' hi g y => hy i H x H' hi g (w.yields i H x H' hi g y)⟩
theorem gives_list {K : PySem.W.Frag} {a : Addr} {xs : List V} : Gives (Itl K a) xs (fun H => SqL K H a xs) (fun b x _ => x = b) :=
  .of_walk walk_list rfl fun i H x H' _ _ y => by
    obtain ⟨rfl, h⟩ := y
    exact ⟨Same.refl _, x, h, rfl⟩
theorem gives_tup {K : PySem.W.Frag} {a : Addr} {xs : List V} : Gives (Itt K a) xs (fun H => SqT K H a xs) (fun b x _ => x = b) :=
  .of_walk walk_tup rfl fun i H x H' _ _ y => by
    obtain ⟨rfl, h⟩ := y
    exact ⟨Same.refl _, x, h, rfl⟩
theorem gives_str {z : Str} : Gives (Its z) z.cps.toList (fun _ => True) (fun c x _ => x = .str ⟨#[c]⟩) :=
  .of_walk walk_str (by simp) fun i H x H' _ _ y => by
    obtain ⟨rfl, c, h, rfl⟩ := y
    exact ⟨Same.refl _, c, by simpa using h, rfl⟩
theorem gives_range {lo : Int} {n : Nat} : Gives (Itr lo n) (List.range n) (fun _ => True) (fun i x _ => x = .int (lo + i)) :=
  .of_walk walk_range (by simp) fun i H x H' hi _ y => by
    obtain ⟨rfl, rfl⟩ := y
    exact ⟨Same.refl _, i, by simp [hi], rfl⟩
theorem gives_enum {K : PySem.W.Frag} {a : Addr} {xs : List V} : Gives (Ite K a) (xs.zipIdx) (fun H => SqL K H a xs)
    (fun b x H => ∃ T, x = .ref T ∧ At H T (.tup [.int b.2, b.1])) :=
  .of_walk walk_enum (by simp) fun i H v H' _ _ y => by
    obtain ⟨T, x, y, rfl, h, rfl, h1, h2⟩ := y
    cases h1
    have h2' : xs[i]? = some y := h2
    exact ⟨Same.new h, (y, i), by simp [h2'], T, rfl, at_same⟩
theorem gives_zip {K : PySem.W.Frag} {a b : Addr} {xs ys : List V} : Gives (Itz K a b) (xs.zip ys) (fun H => SqL K H a xs ∧ SqL K H b ys)
    (fun b x H => ∃ T, x = .ref T ∧ At H T (.tup [b.1, b.2])) :=
  .of_walk (walk_zip rfl) (by simp) fun i H v H' _ _ y => by
    obtain ⟨T, x, y, rfl, h, rfl, h1, h2⟩ := y
    have h1' : xs[i]? = some x := h1
    have h2' : ys[i]? = some y := h2
    exact ⟨Same.new h, (x, y), by simp [List.getElem?_zip_eq_some, h1', h2'], T, rfl, at_same⟩

/-- the items with something told beside each -/
theorem Gives.zip {β : Type} (w : Gives J items G R) (ts : List β) (hl : items.length = ts.length) : Gives J (items.zip ts) G (fun b x H => R b.1 x H) where
  goes := fun i H hi g => w.goes i H (by simp at hi; omega) g
  stops := fun H g => by
    have e : (items.zip ts).length = items.length := by simp; omega
    rw [e]
    exact w.stops H g
  yields := fun i H x H' hi g y => by
    have hi' : i < items.length := by simp at hi; omega
    obtain ⟨s, a, ha, r⟩ := w.yields i H x H' hi' g y
    have ht : i < ts.length := by omega
    exact ⟨s, (a, ts[i]), by simp [List.getElem?_zip_eq_some, ha, ht], r⟩

/-- a comprehension whose element changes what is told by Pv: the turn, the items made so far, the heap -/
theorem lc_acc (w : Gives J items G R) {g : TG} {te : TE} {vs : List Nat} {σ : L2.St} {H1 : Hp} {D : Addr} {Qd : Hp → Prop}
    (Pv : Nat → List V → Hp → Prop) (hz : items.length < 100000) (h0 : Pv 0 [] (upd H1 D (.lst [])))
    (hG : ∀ i acc H, i ≤ items.length → Pv i acc H → At H D (.lst acc) → G H)
    (hs : ∀ i a acc x H H', items[i]? = some a → acc.length = i → Pv i acc H → At H D (.lst acc) → Same H H' → R a x H' →
      ∀ B : VK, (∀ y H4, At H4 D (.lst acc) → Pv (i + 1) (acc ++ [y]) (upd H4 D (.lst (acc ++ [y]))) → B y H4) →
        g x (wipe σ vs) H' fun σ2 H2 => wipe σ2 vs = wipe σ vs ∧ te σ2 H2 B)
    (hd : ∀ acc H, acc.length = items.length → Pv items.length acc H → At H D (.lst acc) → Qd H) :
    ∃ W : Nat → Nat → Hp → Prop, (∃ m, W 0 m (upd H1 D (.lst []))) ∧ ∀ i m H, W i m H →
      (J.stop i H ∧ Qd H) ∨ (J.go i H ∧ ∃ Nx : Hp → Prop, (∀ H', Nx H' → ∃ m', m' < m ∧ W (i + 1) m' H') ∧ ∀ x H', J.yld i H x H' →
        g x (wipe σ vs) H' fun σ2 H2 => wipe σ2 vs = wipe σ vs ∧ tYes σ2 H2 fun b H3 =>
          if b = true then te σ2 H3 fun y H4 => ∃ acc, H4 D = some (.lst acc) ∧ acc.length < sizeLine ∧ Nx (upd H4 D (.lst (acc ++ [y]))) else Nx H3) := by
  refine ⟨fun i m H => m = items.length - i ∧ i ≤ items.length ∧ ∃ acc, acc.length = i ∧ Pv i acc H ∧ At H D (.lst acc),
    ⟨_, rfl, Nat.zero_le _, [], rfl, h0, at_same⟩, ?_⟩
  rintro i m H ⟨rfl, hi, acc, hl, p, hat⟩
  have q := hG i acc H hi p hat
  by_cases hlt : i < items.length
  · refine Or.inr ⟨w.goes i H hlt q, fun H' => ∃ acc, acc.length = i + 1 ∧ Pv (i + 1) acc H' ∧ At H' D (.lst acc),
      fun H' h => ⟨_, (by omega : items.length - (i + 1) < items.length - i), rfl, hlt, h⟩, fun x H' y => ?_⟩
    obtain ⟨e, a, ha, r⟩ := w.yields i H x H' hlt q y
    exact hs i a acc x H H' ha hl p hat e r _ fun v H4 u1 u2 => ⟨acc, u1, sz_lt (by omega), acc ++ [v], by simp [hl], u2, at_same⟩
  · obtain rfl : i = items.length := by omega
    exact Or.inl ⟨w.stops H q, hd acc H hl p hat⟩

/-- a comprehension that only extends the heap: the new list holds the values of f -/
theorem lc_map (w : Gives J items G R) {g : TG} {te : TE} {vs : List Nat} {σ : L2.St} {H1 : Hp} {D : Addr} {Qd : Hp → Prop}
    (f : α → V) (hz : items.length < 100000) (hD : H1 D = none) (hG : ∀ H, Same H1 H → G H)
    (hs : ∀ a x H', a ∈ items → Same H1 H' → R a x H' → ∀ B : VK, (∀ H2, Same H' H2 → B (f a) H2) →
      g x (wipe σ vs) H' fun σ2 H2 => wipe σ2 vs = wipe σ vs ∧ te σ2 H2 B)
    (hd : ∀ H, Same H1 H → At H D (.lst (items.map f)) → Qd H) :
    ∃ W : Nat → Nat → Hp → Prop, (∃ m, W 0 m (upd H1 D (.lst []))) ∧ ∀ i m H, W i m H →
      (J.stop i H ∧ Qd H) ∨ (J.go i H ∧ ∃ Nx : Hp → Prop, (∀ H', Nx H' → ∃ m', m' < m ∧ W (i + 1) m' H') ∧ ∀ x H', J.yld i H x H' →
        g x (wipe σ vs) H' fun σ2 H2 => wipe σ2 vs = wipe σ vs ∧ tYes σ2 H2 fun b H3 =>
          if b = true then te σ2 H3 fun y H4 => ∃ acc, H4 D = some (.lst acc) ∧ acc.length < sizeLine ∧ Nx (upd H4 D (.lst (acc ++ [y]))) else Nx H3) := by
  have hD' : Nn H1 D := hD
  let P : Nat → Hp → Prop := fun i H => i ≤ items.length ∧ Same H1 H ∧ At H D (.lst ((items.take i).map f))
  refine ⟨fun i m H => m = items.length - i ∧ P i H, ⟨_, rfl, Nat.zero_le _, Same.new hD', by rw [List.take_zero]; exact at_same⟩, ?_⟩
  rintro i m H ⟨rfl, hi, e1, hat⟩
  have q := hG H e1
  by_cases hlt : i < items.length
  · refine Or.inr ⟨w.goes i H hlt q, P (i + 1), fun H' h => ⟨_, (by omega : items.length - (i + 1) < items.length - i), rfl, h⟩, fun x H' y => ?_⟩
    obtain ⟨e, a, ha, r⟩ := w.yields i H x H' hlt q y
    have et : items.take (i + 1) = items.take i ++ [a] := by
      rw [List.take_succ, ha]
      rfl
    refine hs a x H' (List.mem_of_getElem? ha) (e1.trans e) r _ fun H4 e4 => ⟨(items.take i).map f, e4 _ _ (e _ _ hat), sz_lt (by simp; omega), hlt, ?_, ?_⟩
    · exact Same.upd_free ((e1.trans e).trans e4) hD'
    · rw [et, List.map_append]
      exact at_same
  · obtain rfl : i = items.length := by omega
    rw [List.take_length] at hat
    exact Or.inl ⟨w.stops H q, hd H e1 hat⟩

/-- a for over it: Pv tells of the turn, the slots, the heap -/
theorem for_acc (w : Gives J items G R) {g : TG} {tb : TS} {D : Ends} {σ : L2.St} {H : Hp} (Pv : Nat → L2.St → Hp → Prop) (h0 : Pv 0 σ H)
    (hG : ∀ i σ H, i ≤ items.length → Pv i σ H → G H)
    (hs : ∀ i a x σ H H', items[i]? = some a → Pv i σ H → Same H H' → R a x H' → g x σ H' fun σ2 H2 => tb { D with nx := Pv (i + 1), ct := Pv (i + 1), bk := D.nx } σ2 H2)
    (hd : ∀ σ H, Pv items.length σ H → D.nx σ H) :
    ∃ W : Nat → Nat → L2.St → Hp → Prop, (∃ m, W 0 m σ H) ∧ ∀ i m σ H, W i m σ H →
      (J.stop i H ∧ D.nx σ H) ∨ (J.go i H ∧ ∃ N : L2.St → Hp → Prop, (∀ σ' H', N σ' H' → ∃ m', m' < m ∧ W (i + 1) m' σ' H') ∧
        ∀ x H', J.yld i H x H' → g x σ H' fun σ2 H2 => tb { D with nx := N, ct := N, bk := D.nx } σ2 H2) := by
  refine ⟨fun i m σ H => m = items.length - i ∧ i ≤ items.length ∧ Pv i σ H, ⟨_, rfl, Nat.zero_le _, h0⟩, ?_⟩
  rintro i m σ H ⟨rfl, hi, p⟩
  have q := hG i σ H hi p
  by_cases hlt : i < items.length
  · refine Or.inr ⟨w.goes i H hlt q, Pv (i + 1), fun σ' H' p' => ⟨_, (by omega : items.length - (i + 1) < items.length - i), rfl, hlt, p'⟩, fun x H' y => ?_⟩
    obtain ⟨e, a, ha, r⟩ := w.yields i H x H' hlt q y
    exact hs i a x σ H H' ha p e r
  · obtain rfl : i = items.length := by omega
    exact Or.inl ⟨w.stops H q, hd σ H p⟩
theorem str_len {z : Str} : z.cps.toList.length = z.length := by simp [PySem.Str.length]
theorem sq_bools {K : PySem.W.Frag} {H : Hp} {a : Addr} {f : α → Bool} (h : At H a (.lst (items.map fun c => V.bl (f c)))) :
    SqL K H a ((items.map f).map V.bl) := by
  rw [List.map_map]
  exact SqL.at_ h
theorem all_bools {f : α → Bool} : (items.map f).all id = items.all f := by
  rw [List.all_map]
  rfl
end
end GG
/-! G5: enumerate of a tuple. -/
namespace GG
open PySem L2 PySem.Spec PyProof.Rows

theorem args_enum2 (obj a : Value) : argsOk "object.__init__" ⟨[obj, a], []⟩ := F.args_object_init_2 obj a
theorem meets_enum1 {v : Value} {o : Obj} {H : Heap → Prop} (B : Begins v o H) :
    Meets (Builtin.«enumerate.__new__» ⟨[.type "enumerate", v], []⟩) (fun _ R s => H s.heap ∧
      R (.ok (.ret (.ref (s.heap.push o).objs.size)))
        { s with heap := (s.heap.push o).push { cls := .type "enumerate", data := .fields #[.none, .bool false, .ref s.heap.objs.size, rawInt 0, .none, .none] } }) :=
  .of_wp fun prog w A R s h => by
    obtain ⟨hp, g, d, tk, os⟩ := s
    obtain ⟨h1, h⟩ := h
    have hsub := sub_enumerate
    have q1 : ∀ {A' : Around} {E : Value → Shared → Prop} {Q : Value → Shared → Prop},
        Q (.ref hp.objs.size) ⟨hp.push o, g, d, tk, os⟩ → wpAny (model prog w) A' (pyIter v) Q E ⟨hp, g, d, tk, os⟩ :=
      fun q => B.iter prog w _ _ ⟨hp, g, d, tk, os⟩ _ h1 q
    wp_walk using q1
    refine wpAny_stack_any fun st => wpAny_pure ?_
    split
    · rename_i c _ _ _ _ _
      cases (c == Value.type "enumerate")
      · wp_walk using q1
        exact ⟨_, rfl, h⟩
      · wp_walk using q1
        exact ⟨_, rfl, h⟩
    · wp_walk using q1
      exact ⟨_, rfl, h⟩

theorem call_enum1 {prog : Program} {w : World} {A : Around} {E : Value → Shared → Prop} {s : Shared} {v : Value} {o : Obj} {H : Heap → Prop}
    {Q : Value → Shared → Prop} (B : Begins v o H) (h1 : H s.heap)
    (h : ∀ h', IsEnum h' (s.heap.objs.size + 1) s.heap.objs.size 0 .none → h'.get? s.heap.objs.size = some o →
      (∀ b o, s.heap.get? b = some o → h'.get? b = some o) → Q (.ref (s.heap.objs.size + 1)) { s with heap := h' }) :
    wpAny (model prog w) A (call (.type "enumerate") [v]) Q E s := by
  refine callType_new F.called_enumerate (by decide) (F.typeCall_enumerate_1 _) (F.newCall_enumerate_1 _) (fun obj => args_enum2 obj _)
    F.entry_enumerate_new (meets_enum1 B) ⟨h1, ?_⟩
  have hz : (s.heap.push o).objs.size = s.heap.objs.size + 1 := Heap.size_push ..
  show _ ∧ _
  rw [hz]
  have he : IsEnum ((s.heap.push o).push { cls := .type "enumerate", data := .fields #[.none, .bool false, .ref s.heap.objs.size, rawInt 0, .none, .none] })
      (s.heap.objs.size + 1) s.heap.objs.size 0 .none := by
    have q := Heap.get?_push_size (s.heap.push o)
      (o := { cls := .type "enumerate", data := .fields #[.none, .bool false, .ref s.heap.objs.size, rawInt 0, .none, .none] }) rfl
    rw [hz] at q
    exact q
  exact ⟨⟨_, he, rfl⟩, h _ he (Heap.get?_push_of_some _ (Heap.get?_push_size _ B.free)) fun b o x => Heap.get?_push_of_some _ (Heap.get?_push_of_some _ x)⟩

/-- the tuple at a, each item in a new pair -/
def Itet (K : PySem.W.Frag) (a : Addr) : It :=
  ⟨fun i H => ∃ (xs : List V) (x : V), SqT K H a xs ∧ xs[i]? = some x,
    fun i H v H' => ∃ T x, v = .ref T ∧ H T = none ∧ H' = upd H T (.tup [.int (i : Nat), x]) ∧ ∀ xs, SqT K H a xs → xs[i]? = some x,
    fun i H => ∃ xs : List V, SqT K H a xs ∧ xs.length = i⟩
theorem tup_ne_iter {h : Heap} {a it : Addr} {its : Array Value} {i : Nat} (p : IsTup h a its) (q : h.IsTupleIter it a i) : a ≠ it := by
  rintro rfl
  obtain ⟨o, e1, c1, _⟩ := p
  obtain ⟨o', e2, c2, _⟩ := q
  rw [e1] at e2
  cases e2
  rw [c1] at c2
  exact absurd c2 (by decide)
theorem turn_enumT {P : Program} {w : World} {K : PySem.W.Frag} {elts : List Expr} {kk : Nat} {tpos : Pos} (a e it : Addr) :
    Turn P w K (.Tuple elts kk tpos) (Itet K a) [e, it] e
      (fun i h => (∃ old, IsEnum h e it ((i : Nat) : Int) old) ∧ h.IsTupleIter it a i ∧ e ≠ it ∧ e ≠ a) where
  mem := by simp
  obj := fun i h st b hb => by
    obtain ⟨⟨old, he⟩, ⟨o, ho, hc, hd⟩, _⟩ := st
    have e' : b = e ∨ b = it := by simpa using hb
    rcases e' with z | z
    · rw [z]
      exact ⟨_, he, fun v q => nomatch q⟩
    · rw [z]
      exact ⟨o, ho, fun v q => by rw [hd] at q; cases q⟩
  keep := fun i h h' st k => by
    obtain ⟨⟨old, he⟩, ⟨o, ho, hr⟩, hne⟩ := st
    exact ⟨⟨old, k e (by simp) _ he⟩, ⟨o, k it (by simp) o ho, hr⟩, hne⟩
  item := by
    intro X hP hw hK hc i pins s σ H E I hf st hg
    subst hP hw hK
    obtain ⟨⟨old, he⟩, hit, hne, hea⟩ := st
    obtain ⟨xs, x, hq, hx⟩ := hg
    obtain ⟨its, rv, p, hz⟩ := I.tuple hq
    obtain ⟨u, hu, ru⟩ := rv.get hx
    have hel : e < s.heap.objs.size := Heap.lt_size he
    have hil : it < s.heap.objs.size := by
      obtain ⟨_, q, _⟩ := hit
      exact Heap.lt_size q
    have D := Draws.tuple (prog := X.prog) (w := X.w) (A := X.A.in1) (show X.A.in1.handled = none from I.ok.hd hc) it a (tup_ne_iter p hit) its.toArray
    have hlt : i < its.toArray.size := by
      have := (List.getElem?_eq_some_iff.mp hu).1
      simpa using this
    refine wpAny_pyNext_enum_itemC D he ⟨hit, p⟩ hlt hne (by simp [hne, hea]) fun y h' tk hy ho hit' hT hsz hk => ?_
    have hy' : y = u := by
      have hy2 : its[i]? = some y := by simpa using hy
      rw [hu] at hy2
      exact (Option.some.inj hy2).symm
    subst hy'
    refine ⟨_, rfl, wpAny_letOwnedTupleGo_enum (s := { s with heap := h', toks := tk + 1 }) ho fun h'' he' sb => ?_⟩
    have hT2 : h''.get? s.heap.objs.size = some { cls := .type "tuple", data := .seq #[.int i tk, y] } := (sb.2 _ (Nat.ne_of_gt hel)).trans hT
    have new : ObjOk X.prog X.w (upd H s.heap.objs.size (.tup [.int (i : Nat), x])) h'' s.heap.objs.size (.tup [.int (i : Nat), x]) :=
      ⟨by show 2 ≤ sizeLine; decide, [.int i tk, y], .cons ⟨_, rfl⟩ (.cons ru .nil), ⟨_, hT2, rfl, _, rfl⟩⟩
    have I1 : Inv X pins σ (upd H s.heap.objs.size (.tup [.int (i : Nat), x])) { s with heap := h'', toks := tk + 1 } :=
      I.turnedNew (ch := [e, it]) (fun b ob hb q => (sb.2 b (fun z => hb (by simp [z]))).trans (hk b ob (fun z => hb (by simp [z])) (fun z => hb (by simp [z])) q)) hf (Nat.le_refl _) new
    refine ⟨.ref s.heap.objs.size, _, I1, rfl, ⟨_, x, rfl, I.hok.fresh (Nat.le_refl _), rfl, fun ys hys => ?_⟩, ⟨⟨y, ?_⟩, ?_, hne, hea⟩, fun b hb => ?_⟩
    · rw [I.tuple_inj hys hq]
      exact hx
    · have e1 : ((i + 1 : Nat) : Int) = (i : Int) + 1 := by omega
      rw [e1]
      exact he'
    · obtain ⟨o, ho1, hr⟩ := hit'.1
      exact ⟨o, (sb.2 it (Ne.symm hne)).trans ho1, hr⟩
    · have hb' : b < s.heap.objs.size := by
        have e' : b = e ∨ b = it := by simpa using hb
        rcases e' with z | z
        · rw [z]
          exact hel
        · rw [z]
          exact hil
      rw [upd_ne (Nat.ne_of_lt hb')]
      exact (hf b hb).1
  done := by
    intro X hP hw hK hc i pins s σ H E I hf st hg
    subst hP hw hK
    obtain ⟨⟨old, he⟩, hit, hne, hea⟩ := st
    obtain ⟨xs, hq, hx⟩ := hg
    obtain ⟨its, rv, p, hz⟩ := I.tuple hq
    obtain ⟨f0, f1, f2, f3, f4, f5⟩ := hf it (by simp)
    have hl := rv.length
    have D := Draws.tuple (prog := X.prog) (w := X.w) (A := X.A.in1) (show X.A.in1.handled = none from I.ok.hd hc) it a (tup_ne_iter p hit) its.toArray
    have hn : i = its.toArray.size := by
      rw [List.size_toArray, ← hl]
      exact hx.symm
    subst hn
    exact wpAny_pyNext_enum_endD D he ⟨hit, p⟩ fun h' eb => ⟨rfl, I.turned (t' := s.toks) (fun b o hb q => eb b o hb q) f0 f1 f3 f4 f5⟩
  self := fun A i s Q E st h => by
    obtain ⟨⟨_, he⟩, _⟩ := st
    exact wpAny_pyIter_enum he h
def iEnumT (K : PySem.W.Frag) (ta : TA) : TI := fun σ H R => ta σ H fun vs H1 => ∃ a xs, vs = [.ref a] ∧ SqT K H1 a xs ∧ R (Itet K a) H1
theorem pi_enumT {X : Cx} {e : Expr} {ta : TA} {p pos tpos : Pos} {elts : List Expr} {kk : Nat} (hg : Gl X "enumerate") (hm : X.mg "enumerate" = none)
    (ha : PA X [e] ta) (hs : starEach [e] X.env = [(false, eval e X.env)] := by rfl) :
    PI X (.Tuple elts kk tpos) (.Call (.Name "enumerate" p) [e] [] pos) (iEnumT X.K ta) := by
  refine ⟨fun pins s σ H R I h => ?_⟩
  refine Call_ (ld_blt I hg hm boot_enumerate (PyProof.Rows.callWith_type1 (thn (ha.run pos pins s σ H _ I h) fun us s1 ⟨vs, H1, I1, r1, q1⟩ => ?_) hs rfl))
  obtain ⟨a, xs, ex, hq, q⟩ := q1
  subst ex
  cases r1 with
  | cons r rr =>
    cases rr
    cases r
    obtain ⟨its, rv, p', hz⟩ := I1.tuple hq
    refine call_enum1 (begins_tuple a its.toArray) p' fun h' he hit hk => wpAny_pyIter_enum he ?_
    have I2 : Inv X pins σ H1 { s1 with heap := h' } := I1.kept (t' := s1.toks) hk
    have hal : a < s1.heap.objs.size := by
      obtain ⟨o, e1, _⟩ := p'
      exact Heap.lt_size e1
    refine ⟨s1.heap.objs.size + 1, [s1.heap.objs.size + 1, s1.heap.objs.size], _, _, H1, rfl, I2,
      turn_enumT a (s1.heap.objs.size + 1) s1.heap.objs.size, ⟨⟨.none, he⟩, ⟨_, hit, rfl, rfl⟩, Nat.succ_ne_self _, Nat.ne_of_gt (Nat.lt_succ_of_lt hal)⟩, fun b hb => ?_, q⟩
    have e' : b = s1.heap.objs.size + 1 ∨ b = s1.heap.objs.size := by simpa using hb
    have hle : s1.heap.objs.size ≤ b := by
      rcases e' with z | z
      · exact z ▸ Nat.le_succ _
      · exact z ▸ Nat.le_refl _
    exact I1.fpOk hle (I1.hok.fresh hle)
theorem gives_enumT {K : PySem.W.Frag} {a : Addr} {xs : List V} : Gives (Itet K a) (xs.zipIdx) (fun H => SqT K H a xs)
    (fun b x H => ∃ T, x = .ref T ∧ At H T (.tup [.int b.2, b.1])) where
  goes := fun i H hi h => ⟨xs, xs[i]'(by simpa using hi), h, by simp⟩
  stops := fun H h => ⟨xs, h, by simp⟩
  yields := fun i H v H' hi g y => by
    obtain ⟨T, x, rfl, h, rfl, hx⟩ := y
    have h2 := hx xs g
    exact ⟨Same.new h, (x, i), by simp [h2], T, rfl, at_same⟩
end GG
/-! G6: classes of the text and their methods. -/
namespace GG
open PySem L2 PySem.Spec PyProof.Rows

/-- a class of the text: by what name it stands, how its instances are read -/
structure ClassAt (K : PySem.W.Frag) (mg : Str → Option Value) (x : Str) (C : Addr) : Prop where
  at_ : mg x = some (.ref C)
  cls : Cls K C
  kp : PySem.W.keepIn K (.ref C) = true
/-- a method of the text -/
structure MethAt (K : PySem.W.Frag) (C : Addr) (m qual : Str) (st : Stmt) (ps : List Str) (f : Addr) (fd : FuncData) : Prop where
  F : Fun K m qual st f fd
  M : Meth K C m f
  b : Binds K fd ps []
/-- a method with a star parameter behind self -/
structure StarAt (K : PySem.W.Frag) (C : Addr) (m qual : Str) (st : Stmt) (p v : Str) (f : Addr) (fd : FuncData) : Prop where
  F : Fun K m qual st f fd
  M : Meth K C m f
  b : ∀ us rest : List Value, us.length = [p].length → bindArgs fd ⟨us ++ rest, []⟩ = (newTuple rest >>= fun t => pure ([p].zip us ++ [(v, t)]))
/-- a property of the text -/
structure PropAt (K : PySem.W.Frag) (C : Addr) (m qual : Str) (st : Stmt) (f : Addr) (fd : FuncData) : Prop where
  F : Fun K m qual st f fd
  P : ∃ p, PropOf K C m p f
  b : Binds K fd ["self"] []

theorem room65 {k : Nat} {A : Around} (r : Room k A) : A.units + 65 < cLine := by
  have := r.un
  omega
theorem pe_propE {X : Cx} {CX : CXT} {k : Nat} {C g : Addr} {f : Str} {fd : FuncData} {ps : List Str} {sp : Sp} {dvs : List V} {ds : List Value} {E : XK} {e : Expr} {pos : Pos} {ta : TE}
    (he : PE X e ta) (c : Cls X.K C) (hp : ∃ p, PropOf X.K C f p g) (F : FnOk X.prog X.w X.K X.mg X.base CX k g fd ps sp) (hr : Room (k + 1) X.A)
    (hb : Binds X.K fd ps ds) (hd : Vals dvs ds) (hx : Passes CX X.nox E) (hab : attributeBase e f X.env (eval e X.env) = eval e X.env) :
    PE X (.Attribute e f pos) (tProp C sp dvs E ta) := by
  obtain ⟨p, hp⟩ := hp
  exact pe_prop he c hp F hr hb hd hx hab

/-- a star method's promise by its body -/
theorem star_ok {P : Program} {w : World} {K : PySem.W.Frag} {mg : Str → Option Value} {base : Heap} {C : Addr} {m qual p v : Str} {st : Stmt}
    {f : Addr} {fd : FuncData} {N : List Str} {k : Nat} {sp : Sp} (D : StarAt K C m qual st p v f fd) (S : FnScope N [p, v] (defScope st))
    (body : ∀ (cdv : Value) (A : Around) (outer : List Env) (s : Shared) (H : Hp) (vs : List V) (Q : VK) (E : XK),
      Room k (A.deeper (envOfC qual (defScope st) s.heap.objs.size f cdv)) → sp vs H Q E →
      ∃ t, PSs (cxOf CX0 P w K mg base N qual (defScope st) f cdv A outer s H E).nox (defBody st) t ∧
        t { nx := fun _ H' => Q .non H', rt := Q } (start N vs) H) :
    FnR P w K mg base CX0 (k + 1) f (fun vs H Q E => ∃ ws rest, vs = ws ++ rest ∧ ws.length = [p].length ∧ rest.length ≤ sizeLine ∧
      ∀ q, H q = Option.none → sp (ws ++ [V.ref q]) (upd H q (.tup rest)) Q E) := by
  obtain ⟨oc, od, kV, doc, pm, an, cdv, ct, osl, e, lk, hcd⟩ := D.F.ex
  have b := D.b
  subst e
  refine StX.fn_star (ps := [p]) (pv := v) lk hcd S StX.cxUp_none b fun A outer s H vs Q E hr hsp => ?_
  obtain ⟨t, h, q⟩ := body cdv A outer s H vs Q E hr hsp
  exact ⟨t, h.nox, q⟩
/-- with one argument behind self -/
theorem star_sp {sp : Sp} {x : V} {rest : List V} {H : Hp} {Q : VK} {E : XK} (hl : rest.length ≤ 100000)
    (h : ∀ q, H q = Option.none → sp [x, V.ref q] (upd H q (.tup rest)) Q E) :
    ∃ ws rest', x :: rest = ws ++ rest' ∧ ws.length = 1 ∧ rest'.length ≤ sizeLine ∧ ∀ q, H q = Option.none → sp (ws ++ [V.ref q]) (upd H q (.tup rest')) Q E :=
  ⟨[x], rest, rfl, rfl, sz_ok hl, h⟩

/-- what a field is, where the instance has one field alone -/
theorem fld_one {f : Str} {v : V} : ([(f, v)] : List (Str × V)).lookup f = some v := by
  simp [List.lookup]
theorem put_one {f : Str} {v : V} : putF f v [] = [(f, v)] := rfl
/-! ### the readings told by K itself: inside a comprehension no reading may name the block's own Cx -/
section
variable {X : Cx} {tg e o : Expr} {es : List Expr} {ta to : TE} {t : TA} {tl : TE}
theorem opK (K : PySem.W.Frag) {op : Value → Value → Sem Value} {r : PySem.W.Frag → R2} (h : OpR X op (r X.K)) (hK : X.K = K := by rfl) : OpR X op (r K) := hK ▸ h
theorem ixK (K : PySem.W.Frag) {r : PySem.W.Frag → R2} (h : IxR X (r X.K)) (hK : X.K = K := by rfl) : IxR X (r K) := hK ▸ h
theorem mtK (K : PySem.W.Frag) {id : String} {r : PySem.W.Frag → V → List V → Hp → VK → Prop} (h : MtR X id (r X.K)) (hK : X.K = K := by rfl) : MtR X id (r K) := hK ▸ h
theorem crK (K : PySem.W.Frag) {v : Value} {r : PySem.W.Frag → List V → Hp → VK → Prop} (h : CallR X v (r X.K)) (hK : X.K = K := by rfl) : CallR X v (r K) := hK ▸ h
theorem call_lenK (K : PySem.W.Frag) (hK : X.K = K := by rfl) : CallR X (.builtin "len") (fun xs H Q => ∃ x n, xs = [x] ∧ LenV K x H n ∧ Q (.int n) H) := by
  subst hK
  exact call_len
theorem pe_bmK (K : PySem.W.Frag) {name : Str} {apos cpos : Pos} {T id : String} {r : V → List V → Hp → VK → Prop} (pa : PlainAttrs T) (slot : Slot T name id) (hty : typeOf (.builtin id) = pure (.type "method_descriptor")) (hm : MtR X id r) (ho : PE X o to) (ha : PA X (e :: es) t)
    (hK : X.K = K := by rfl)
    (hbase : attributeBase o name X.env (eval o X.env) = eval o X.env := by rfl)
    (hfew : ((backTo cpos (starEach (e :: es) X.env)).all (fun x => !x.1) && (backToKw cpos (keywordEach [] X.env)).all (fun x => x.1.isSome)
      && decide ((e :: es).length + ([] : List Keyword).length + (if ([] : List Keyword).isEmpty then 0 else 1) < 30)) = true := by rfl)
    (hline : (apos.endLine == cpos.line) = true := by rfl) (hs : starEach (e :: es) X.env = (false, eval e X.env) :: starEach es X.env := by rfl) (hplain : (backTo cpos (starEach es X.env)).any (·.1) = false := by rfl) :
    PE X (.Call (.Attribute o name apos) (e :: es) [] cpos) (tBM K T r to t) := by
  subst hK
  exact pe_bm pa slot hty hm ho ha hbase hfew hline hs hplain
theorem pe_fldK (K : PySem.W.Frag) {f : Str} {pos : Pos} (he : PE X e ta) (hK : X.K = K := by rfl) (hb : attributeBase e f X.env (eval e X.env) = eval e X.env := by rfl) : PE X (.Attribute e f pos) (tFld K ta f) := by
  subst hK
  exact pe_fld he hb
theorem pe_cvalK (K : PySem.W.Frag) {f : Str} {pos : Pos} (he : PE X e ta) (hK : X.K = K := by rfl) (hb : attributeBase e f X.env (eval e X.env) = eval e X.env := by rfl) : PE X (.Attribute e f pos) (ClX.tCVal K ta f) := by
  subst hK
  exact ClX.pe_cval he hb
theorem pi_listK (K : PySem.W.Frag) (hl : PE X e tl) (hK : X.K = K := by rfl) : PI X tg e (iList K tl) := by
  subst hK
  exact pi_list hl
theorem pi_tupK (K : PySem.W.Frag) (hl : PE X e tl) (hK : X.K = K := by rfl) : PI X tg e (iTup K tl) := by
  subst hK
  exact pi_tup hl
end
end GG
/-! G7: ints, lists and tuples of ints, lists of such, compared as data; branches that are known. -/
namespace GG
open PySem L2 PySem.Spec PyProof.Rows

theorem iteYes {b : Bool} {A B : Prop} (h : b = true) (k : A) : if b = true then A else B := by
  rw [if_pos h]
  exact k
theorem iteNo {b : Bool} {A B : Prop} (h : b = false) (k : B) : if b = true then A else B := by
  rw [if_neg (by rw [h]; decide)]
  exact k
theorem of_tNil {σ : L2.St} {H : Hp} {R : List V → Hp → Prop} (h : R [] H) : tNil σ H R := h
theorem of_tC {v : V} {σ : L2.St} {H : Hp} {Q : VK} (h : Q v H) : tC v σ H Q := h
def dI (cs : List Int) : List PyData := cs.map PyData.int
def dLL (css : List (List Int)) : List PyData := css.map fun cs => PyData.list (dI cs)
theorem dI_dp {K : PySem.W.Frag} {H : Hp} : ∀ (cs : List Int), DpAll K H (cs.map V.int) (dI cs)
  | [] => .nil
  | c :: cs => .cons (.int c) (dI_dp cs)
theorem dI_lay : ∀ (cs : List Int), PyData.canLayAll0 (dI cs) = true ∧ PyData.depthAll (dI cs) ≤ 1
  | [] => by simp [dI, PyData.canLayAll0, PyData.depthAll]
  | c :: cs => by
    obtain ⟨h1, h2⟩ := dI_lay cs
    unfold dI at h1 h2 ⊢
    simp only [List.map_cons, PyData.canLayAll0, PyData.depthAll, PyData.canLay0, PyData.depth, h1, Bool.and_self, true_and]
    omega
theorem dI_list (cs : List Int) : SeqAt.shaped (.list (dI cs)) = true := by
  obtain ⟨h1, h2⟩ := dI_lay cs
  have h3 : (PyData.list (dI cs)).depth ≤ 64 := by
    simp only [PyData.depth]
    omega
  unfold SeqAt.shaped
  rw [decide_eq_true h3]
  simpa [PyData.canLay0] using h1
theorem dI_tup (cs : List Int) : SeqAt.shaped (.tuple (dI cs)) = true := by
  obtain ⟨h1, h2⟩ := dI_lay cs
  have h3 : (PyData.tuple (dI cs)).depth ≤ 64 := by
    simp only [PyData.depth]
    omega
  unfold SeqAt.shaped
  rw [decide_eq_true h3]
  simpa [PyData.canLay0] using h1
theorem dI_eqv : ∀ (cs ds : List Int), PyData.eqvAll (dI cs) (dI ds) = decide (cs = ds)
  | [], [] => by simp [dI, PyData.eqvAll]
  | [], d :: ds => by simp [dI, PyData.eqvAll]
  | c :: cs, [] => by simp [dI, PyData.eqvAll]
  | c :: cs, d :: ds => by
    have h := dI_eqv cs ds
    unfold dI at h ⊢
    simp only [List.map_cons, PyData.eqvAll, PyData.eqv, h, List.cons.injEq]
    by_cases h1 : c = d <;> by_cases h2 : cs = ds <;> simp [h1, h2]
theorem dLL_lay : ∀ (css : List (List Int)), PyData.canLayAll0 (dLL css) = true ∧ PyData.depthAll (dLL css) ≤ 3
  | [] => by simp [dLL, PyData.canLayAll0, PyData.depthAll]
  | c :: cs => by
    obtain ⟨h1, h2⟩ := dLL_lay cs
    obtain ⟨h3, h4⟩ := dI_lay c
    unfold dLL at h1 h2 ⊢
    simp only [List.map_cons, PyData.canLayAll0, PyData.depthAll, PyData.canLay0, PyData.depth, h1, h3, Bool.and_self, true_and]
    omega
theorem dLL_list (css : List (List Int)) : SeqAt.shaped (.list (dLL css)) = true := by
  obtain ⟨h1, h2⟩ := dLL_lay css
  have h3 : (PyData.list (dLL css)).depth ≤ 64 := by
    simp only [PyData.depth]
    omega
  unfold SeqAt.shaped
  rw [decide_eq_true h3]
  simpa [PyData.canLay0] using h1
theorem dLL_eqv : ∀ (cs ds : List (List Int)), PyData.eqvAll (dLL cs) (dLL ds) = decide (cs = ds)
  | [], [] => by simp [dLL, PyData.eqvAll]
  | [], d :: ds => by simp [dLL, PyData.eqvAll]
  | c :: cs, [] => by simp [dLL, PyData.eqvAll]
  | c :: cs, d :: ds => by
    have h := dLL_eqv cs ds
    have h' := dI_eqv c d
    unfold dLL at h ⊢
    simp only [List.map_cons, PyData.eqvAll, PyData.eqv, h, h', List.cons.injEq]
    by_cases h1 : c = d <;> by_cases h2 : cs = ds <;> simp [h1, h2]
section
variable {K : PySem.W.Frag} {H : Hp} {a b : Addr} {cs ds : List Int} {Q : VK}
theorem eq_tups (ha : SqT K H a (cs.map V.int)) (hb : SqT K H b (ds.map V.int)) (q : Q (.bl (decide (cs = ds))) H) : rEqD K (.ref a) (.ref b) H Q :=
  ⟨.tuple (dI cs), .tuple (dI ds), .tup ha (dI_dp cs), .tup hb (dI_dp ds), dI_tup cs, dI_tup ds, by
    rw [PyData.eqv, dI_eqv]
    exact q⟩
theorem eq_lists (ha : SqL K H a (cs.map V.int)) (hb : SqL K H b (ds.map V.int)) (q : Q (.bl (decide (cs = ds))) H) : rEqD K (.ref a) (.ref b) H Q :=
  ⟨.list (dI cs), .list (dI ds), .lst ha (dI_dp cs), .lst hb (dI_dp ds), dI_list cs, dI_list ds, by
    rw [PyData.eqv, dI_eqv]
    exact q⟩
theorem ne_lists (ha : SqL K H a (cs.map V.int)) (hb : SqL K H b (ds.map V.int)) (q : Q (.bl (!decide (cs = ds))) H) : rNeD K (.ref a) (.ref b) H Q :=
  ⟨.list (dI cs), .list (dI ds), .lst ha (dI_dp cs), .lst hb (dI_dp ds), dI_list cs, dI_list ds, by
    rw [PyData.eqv, dI_eqv]
    exact q⟩
/-- lists of ints at each of vs -/
abbrev Rows (K : PySem.W.Frag) (H : Hp) (vs : List V) (css : List (List Int)) : Prop := Paired (fun v cs => ∃ a, v = V.ref a ∧ SqL K H a (cs.map V.int)) vs css
theorem Rows.dp : ∀ {vs : List V} {css : List (List Int)}, Rows K H vs css → DpAll K H vs (dLL css)
  | _, _, .nil => .nil
  | _, _, .cons m h => by
    obtain ⟨a, rfl, hs⟩ := m
    exact .cons (.lst hs (dI_dp _)) (Rows.dp h)
theorem eq_rows {vs us : List V} {css dss : List (List Int)} (ha : SqL K H a vs) (ra : Rows K H vs css) (hb : SqL K H b us) (rb : Rows K H us dss) (q : Q (.bl (decide (css = dss))) H) :
    rEqD K (.ref a) (.ref b) H Q :=
  ⟨.list (dLL css), .list (dLL dss), .lst ha ra.dp, .lst hb rb.dp, dLL_list css, dLL_list dss, by
    rw [PyData.eqv, dLL_eqv]
    exact q⟩
end
end GG
/-! G8: comprehensions that pick, comprehensions that make rows. -/
namespace GG
open PySem L2 PySem.Spec PyProof.Rows
theorem op_inK {X : Cx} (K : PySem.W.Frag) (hK : X.K = K := by rfl) : OpR X (compareOp .In) (rIn K false) := by
  subst hK
  exact op_in_seq
theorem op_notInK {X : Cx} (K : PySem.W.Frag) (hK : X.K = K := by rfl) : OpR X (compareOp .NotIn) (rIn K true) := by
  subst hK
  exact op_notIn_seq
theorem slK {X : Cx} (K : PySem.W.Frag) {r : PySem.W.Frag → V → Option Int → Option Int → Hp → VK → Prop} (h : SlR X (r X.K)) (hK : X.K = K := by rfl) : SlR X (r K) := hK ▸ h
theorem pi_enumTK {X : Cx} (K : PySem.W.Frag) {e : Expr} {ta : TA} {p pos tpos : Pos} {elts : List Expr} {kk : Nat} (hg : Gl X "enumerate") (hm : X.mg "enumerate" = none)
    (ha : PA X [e] ta) (hK : X.K = K := by rfl) (hs : starEach [e] X.env = [(false, eval e X.env)] := by rfl) :
    PI X (.Tuple elts kk tpos) (.Call (.Name "enumerate" p) [e] [] pos) (iEnumT K ta) := by
  subst hK
  exact pi_enumT hg hm ha hs
theorem pi_enumK {X : Cx} (K : PySem.W.Frag) {e : Expr} {ta : TA} {p pos tpos : Pos} {elts : List Expr} {kk : Nat} (hg : Gl X "enumerate") (hm : X.mg "enumerate" = none)
    (ha : PA X [e] ta) (hK : X.K = K := by rfl) (hs : starEach [e] X.env = [(false, eval e X.env)] := by rfl) :
    PI X (.Tuple elts kk tpos) (.Call (.Name "enumerate" p) [e] [] pos) (iEnum K ta) := by
  subst hK
  exact pi_enum hg hm ha hs
theorem inV_ints {c : Int} : ∀ {hs : List Int}, inV (.int c) (hs.map V.int) = decide (c ∈ hs)
  | [] => by simp [inV]
  | h :: hs => by
    have q := inV_ints (c := c) (hs := hs)
    unfold inV at q ⊢
    rw [List.map_cons, List.any_cons, q]
    have e : eqV (.int h) (.int c) = decide (c = h) := by
      show (h == c) = _
      by_cases z : c = h
      · simp [z]
      · have z' : h ≠ c := fun y => z y.symm
        simp [z, z']
    rw [e, Bool.eq_iff_iff]
    simp
theorem flat_ints : ∀ {hs : List Int}, (hs.map V.int).all flatV = true
  | [] => rfl
  | h :: hs => by
    rw [List.map_cons, List.all_cons, flat_ints]
    rfl
theorem in_ints {K : PySem.W.Frag} {H : Hp} {l : Addr} {c : Int} {hs : List Int} {Q : VK} (h : SqL K H l (hs.map V.int) ∨ SqT K H l (hs.map V.int)) (q : Q (.bl (decide (c ∈ hs))) H) : rIn K false (.int c) (.ref l) H Q :=
  ⟨l, _, rfl, h, rfl, flat_ints, by rw [inV_ints]; exact q⟩
theorem notIn_ints {K : PySem.W.Frag} {H : Hp} {l : Addr} {c : Int} {hs : List Int} {Q : VK} (h : SqL K H l (hs.map V.int) ∨ SqT K H l (hs.map V.int)) (q : Q (.bl (!decide (c ∈ hs))) H) : rIn K true (.int c) (.ref l) H Q :=
  ⟨l, _, rfl, h, rfl, flat_ints, by rw [inV_ints]; exact q⟩
section
variable {α : Type} {J : It} {items : List α} {G : Hp → Prop} {R : α → V → Hp → Prop}
theorem Gives.unmap {β : Type} {h : β → α} {bs : List β} (w : Gives J (bs.map h) G R) : Gives J bs G (fun b x H => R (h b) x H) where
  goes := fun i H hi g => w.goes i H (by simpa using hi) g
  stops := fun H g => by
    have q := w.stops H g
    rwa [List.length_map] at q
  yields := fun i H x H' hi g y => by
    obtain ⟨s, a, ha, r⟩ := w.yields i H x H' (by simpa using hi) g y
    rw [List.getElem?_map] at ha
    cases e : bs[i]? with
    | none =>
      rw [e] at ha
      cases ha
    | some b =>
      rw [e] at ha
      cases ha
      exact ⟨s, b, rfl, r⟩
theorem gives_listI {K : PySem.W.Frag} {a : Addr} {cs : List Int} : Gives (Itl K a) cs (fun H => SqL K H a (cs.map V.int)) (fun c x _ => x = .int c) := Gives.unmap gives_list
theorem gives_tupI {K : PySem.W.Frag} {a : Addr} {cs : List Int} : Gives (Itt K a) cs (fun H => SqT K H a (cs.map V.int)) (fun c x _ => x = .int c) := Gives.unmap gives_tup
theorem gives_enumTI {K : PySem.W.Frag} {a : Addr} {cs : List Int} : Gives (Itet K a) cs.zipIdx (fun H => SqT K H a (cs.map V.int)) (fun b x H => ∃ T, x = .ref T ∧ At H T (.tup [.int b.2, .int b.1])) := by
  have w := gives_enumT (K := K) (a := a) (xs := cs.map V.int)
  rw [List.zipIdx_map] at w
  exact Gives.unmap w
theorem gives_enumI {K : PySem.W.Frag} {a : Addr} {cs : List Int} : Gives (Ite K a) cs.zipIdx (fun H => SqL K H a (cs.map V.int)) (fun b x H => ∃ T, x = .ref T ∧ At H T (.tup [.int b.2, .int b.1])) := by
  have w := gives_enum (K := K) (a := a) (xs := cs.map V.int)
  rw [List.zipIdx_map] at w
  exact Gives.unmap w
/-- a comprehension with a test that only extends the heap: the new list holds what f picks -/
theorem lc_filter (w : Gives J items G R) {g : TG} {tt : TT} {te : TE} {vs : List Nat} {σ : L2.St} {H1 : Hp} {D : Addr} {Qd : Hp → Prop}
    (f : α → Option V) (hz : items.length < 100000) (hD : H1 D = none) (hG : ∀ H, Same H1 H → G H)
    (hs : ∀ (i : Nat) a x H', items[i]? = some a → Same H1 H' → R a x H' → ∀ (B : VK) (N : Hp → Prop), (∀ v H2, f a = some v → Same H' H2 → B v H2) → (∀ H2, f a = none → Same H' H2 → N H2) →
      g x (wipe σ vs) H' fun σ2 H2 => wipe σ2 vs = wipe σ vs ∧ tt σ2 H2 fun b H3 => if b = true then te σ2 H3 B else N H3)
    (hd : ∀ H, Same H1 H → At H D (.lst (items.filterMap f)) → Qd H) :
    ∃ W : Nat → Nat → Hp → Prop, (∃ m, W 0 m (upd H1 D (.lst []))) ∧ ∀ i m H, W i m H →
      (J.stop i H ∧ Qd H) ∨ (J.go i H ∧ ∃ Nx : Hp → Prop, (∀ H', Nx H' → ∃ m', m' < m ∧ W (i + 1) m' H') ∧ ∀ x H', J.yld i H x H' →
        g x (wipe σ vs) H' fun σ2 H2 => wipe σ2 vs = wipe σ vs ∧ tt σ2 H2 fun b H3 =>
          if b = true then te σ2 H3 fun y H4 => ∃ acc, H4 D = some (.lst acc) ∧ acc.length < sizeLine ∧ Nx (upd H4 D (.lst (acc ++ [y]))) else Nx H3) := by
  have hD' : Nn H1 D := hD
  let P : Nat → Hp → Prop := fun i H => i ≤ items.length ∧ Same H1 H ∧ At H D (.lst ((items.take i).filterMap f))
  refine ⟨fun i m H => m = items.length - i ∧ P i H, ⟨_, rfl, Nat.zero_le _, Same.new hD', by rw [List.take_zero]; exact at_same⟩, ?_⟩
  rintro i m H ⟨rfl, hi, e1, hat⟩
  have q := hG H e1
  by_cases hlt : i < items.length
  · refine Or.inr ⟨w.goes i H hlt q, P (i + 1), fun H' h => ⟨_, (by omega : items.length - (i + 1) < items.length - i), rfl, h⟩, fun x H' y => ?_⟩
    obtain ⟨e, a, ha, r⟩ := w.yields i H x H' hlt q y
    have et : (items.take (i + 1)).filterMap f = (items.take i).filterMap f ++ (f a).toList := by
      rw [List.take_succ, ha, List.filterMap_append]
      congr 1
    refine hs i a x H' ha (e1.trans e) r _ _ (fun v H4 hv e4 => ⟨(items.take i).filterMap f, e4 _ _ (e _ _ hat), sz_lt ?_, hlt, ?_, ?_⟩) fun H4 hv e4 => ⟨hlt, (e1.trans e).trans e4, ?_⟩
    · have := List.length_filterMap_le f (items.take i)
      simp at this
      omega
    · exact Same.upd_free ((e1.trans e).trans e4) hD'
    · rw [et, hv]
      exact at_same
    · rw [et, hv, Option.toList_none, List.append_nil]
      exact e4 _ _ (e _ _ hat)
  · obtain rfl : i = items.length := by omega
    rw [List.take_length] at hat
    exact Or.inl ⟨w.stops H q, hd H e1 hat⟩
/-- the same, what is picked are ints -/
theorem lc_filterI (w : Gives J items G R) {g : TG} {tt : TT} {te : TE} {vs : List Nat} {σ : L2.St} {H1 : Hp} {D : Addr} {Qd : Hp → Prop}
    (f : α → Option Int) (hz : items.length < 100000) (hD : H1 D = none) (hG : ∀ H, Same H1 H → G H)
    (hs : ∀ (i : Nat) a x H', items[i]? = some a → Same H1 H' → R a x H' → ∀ (B : VK) (N : Hp → Prop), (∀ c H2, f a = some c → Same H' H2 → B (.int c) H2) → (∀ H2, f a = none → Same H' H2 → N H2) →
      g x (wipe σ vs) H' fun σ2 H2 => wipe σ2 vs = wipe σ vs ∧ tt σ2 H2 fun b H3 => if b = true then te σ2 H3 B else N H3)
    (hd : ∀ H, Same H1 H → At H D (.lst ((items.filterMap f).map V.int)) → Qd H) :
    ∃ W : Nat → Nat → Hp → Prop, (∃ m, W 0 m (upd H1 D (.lst []))) ∧ ∀ i m H, W i m H →
      (J.stop i H ∧ Qd H) ∨ (J.go i H ∧ ∃ Nx : Hp → Prop, (∀ H', Nx H' → ∃ m', m' < m ∧ W (i + 1) m' H') ∧ ∀ x H', J.yld i H x H' →
        g x (wipe σ vs) H' fun σ2 H2 => wipe σ2 vs = wipe σ vs ∧ tt σ2 H2 fun b H3 =>
          if b = true then te σ2 H3 fun y H4 => ∃ acc, H4 D = some (.lst acc) ∧ acc.length < sizeLine ∧ Nx (upd H4 D (.lst (acc ++ [y]))) else Nx H3) :=
  lc_filter w (fun a => (f a).map V.int) hz hD hG
    (fun i a x H' hi e r B N hB hN => hs i a x H' hi e r B N (fun c H2 hc e2 => hB _ H2 (by simp [hc]) e2) (fun H2 hc e2 => hN H2 (by simp [hc]) e2))
    (fun H e hat => hd H e (by rw [List.map_filterMap]; exact hat))
/-- a comprehension that makes a list of ints at each turn -/
theorem lc_rows {K : PySem.W.Frag} (w : Gives J items G R) {g : TG} {te : TE} {vs : List Nat} {σ : L2.St} {H1 : Hp} {D : Addr} {Qd : Hp → Prop}
    (f : α → List Int) (hz : items.length < 100000) (hD : H1 D = none) (hG : ∀ H, Same H1 H → G H)
    (hs : ∀ (i : Nat) a x H', items[i]? = some a → Same H1 H' → R a x H' → ∀ B : VK, (∀ r H2, Same H' H2 → Nn H' r → At H2 r (.lst ((f a).map V.int)) → B (.ref r) H2) →
      g x (wipe σ vs) H' fun σ2 H2 => wipe σ2 vs = wipe σ vs ∧ te σ2 H2 B)
    (hd : ∀ H ws, Same H1 H → At H D (.lst ws) → Rows K H ws (items.map f) → Qd H) :
    ∃ W : Nat → Nat → Hp → Prop, (∃ m, W 0 m (upd H1 D (.lst []))) ∧ ∀ i m H, W i m H →
      (J.stop i H ∧ Qd H) ∨ (J.go i H ∧ ∃ Nx : Hp → Prop, (∀ H', Nx H' → ∃ m', m' < m ∧ W (i + 1) m' H') ∧ ∀ x H', J.yld i H x H' →
        g x (wipe σ vs) H' fun σ2 H2 => wipe σ2 vs = wipe σ vs ∧ tYes σ2 H2 fun b H3 =>
          if b = true then te σ2 H3 fun y H4 => ∃ acc, H4 D = some (.lst acc) ∧ acc.length < sizeLine ∧ Nx (upd H4 D (.lst (acc ++ [y]))) else Nx H3) := by
  have hD' : Nn H1 D := hD
  let Rw : Hp → V → List Int → Prop := fun H v cs => ∃ a, v = V.ref a ∧ a ≠ D ∧ At H a (.lst (cs.map V.int))
  let P : Nat → Hp → Prop := fun i H => i ≤ items.length ∧ Same H1 H ∧ ∃ acc, At H D (.lst acc) ∧ Paired (Rw H) acc ((items.take i).map f)
  refine ⟨fun i m H => m = items.length - i ∧ P i H, ⟨_, rfl, Nat.zero_le _, Same.new hD', [], at_same, by rw [List.take_zero]; exact .nil⟩, ?_⟩
  rintro i m H ⟨rfl, hi, e1, acc, hat, hp⟩
  have q := hG H e1
  by_cases hlt : i < items.length
  · refine Or.inr ⟨w.goes i H hlt q, P (i + 1), fun H' h => ⟨_, (by omega : items.length - (i + 1) < items.length - i), rfl, h⟩, fun x H' y => ?_⟩
    obtain ⟨e, a, ha, r⟩ := w.yields i H x H' hlt q y
    have et : (items.take (i + 1)).map f = (items.take i).map f ++ [f a] := by
      rw [List.take_succ, ha, List.map_append]
      rfl
    have hl := Paired.length hp
    refine hs i a x H' ha (e1.trans e) r _ fun z H4 e4 nz hz4 => ⟨acc, e4 _ _ (e _ _ hat), sz_lt (by simp at hl; omega), hlt, Same.upd_free ((e1.trans e).trans e4) hD', acc ++ [V.ref z], at_same, ?_⟩
    rw [et]
    have hzD : z ≠ D := ne_nA nz (e _ _ hat)
    have hold : ∀ {us : List V} {css : List (List Int)}, Paired (Rw H) us css → Paired (Rw (upd H4 D (.lst (acc ++ [V.ref z])))) (us ++ [V.ref z]) (css ++ [f a]) := by
      intro us css hu
      induction hu with
      | nil => exact .cons ⟨z, rfl, hzD, at_upd hzD hz4⟩ .nil
      | cons m _ ih =>
        obtain ⟨b, rfl, hb, hb2⟩ := m
        exact .cons ⟨b, rfl, hb, at_upd hb (e4 _ _ (e _ _ hb2))⟩ ih
    exact hold hp
  · obtain rfl : i = items.length := by omega
    rw [List.take_length] at hp
    refine Or.inl ⟨w.stops H q, hd H acc e1 hat (Paired.mapP hp fun v cs m => ?_)⟩
    obtain ⟨b, rfl, _, hb⟩ := m
    exact ⟨b, rfl, SqL.at_ hb⟩
end
end GG
/-! G9: set(..) of a list of ints. -/
namespace GG
open PySem L2 PySem.Spec PyProof.Rows
/-- what a new set is -/
abbrev setObj (w : World) : Obj := { cls := .type "set", dict := none, data := .set #[] 0 (.fresh 0 0 (!w.params.followText "set-order")) }
/-- the call of a built-in type whose __init__ looks at its arguments by itself -/
theorem call_typeC {P : Program} {w : World} {A : Around} {E : Value → Shared → Prop} {s : Shared} {T nw ini : String} {B : Builtin} {xs : List Value} {Q Q1 : Value → Shared → Prop}
    (ft : TypeCalled T nw ini) (c0 : checkTypeCall T ⟨xs, []⟩ = pure ()) (eB : entryFor table ini = some B)
    (c1 : codeAny (model P w) A.in1 (.call (.builtin nw) ⟨.type T :: xs, []⟩) (wants Q1 E) s)
    (c2 : ∀ o s1, Q1 o s1 → s1.TypeIs o T ∧ codeAny (model P w) A.in1 (.call (.builtin ini) ⟨o :: xs, []⟩) (wants (fun r s2 => r = .none ∧ Q o s2) E) s1) :
    wpAny (model P w) A (call (.type T) xs) Q E s := by
  obtain ⟨m, ms, hm⟩ := ft.mro
  have f1 := ft.made
  have f2 := ft.sub
  have f3 := ft.notType
  have f4 := ft.canCreate
  refine wpAny_call (codeAny_of_tree (show wpAny _ _ (callAny (.type T) _) _ _ _ from ?_))
  refine wpAny_pure ⟨Code.quiet_builtin _
    (by decide +kernel), codeAny_builtin
    F.entry_type_call ?_⟩
  rw [Around.under_plain
    (weight_type_call_type T xs []) rfl]
  repeat any_goals first | assumption | wp_step
  refine codeAny_mono c1 fun r s1 hr => ?_
  rcases r with e | f
  · exact hr
  · cases f
    case ret o =>
      obtain ⟨ty, c3⟩ := c2 _ _ hr
      have f5 := ft.init.lookup
      have f6 := ft.init.bind o
      repeat any_goals first | assumption | wp_step
      refine codeAny_mono c3 fun r2 s2 hr2 => ?_
      rcases r2 with e | f
      · exact hr2
      · cases f
        case ret z =>
          obtain ⟨rfl, q⟩ := hr2
          repeat any_goals first | assumption | wp_step
        all_goals exact hr2.elim
    all_goals exact hr.elim
theorem call_setLI {P : Program} {w : World} {A : Around} {E : Value → Shared → Prop} {s : Shared} {l : Addr} {us : Array Value} (ns : List Int) {Q : Value → Shared → Prop}
    (hh : A.handled = none) (hl : s.heap.IsList l us) (hi : IntsAre us.toList ns) (hb : ns.length + 1 < scanBound)
    (k : ∀ (h' : Heap) (tk c : Nat), SetR w h' s.heap.objs.size (fun j => decide (j ∈ ns)) c → c ≤ ns.length → (∀ b o, s.heap.get? b = some o → h'.get? b = some o) → Q (.ref s.heap.objs.size) { s with heap := h', toks := tk }) :
    wpAny (model P w) A (call (.type "set") [.ref l]) Q E s := by
  have hn : us.size = ns.length := by
    have z := hi.length
    simpa using z
  refine call_typeC (Q1 := fun obj s₁ => obj = .ref s.heap.objs.size ∧ s₁ = { s with heap := s.heap.push (setObj w) }) F.called_set (F.typeCall_set_1 _) F.entry_set_init (code_set_led1 _ ⟨rfl, rfl⟩) ?_
  rintro obj s₁ ⟨rfl, rfl⟩
  have g1 : (s.heap.push (setObj w)).get? s.heap.objs.size = some (setObj w) := Heap.get?_push_size _ rfl
  have hl2 : (s.heap.push (setObj w)).IsList l us := hl.push _
  have hT : Shared.TypeIs { s with heap := s.heap.push (setObj w) } (.ref s.heap.objs.size) "set" := ⟨_, g1, rfl⟩
  refine ⟨hT, codeAny_call_builtin F.called_set.init.plain F.entry_set_init (check_set_init_1 hT ?_)⟩
  have s1 := F.sub_list_set
  have s2 := F.sub_list_frozenset
  have ne : (Value.type "list" == Value.type "dict") = false := by decide
  obtain ⟨ol, q1, q2, nl, q3⟩ := hl2
  obtain ⟨c1, c2, c3, c4⟩ := ol
  simp only at q2 q3
  subst q2 q3
  unfold Builtin.«set.__init__» noKeywords Builtin.Frozenset.updateFrom
  generalize hPI : pyIter = PI
  wp_walk
  subst hPI
  have at_ : (s.heap.push (setObj w)).IsList l us := ⟨_, q1, rfl, nl, rfl⟩
  refine wpAny_pyIter_list at_ (wpAny_bind (wpAny_runValue ?_))
  have sz : (s.heap.push (setObj w)).objs.size = s.heap.objs.size + 1 := Heap.size_push ..
  have ll : l < s.heap.objs.size := by
    obtain ⟨o, e, _⟩ := hl
    exact Heap.lt_size e
  have n1 : l ≠ (s.heap.push (setObj w)).objs.size := sz ▸ Nat.ne_of_lt (Nat.lt_succ_of_lt ll)
  have n2 : s.heap.objs.size ∉ [(s.heap.push (setObj w)).objs.size, l] := by
    simp only [List.mem_cons, List.not_mem_nil, or_false, not_or]
    exact ⟨sz ▸ Nat.ne_of_lt (Nat.lt_succ_self _), Nat.ne_of_gt ll⟩
  have hv : ∀ (i : Nat) (v : Value), us[i]? = some v → ∃ k t, ns[i]? = some k ∧ v = .int k t := by
    intro i v e
    have lt : i < ns.length := by
      have := (Array.getElem?_eq_some_iff.mp e).1
      omega
    obtain ⟨t, q⟩ := hi.int_at i v (by simpa using e)
    exact ⟨ns[i], t, by simp [lt], by rw [q]; simp [lt]⟩
  refine set_update_ints ((Walks.list (by simp [hh]) _ l n1 us).toS) s.heap.objs.size n2 ns hn hb hv (us.size - 0) 0 _ rfl (Nat.zero_le _) ⟨⟨_, Heap.get?_push_size _ rfl, rfl, rfl⟩, at_.push _⟩ ?h0 ?h1
  case h0 => exact ⟨0, Nat.le_refl _, setR_new_at (Heap.get?_push_of_some _ g1)⟩
  case h1 =>
    intro s' c mv hc R
    obtain ⟨h', g2, d', tk', os'⟩ := s'
    obtain ⟨m1, m2, m3, m4, _⟩ := mv
    obtain rfl : g2 = s.gens := m2
    obtain rfl : d' = s.drawn := m3
    obtain rfl : os' = s.os := m4
    rw [hn] at hc
    refine wpAny_pure (wpAny_pure ?_)
    refine ⟨rfl, k h' tk' c R hc fun b o e => ?_⟩
    have lb := Heap.lt_size e
    refine m1 b o ?_ (Heap.get?_push_of_some _ (Heap.get?_push_of_some _ e))
    simp only [List.mem_cons, List.not_mem_nil, or_false, not_or]
    exact ⟨Nat.ne_of_lt lb, sz ▸ Nat.ne_of_lt (Nat.lt_succ_of_lt lb)⟩
/-- set(l) of a list of ints -/
def rSetLI (K : PySem.W.Frag) (w : World) : List V → Hp → VK → Prop := fun xs H Q => ∃ (a : Addr) (ns : List Int), xs = [.ref a] ∧ SqL K H a (ns.map V.int) ∧ ns.length ≤ 1000 ∧
  ∀ p c, H p = none → c ≤ ns.length → Q (.ref p) (upd H p (SetO w p (fun j => decide (j ∈ ns)) c))
theorem cr_setLI {X : Cx} (hc : X.calm = true) : CallR X (.type "set") (rSetLI X.K X.w) := by
  intro pins s σ H xs us Q I r h
  obtain ⟨a, ns, rfl, hs, hl, q⟩ := h
  cases r with
  | cons r1 r2 =>
    cases r2
    cases r1
    obtain ⟨its, rv, pt, hz⟩ := I.list hs
    refine call_setLI ns (I.ok.hd hc) pt.isList (ints_of_vals rv) (by unfold scanBound; omega) fun h' tk c R hcn kp => ?_
    exact ⟨.ref _, _, I.laid (t' := tk) kp (Nat.le_refl _) (setO_new R), rfl, q _ c (I.hok.fresh (Nat.le_refl _)) hcn⟩
end GG
/-! N1: the numbering of marks by first places (plain lists). -/
namespace Num
variable {α β : Type} [DecidableEq α] [DecidableEq β]

/-- one more mark is met -/
def addK (k : List α) (x : Option α) : List α :=
  match x with
  | none => k
  | some a => if a ∈ k then k else k ++ [a]
def knownOf (xs : List (Option α)) : List α := xs.foldl addK []
def numOf (k : List α) (x : Option α) : Int :=
  match x with
  | none => -1
  | some a => (k.idxOf a : Int)
def norm (xs : List (Option α)) : List Int := xs.map (numOf (knownOf xs))

theorem norm_length {xs : List (Option α)} : (norm xs).length = xs.length := by simp [norm]

theorem fold_mem : ∀ (xs : List (Option α)) (k : List α) (a : α), a ∈ xs.foldl addK k ↔ a ∈ k ∨ some a ∈ xs
  | [], k, a => by simp
  | x :: xs, k, a => by
    rw [List.foldl_cons, fold_mem xs (addK k x) a]
    cases x with
    | none => simp [addK]
    | some b =>
      unfold addK
      by_cases h : b ∈ k
      · simp only [h, if_true, List.mem_cons, Option.some.injEq]
        constructor
        · rintro (h1 | h1)
          · exact Or.inl h1
          · exact Or.inr (Or.inr h1)
        · rintro (h1 | h1 | h1)
          · exact Or.inl h1
          · exact Or.inl (h1 ▸ h)
          · exact Or.inr h1
      · simp only [h, if_false, List.mem_append, List.mem_singleton, List.mem_cons, Option.some.injEq, List.not_mem_nil, or_false]
        constructor
        · rintro ((h1 | h1) | h1)
          · exact Or.inl h1
          · exact Or.inr (Or.inl h1)
          · exact Or.inr (Or.inr h1)
        · rintro (h1 | h1 | h1)
          · exact Or.inl (Or.inl h1)
          · exact Or.inl (Or.inr h1)
          · exact Or.inr h1
theorem known_mem {xs : List (Option α)} {a : α} : a ∈ knownOf xs ↔ some a ∈ xs := by
  unfold knownOf
  rw [fold_mem]
  simp
theorem fold_prefix : ∀ (xs : List (Option α)) (k : List α), ∃ r, xs.foldl addK k = k ++ r
  | [], k => ⟨[], by simp⟩
  | x :: xs, k => by
    rw [List.foldl_cons]
    obtain ⟨r, hr⟩ := fold_prefix xs (addK k x)
    cases x with
    | none => exact ⟨r, by rw [hr]; rfl⟩
    | some a =>
      by_cases h : a ∈ k
      · exact ⟨r, by rw [hr]; simp [addK, h]⟩
      · exact ⟨a :: r, by rw [hr]; simp [addK, h]⟩
theorem fold_len : ∀ (xs : List (Option α)) (k : List α), (xs.foldl addK k).length ≤ k.length + xs.length
  | [], k => by simp
  | x :: xs, k => by
    rw [List.foldl_cons]
    refine Nat.le_trans (fold_len xs (addK k x)) ?_
    cases x with
    | none => simp [addK]
    | some a =>
      by_cases h : a ∈ k
      · simp [addK, h]
      · simp [addK, h]
        omega
theorem known_len {xs : List (Option α)} : (knownOf xs).length ≤ xs.length := by
  have := fold_len xs []
  simpa [knownOf] using this
/-- an index found early stays -/
theorem idx_append {k r : List α} {a : α} (h : a ∈ k) : (k ++ r).idxOf a = k.idxOf a := by
  rw [List.idxOf_append, if_pos h]
theorem idx_inj {γ : Type} [BEq γ] [LawfulBEq γ] {k : List γ} {a b : γ} (ha : a ∈ k) (hb : b ∈ k) : k.idxOf a = k.idxOf b ↔ a = b := by
  constructor
  · intro h
    have h1 : k[k.idxOf a]'(List.idxOf_lt_length_of_mem ha) = a := List.getElem_idxOf _
    have h2 : k[k.idxOf b]'(List.idxOf_lt_length_of_mem hb) = b := List.getElem_idxOf _
    rw [← h1, ← h2]
    congr 1
  · rintro rfl
    rfl
theorem numOf_eq {xs : List (Option α)} {x y : Option α} (hx : x ∈ xs) (hy : y ∈ xs) : numOf (knownOf xs) x = numOf (knownOf xs) y ↔ x = y := by
  cases x with
  | none =>
    cases y with
    | none => simp [numOf]
    | some b =>
      simp only [numOf]
      constructor
      · intro h
        omega
      · intro h
        cases h
  | some a =>
    cases y with
    | none =>
      simp only [numOf]
      constructor
      · intro h
        omega
      · intro h
        cases h
    | some b =>
      simp only [numOf, Option.some.injEq]
      rw [Int.ofNat_inj, idx_inj (known_mem.mpr hx) (known_mem.mpr hy)]
theorem numOf_gone {k : List α} {x : Option α} : numOf k x = -1 ↔ x = none := by
  cases x with
  | none => simp [numOf]
  | some a =>
    simp only [numOf]
    constructor
    · intro h
      omega
    · intro h
      cases h

/-- two rows of marks have the same gone ones and the same alike ones -/
structure Pat (xs : List (Option α)) (ys : List (Option β)) : Prop where
  len : xs.length = ys.length
  gone : ∀ i, i < xs.length → (xs[i]? = some none ↔ ys[i]? = some none)
  same : ∀ i j, i < xs.length → j < xs.length → (xs[i]? = xs[j]? ↔ ys[i]? = ys[j]?)

theorem norm_at {xs : List (Option α)} (i : Nat) : (norm xs)[i]? = xs[i]?.map (numOf (knownOf xs)) := by simp [norm]
theorem norm_same {xs : List (Option α)} {i j : Nat} (hi : i < xs.length) (hj : j < xs.length) : (norm xs)[i]? = (norm xs)[j]? ↔ xs[i]? = xs[j]? := by
  rw [norm_at, norm_at, List.getElem?_eq_getElem hi, List.getElem?_eq_getElem hj]
  simp only [Option.map_some, Option.some.injEq]
  exact numOf_eq (List.getElem_mem hi) (List.getElem_mem hj)
theorem norm_gone {xs : List (Option α)} {i : Nat} (hi : i < xs.length) : (norm xs)[i]? = some (-1) ↔ xs[i]? = some none := by
  rw [norm_at, List.getElem?_eq_getElem hi]
  simp only [Option.map_some, Option.some.injEq]
  exact numOf_gone

/-- marks led along an injection -/
theorem fold_map {f : α → β} : ∀ (xs : List (Option α)) (k : List α), (∀ a b, (a ∈ k ∨ some a ∈ xs) → (b ∈ k ∨ some b ∈ xs) → f a = f b → a = b) →
    (xs.map (Option.map f)).foldl addK (k.map f) = (xs.foldl addK k).map f
  | [], k, _ => by simp
  | x :: xs, k, inj => by
    rw [List.map_cons, List.foldl_cons, List.foldl_cons]
    have e : addK (k.map f) (Option.map f x) = (addK k x).map f := by
      cases x with
      | none => rfl
      | some a =>
        have hm : f a ∈ k.map f ↔ a ∈ k := by
          constructor
          · intro h
            obtain ⟨b, hb, e⟩ := List.mem_map.mp h
            have := inj b a (Or.inl hb) (Or.inr (by simp)) e
            exact this ▸ hb
          · exact fun h => List.mem_map.mpr ⟨a, h, rfl⟩
        show (if f a ∈ k.map f then k.map f else k.map f ++ [f a]) = (if a ∈ k then k else k ++ [a]).map f
        by_cases h : a ∈ k
        · rw [if_pos h, if_pos (hm.mpr h)]
        · rw [if_neg h, if_neg (fun z => h (hm.mp z)), List.map_append]
          rfl
    rw [e]
    refine fold_map xs (addK k x) fun a b ha hb => inj a b ?_ ?_
    · rcases ha with ha | ha
      · have := (fold_mem [x] k a).mp (by simpa using ha)
        rcases this with h | h
        · exact Or.inl h
        · exact Or.inr (by simp at h; simp [h])
      · exact Or.inr (List.mem_cons_of_mem _ ha)
    · rcases hb with hb | hb
      · have := (fold_mem [x] k b).mp (by simpa using hb)
        rcases this with h | h
        · exact Or.inl h
        · exact Or.inr (by simp at h; simp [h])
      · exact Or.inr (List.mem_cons_of_mem _ hb)
theorem idx_map {f : α → β} : ∀ (k : List α) (a : α), a ∈ k → (∀ b ∈ k, f b = f a → b = a) → (k.map f).idxOf (f a) = k.idxOf a
  | [], a, h, _ => by simp at h
  | x :: k, a, h, inj => by
    rw [List.map_cons, List.idxOf_cons, List.idxOf_cons]
    by_cases e : x = a
    · subst e
      simp
    · have e2 : ¬ f x = f a := fun z => e (inj x List.mem_cons_self z)
      have h2 : a ∈ k := by
        rcases List.mem_cons.mp h with h | h
        · exact absurd h.symm e
        · exact h
      have b1 : (x == a) = false := by simpa using e
      have b2 : (f x == f a) = false := by simpa using e2
      rw [b1, b2]
      simp only [cond_false]
      rw [idx_map k a h2 fun b hb => inj b (List.mem_cons_of_mem _ hb)]
theorem norm_map {f : α → β} {xs : List (Option α)} (inj : ∀ a b, some a ∈ xs → some b ∈ xs → f a = f b → a = b) : norm (xs.map (Option.map f)) = norm xs := by
  have e : knownOf (xs.map (Option.map f)) = (knownOf xs).map f := by
    have := fold_map (f := f) xs [] fun a b ha hb => inj a b (by simpa using ha) (by simpa using hb)
    simpa [knownOf] using this
  unfold norm
  rw [List.map_map, e]
  refine List.map_congr_left fun x hx => ?_
  cases x with
  | none => rfl
  | some a =>
    show (((knownOf xs).map f).idxOf (f a) : Int) = ((knownOf xs).idxOf a : Int)
    rw [idx_map _ a (known_mem.mpr hx) fun b hb z => inj b a (known_mem.mp hb) hx z]

/-- the first place of each mark -/
def firsts (xs : List (Option α)) : List (Option Nat) := xs.map (Option.map fun a => xs.idxOf (some a))
theorem norm_firsts {xs : List (Option α)} : norm (firsts xs) = norm xs := by
  unfold firsts
  refine norm_map fun a b ha hb e => ?_
  have := (idx_inj ha hb).mp e
  exact Option.some.inj this
theorem idx_lt_of {γ : Type} [BEq γ] [LawfulBEq γ] {xs : List γ} {i : Nat} {a : γ} (h : xs[i]? = some a) : xs.idxOf a ≤ i := by
  induction xs generalizing i with
  | nil => simp at h
  | cons x xs ih =>
    rw [List.idxOf_cons]
    by_cases e : x = a
    · subst e
      simp
    · have b1 : (x == a) = false := by simpa using e
      rw [b1]
      simp only [cond_false]
      cases i with
      | zero =>
        simp at h
        exact absurd h e
      | succ i =>
        have := ih (i := i) (by simpa using h)
        omega
theorem idx_at {γ : Type} [BEq γ] [LawfulBEq γ] {xs : List γ} {a : γ} (h : a ∈ xs) : xs[xs.idxOf a]? = some a := by
  rw [List.getElem?_eq_getElem (List.idxOf_lt_length_of_mem h)]
  congr 1
  exact List.getElem_idxOf _
theorem firsts_pat {xs : List (Option α)} {ys : List (Option β)} (p : Pat xs ys) : firsts xs = firsts ys := by
  refine List.ext_getElem? fun i => ?_
  by_cases hi : i < xs.length
  · have hj : i < ys.length := p.len ▸ hi
    simp only [firsts, List.getElem?_map]
    rw [List.getElem?_eq_getElem hi, List.getElem?_eq_getElem hj]
    simp only [Option.map_some, Option.some.injEq]
    have g := p.gone i hi
    rw [List.getElem?_eq_getElem hi, List.getElem?_eq_getElem hj] at g
    simp only [Option.some.injEq] at g
    cases ex : xs[i] with
    | none =>
      rw [g.mp ex]
      rfl
    | some a =>
      cases ey : ys[i] with
      | none =>
        rw [g.mpr ey] at ex
        cases ex
      | some b =>
        simp only [Option.map_some, Option.some.injEq]
        have mx : some a ∈ xs := ex ▸ List.getElem_mem hi
        have my : some b ∈ ys := ey ▸ List.getElem_mem hj
        have ax := idx_at mx
        have ay := idx_at my
        have lx : xs.idxOf (some a) < xs.length := List.idxOf_lt_length_of_mem mx
        have ly : ys.idxOf (some b) < ys.length := List.idxOf_lt_length_of_mem my
        have hxi : xs[i]? = some (some a) := by rw [List.getElem?_eq_getElem hi, ex]
        have hyi : ys[i]? = some (some b) := by rw [List.getElem?_eq_getElem hj, ey]
        refine Nat.le_antisymm ?_ ?_
        · refine idx_lt_of (xs := xs) ?_
          rw [← hxi]
          exact (p.same _ i (p.len ▸ ly) hi).mpr (by rw [ay, hyi])
        · refine idx_lt_of (xs := ys) ?_
          rw [← hyi]
          exact (p.same _ i lx hi).mp (by rw [ax, hxi])
  · have hj : ¬ i < ys.length := p.len ▸ hi
    simp only [firsts, List.getElem?_map]
    rw [List.getElem?_eq_none (by omega), List.getElem?_eq_none (by omega)]
    rfl
/-- THE LAW of the numbering: it hangs on what is alike and what is gone alone -/
theorem norm_pat {xs : List (Option α)} {ys : List (Option β)} (p : Pat xs ys) : norm xs = norm ys := by
  rw [← norm_firsts (xs := xs), ← norm_firsts (xs := ys), firsts_pat p]

/-- a class told by a number -/
def tag (c : Int) : Option Int := if c = -1 then none else some c
def tags (cs : List Int) : List (Option Int) := cs.map tag
theorem tag_none {c : Int} : tag c = none ↔ c = -1 := by
  unfold tag
  split <;> simp_all
theorem tag_inj {c d : Int} : tag c = tag d ↔ c = d := by
  unfold tag
  by_cases hc : c = -1 <;> by_cases hd : d = -1 <;> simp_all
  exact fun z => hd z.symm
theorem tags_at {cs : List Int} {i : Nat} : (tags cs)[i]? = cs[i]?.map tag := by simp [tags]
theorem tags_length {cs : List Int} : (tags cs).length = cs.length := by simp [tags]
theorem tags_same {cs : List Int} {i j : Nat} : (tags cs)[i]? = (tags cs)[j]? ↔ cs[i]? = cs[j]? := by
  rw [tags_at, tags_at]
  cases cs[i]? <;> cases cs[j]? <;> simp [tag_inj]
theorem tags_gone {cs : List Int} {i : Nat} : (tags cs)[i]? = some none ↔ cs[i]? = some (-1) := by
  rw [tags_at]
  cases cs[i]? <;> simp [tag_none]
theorem pat_norm {xs : List (Option α)} : Pat (tags (norm xs)) xs where
  len := by rw [tags_length, norm_length]
  gone := fun i hi => by
    rw [tags_length, norm_length] at hi
    rw [tags_gone, norm_gone hi]
  same := fun i j hi hj => by
    rw [tags_length, norm_length] at hi hj
    rw [tags_same, norm_same hi hj]
theorem norm_norm {xs : List (Option α)} : norm (tags (norm xs)) = norm xs := norm_pat pat_norm
theorem Pat.symm {xs : List (Option α)} {ys : List (Option β)} (p : Pat xs ys) : Pat ys xs :=
  ⟨p.len.symm, fun i hi => (p.gone i (p.len ▸ hi)).symm, fun i j hi hj => (p.same i j (p.len ▸ hi) (p.len ▸ hj)).symm⟩
theorem Pat.trans {γ : Type} [DecidableEq γ] {xs : List (Option α)} {ys : List (Option β)} {zs : List (Option γ)} (p : Pat xs ys) (q : Pat ys zs) : Pat xs zs :=
  ⟨p.len.trans q.len, fun i hi => (p.gone i hi).trans (q.gone i (p.len ▸ hi)), fun i j hi hj => (p.same i j hi hj).trans (q.same i j (p.len ▸ hi) (p.len ▸ hj))⟩
end Num
/-! N2: marks of holders in plain lists: marked, alike, groups. -/
namespace Num
/-- the classes of a partition -/
def Good (cs : List Int) : Prop := 1 ≤ cs.length ∧ cs.length ≤ 8 ∧ norm (tags cs) = cs
theorem getElem?_zipIdx {γ : Type} {xs : List γ} {i k : Nat} {v : γ} (h : xs.zipIdx[i]? = some (v, k)) : xs[i]? = some v ∧ k = i := by
  rw [List.getElem?_zipIdx] at h
  cases e : xs[i]? with
  | none =>
    rw [e] at h
    cases h
  | some u =>
    rw [e] at h
    cases h
    exact ⟨rfl, by omega⟩
def goneOf (cs : List Int) : List Int := cs.zipIdx.filterMap fun b => if b.1 = -1 then some (b.2 : Int) else none
def withMark (cs hs : List Int) (m : Int) : List Int := cs.zipIdx.map fun b => if (b.2 : Int) ∈ hs then m else b.1
def marked (cs hs : List Int) (m : Int) : List Int := norm (tags (withMark cs hs m))
theorem marked_len {cs hs : List Int} {m : Int} : (marked cs hs m).length = cs.length := by
  simp [marked, norm_length, tags_length, withMark]
theorem marked_good {cs hs : List Int} {m : Int} (h : Good cs) : Good (marked cs hs m) := ⟨by rw [marked_len]; exact h.1, by rw [marked_len]; exact h.2.1, norm_norm⟩
/-- the mark of h -/
def gv (cs : List Int) (h : Int) : Int := cs.getD h.toNat (-1)
/-- all of hs are holders -/
def Holds (cs hs : List Int) : Prop := hs.length ≤ 1000 ∧ ∀ h ∈ hs, 0 ≤ h ∧ h < cs.length
/-- what is_alike says -/
def alike (cs hs : List Int) : Bool := (hs.map (gv cs)).all fun m => decide (m ≠ -1 ∧ m = (hs.map (gv cs)).getD 0 0)
def firstsOf (cs : List Int) : List Int := cs.zipIdx.filterMap fun b => if b.1 ≠ -1 ∧ b.1 ∉ cs.take b.2 then some (b.2 : Int) else none
def membersOf (cs : List Int) (m : Int) : List Int := cs.zipIdx.filterMap fun b => if b.1 = m then some (b.2 : Int) else none
def groupsOf (cs : List Int) : List (List Int) := (firstsOf cs).map fun f => membersOf cs (gv cs f)
theorem firsts_in {cs : List Int} {f : Int} (h : f ∈ firstsOf cs) : 0 ≤ f ∧ f < cs.length := by
  unfold firstsOf at h
  obtain ⟨⟨c, k⟩, hb, e⟩ := List.mem_filterMap.mp h
  have := List.snd_lt_of_mem_zipIdx hb
  split at e
  · cases e
    simp at this
    omega
  · cases e
theorem firsts_len {cs : List Int} : (firstsOf cs).length ≤ cs.length := by
  have := List.length_filterMap_le (fun b : Int × Nat => if b.1 ≠ -1 ∧ b.1 ∉ cs.take b.2 then some (b.2 : Int) else none) cs.zipIdx
  simpa [firstsOf] using this
theorem idx_lt {cs : List Int} {i k : Nat} {c : Int} (h : cs.zipIdx[i]? = some (c, k)) : k < cs.length := by
  obtain ⟨h1, h2⟩ := getElem?_zipIdx h
  rw [h2]
  exact (List.getElem?_eq_some_iff.mp h1).1
/-- the numbers of the boxes -/
def numsOf (bs : List Int) : List Int := norm (bs.map some)
theorem num_last {bs : List Int} {i : Nat} {b : Int} (h : bs[i]? = some b) :
    numOf (((bs.map some).take (i + 1)).foldl addK []) (some b) = numOf (knownOf (bs.map some)) (some b) := by
  obtain ⟨r, hr⟩ := fold_prefix ((bs.map some).drop (i + 1)) (((bs.map some).take (i + 1)).foldl addK [])
  have e : knownOf (bs.map some) = (((bs.map some).take (i + 1)).foldl addK []) ++ r := by
    rw [← hr, ← List.foldl_append, List.take_append_drop]
    rfl
  have hm : b ∈ ((bs.map some).take (i + 1)).foldl addK [] := by
    rw [fold_mem]
    refine Or.inr (List.mem_of_getElem? (i := i) ?_)
    rw [List.getElem?_take, if_pos (Nat.lt_succ_self i), List.getElem?_map, h]
    rfl
  rw [e]
  show ((List.idxOf b _ : Nat) : Int) = ((List.idxOf b _ : Nat) : Int)
  rw [idx_append hm]
theorem gv_get {cs : List Int} {h : Int} (h0 : 0 ≤ h) (h1 : h < cs.length) : cs[h.toNat]? = some (gv cs h) := by
  have hj : h.toNat < cs.length := by omega
  unfold gv
  rw [List.getD_eq_getElem?_getD, List.getElem?_eq_getElem hj]
  rfl
theorem wm_at {cs hs : List Int} {m : Int} {i : Nat} (h : i < cs.length) : (withMark cs hs m)[i]? = if (i : Int) ∈ hs then some m else cs[i]? := by
  unfold withMark
  rw [List.getElem?_map, List.getElem?_zipIdx, List.getElem?_eq_getElem h]
  simp only [Option.map_some, Nat.zero_add]
  split <;> rfl
/-- ys is xs with o at the places hs -/
structure SetAt (xs ys : List (Option Int)) (hs : List Int) (o : Option Int) : Prop where
  len : ys.length = xs.length
  at_ : ∀ i : Nat, i < xs.length → ys[i]? = if (i : Int) ∈ hs then some o else xs[i]?
theorem step {xs ys : List (Option Int)} {hs : List Int} {m : Int} {o : Option Int} (S : SetAt xs ys hs o) (hm : m = -1 ↔ o = none)
    (hv : ∀ j : Nat, j < xs.length → ((norm xs)[j]? = some m ↔ xs[j]? = some o)) : marked (norm xs) hs m = norm ys := by
  have hl : (withMark (norm xs) hs m).length = xs.length := by simp [withMark, norm_length]
  have wa : ∀ i : Nat, i < xs.length → (withMark (norm xs) hs m)[i]? = if (i : Int) ∈ hs then some m else (norm xs)[i]? := fun i hi => wm_at (by rw [norm_length]; exact hi)
  refine norm_pat (⟨?_, ?_, ?_⟩ : Pat (tags (withMark (norm xs) hs m)) ys)
  · rw [tags_length, hl, S.len]
  · intro i hi
    rw [tags_length, hl] at hi
    rw [tags_gone, wa i hi, S.at_ i hi]
    by_cases h : (i : Int) ∈ hs
    · simp only [h, if_true, Option.some.injEq]
      exact hm
    · simp only [h, if_false]
      exact norm_gone hi
  · intro i j hi hj
    rw [tags_length, hl] at hi hj
    rw [tags_same, wa i hi, S.at_ i hi, wa j hj, S.at_ j hj]
    by_cases h : (i : Int) ∈ hs <;> by_cases h2 : (j : Int) ∈ hs
    · simp only [h, h2, if_true]
    · simp only [h, h2, if_true, if_false]
      exact ⟨fun z => ((hv j hj).mp z.symm).symm, fun z => ((hv j hj).mpr z.symm).symm⟩
    · simp only [h, h2, if_true, if_false]
      exact hv i hi
    · simp only [h, h2, if_false]
      exact norm_same hi hj
theorem norm_lt {xs : List (Option Int)} {j : Nat} {c : Int} (h : (norm xs)[j]? = some c) : -1 ≤ c ∧ c < xs.length := by
  rw [norm_at] at h
  cases e : xs[j]? with
  | none =>
    rw [e] at h
    cases h
  | some x =>
    rw [e] at h
    simp only [Option.map_some, Option.some.injEq] at h
    have hj : j < xs.length := (List.getElem?_eq_some_iff.mp e).1
    cases x with
    | none =>
      simp only [numOf] at h
      omega
    | some a =>
      have hm : a ∈ knownOf xs := known_mem.mpr (List.mem_of_getElem? e)
      have h1 := List.idxOf_lt_length_of_mem hm
      have h2 := known_len (xs := xs)
      simp only [numOf] at h
      omega
/-- a mark that none has -/
theorem step_fresh {xs ys : List (Option Int)} {hs : List Int} {v : Int} (S : SetAt xs ys hs (some v)) (hv : some v ∉ xs) : marked (norm xs) hs (norm xs).length = norm ys := by
  refine step S ⟨fun z => ?_, fun z => by cases z⟩ fun j hj => ⟨fun z => ?_, fun z => ?_⟩
  · omega
  · have := norm_lt z
    rw [norm_length] at this
    omega
  · exact absurd (List.mem_of_getElem? z) hv
/-- a mark that another has -/
theorem step_copied {xs ys : List (Option Int)} {hs : List Int} {g : Int} {o : Option Int} (S : SetAt xs ys hs o) (g0 : 0 ≤ g) (hg : xs[g.toNat]? = some o) : marked (norm xs) hs (gv (norm xs) g) = norm ys := by
  have gl : g.toNat < xs.length := (List.getElem?_eq_some_iff.mp hg).1
  have e : (norm xs)[g.toNat]? = some (gv (norm xs) g) := by
    unfold gv
    rw [List.getD_eq_getElem?_getD, List.getElem?_eq_getElem (by rw [norm_length]; exact gl)]
    rfl
  refine step S ?_ fun j hj => ?_
  · have q := norm_gone gl
    rw [e, hg] at q
    simpa using q
  · rw [← e, ← hg]
    exact norm_same hj gl
/-- without -/
theorem step_gone {xs ys : List (Option Int)} {hs : List Int} (S : SetAt xs ys hs none) : marked (norm xs) hs (-1) = norm ys :=
  step S ⟨fun _ => rfl, fun _ => rfl⟩ fun j hj => norm_gone hj
/-- one place is set -/
theorem SetAt.one {bs : List Int} {k v : Int} (k0 : 0 ≤ k) : SetAt (bs.map some) ((bs.set k.toNat v).map some) [k] (some v) where
  len := by simp
  at_ := fun i hi => by
    rw [List.length_map] at hi
    rw [List.getElem?_map, List.getElem?_set, List.getElem?_map]
    by_cases h : k.toNat = i
    · have h2 : (i : Int) ∈ [k] := by
        rw [List.mem_singleton]
        omega
      simp [h, h2, hi]
    · have h2 : (i : Int) ∉ [k] := by
        rw [List.mem_singleton]
        omega
      rw [if_neg h, if_neg h2]
theorem SetAt.trans {xs ys zs : List (Option Int)} {hs gs : List Int} {o : Option Int} (S : SetAt xs ys hs o) (S2 : SetAt ys zs gs o) : SetAt xs zs (hs ++ gs) o where
  len := S2.len.trans S.len
  at_ := fun i hi => by
    rw [S2.at_ i (by rw [S.len]; exact hi), S.at_ i hi]
    by_cases h : (i : Int) ∈ hs <;> by_cases h2 : (i : Int) ∈ gs <;> simp [h, h2]
theorem SetAt.perm {xs ys : List (Option Int)} {hs gs : List Int} {o : Option Int} (S : SetAt xs ys hs o) (h : ∀ i, i ∈ gs ↔ i ∈ hs) : SetAt xs ys gs o where
  len := S.len
  at_ := fun i hi => by
    rw [S.at_ i hi]
    by_cases h1 : (i : Int) ∈ hs
    · rw [if_pos h1, if_pos ((h _).mpr h1)]
    · rw [if_neg h1, if_neg fun z => h1 ((h _).mp z)]
theorem nums_len {bs : List Int} : (numsOf bs).length = bs.length := by simp [numsOf, norm_length]
theorem nums_good {bs : List Int} (h1 : 1 ≤ bs.length) (h2 : bs.length ≤ 8) : Good (numsOf bs) := ⟨by rw [nums_len]; exact h1, by rw [nums_len]; exact h2, norm_norm⟩
theorem gv_some {cs : List Int} {h : Nat} {c : Int} (e : cs[h]? = some c) : gv cs h = c := by
  unfold gv
  rw [Int.toNat_natCast, List.getD_eq_getElem?_getD, e]
  rfl
theorem nums_at {bs : List Int} {i : Nat} (h : i < bs.length) : (numsOf bs)[i]? = some (gv (numsOf bs) i) := by
  have hl : i < (numsOf bs).length := by
    rw [nums_len]
    exact h
  rw [gv_some (List.getElem?_eq_getElem hl), List.getElem?_eq_getElem hl]
theorem nums_same {bs : List Int} {i j : Nat} {b c : Int} (hi : bs[i]? = some b) (hj : bs[j]? = some c) : gv (numsOf bs) i = gv (numsOf bs) j ↔ b = c := by
  have li : i < bs.length := (List.getElem?_eq_some_iff.mp hi).1
  have lj : j < bs.length := (List.getElem?_eq_some_iff.mp hj).1
  have q := norm_same (xs := bs.map some) (i := i) (j := j) (by simpa using li) (by simpa using lj)
  rw [← numsOf, nums_at li, nums_at lj, List.getElem?_map, List.getElem?_map, hi, hj] at q
  simpa using q
theorem nums_here {bs : List Int} {i : Nat} (h : i < bs.length) : gv (numsOf bs) i ≠ -1 := by
  intro z
  have q := (norm_gone (xs := bs.map some) (i := i) (by simpa using h)).mp (by rw [← numsOf, nums_at h, z])
  rw [List.getElem?_map, List.getElem?_eq_getElem h] at q
  cases q
theorem alike_two {bs : List Int} {i j : Nat} {b c : Int} (hi : bs[i]? = some b) (hj : bs[j]? = some c) : alike (numsOf bs) [(i : Int), (j : Int)] = decide (b = c) := by
  have ni := nums_here (List.getElem?_eq_some_iff.mp hi).1
  have nj := nums_here (List.getElem?_eq_some_iff.mp hj).1
  have s := nums_same hi hj
  unfold alike
  simp only [List.map_cons, List.map_nil, List.all_cons, List.all_nil, Bool.and_true, List.getD_cons_zero]
  rw [Bool.eq_iff_iff]
  simp only [Bool.and_eq_true, decide_eq_true_eq]
  constructor
  · rintro ⟨_, _, h⟩
    exact s.mp h.symm
  · intro h
    exact ⟨⟨ni, trivial⟩, nj, (s.mpr h).symm⟩
theorem nums_fresh1 {bs : List Int} {t i : Int} (h0 : 0 ≤ i) (hf : ∀ x ∈ bs, x < t) : marked (numsOf bs) [i] (numsOf bs).length = numsOf (bs.set i.toNat t) :=
  step_fresh (SetAt.one h0) fun h => by
    obtain ⟨x, hx, e⟩ := List.mem_map.mp h
    have := hf x hx
    cases e
    omega
theorem nums_fresh2 {bs : List Int} {t i j : Int} {hs : List Int} (h0 : 0 ≤ i) (h1 : 0 ≤ j) (hf : ∀ x ∈ bs, x < t) (hh : ∀ x, x ∈ hs ↔ x ∈ [i, j]) : marked (numsOf bs) hs (numsOf bs).length = numsOf ((bs.set i.toNat t).set j.toNat t) :=
  step_fresh (((SetAt.one h0).trans (SetAt.one h1)).perm hh) fun h => by
    obtain ⟨x, hx, e⟩ := List.mem_map.mp h
    have := hf x hx
    cases e
    omega
theorem nums_copied {bs : List Int} {v i g : Int} (h0 : 0 ≤ i) (g0 : 0 ≤ g) (hg : bs[g.toNat]? = some v) : marked (numsOf bs) [i] (gv (numsOf bs) g) = numsOf (bs.set i.toNat v) :=
  step_copied (SetAt.one h0) g0 (by rw [List.getElem?_map, hg]; rfl)
theorem set_lt {bs : List Int} {t v : Int} {i : Nat} (h : ∀ x ∈ bs, x < t) (hv : v < t) : ∀ x ∈ bs.set i v, x < t := fun x hx => by
  rcases List.mem_or_eq_of_mem_set hx with h1 | h1
  · exact h x h1
  · omega
theorem holds1 {cs : List Int} {i : Int} (h0 : 0 ≤ i) (h1 : i < cs.length) : Holds cs [i] := ⟨by simp, fun h hh => by simp at hh; omega⟩
theorem holds2 {cs : List Int} {i j : Int} (h0 : 0 ≤ i) (h1 : i < cs.length) (h2 : 0 ≤ j) (h3 : j < cs.length) : Holds cs [i, j] := ⟨by simp, fun h hh => by simp at hh; omega⟩
theorem zip_asc {cs : List Int} : cs.zipIdx.Pairwise fun a b => a.2 < b.2 := by
  rw [List.pairwise_iff_getElem]
  intro i j hi hj h
  simpa using h
theorem mem_members {xs : List Int} {m k : Int} : k ∈ membersOf xs m ↔ ∃ i : Nat, k = i ∧ xs[i]? = some m := by
  unfold membersOf
  rw [List.mem_filterMap]
  constructor
  · rintro ⟨⟨c, i⟩, hb, e⟩
    obtain ⟨j, hj⟩ := List.mem_iff_getElem?.mp hb
    obtain ⟨h1, rfl⟩ := getElem?_zipIdx hj
    split at e
    · rename_i h
      cases e
      exact ⟨i, rfl, by rw [h1]; exact congrArg some h⟩
    · cases e
  · rintro ⟨i, rfl, h⟩
    exact ⟨(m, i), List.mem_iff_getElem?.mpr ⟨i, by rw [List.getElem?_zipIdx, h]; simp⟩, by simp⟩
theorem asc_members {xs : List Int} {m : Int} : (membersOf xs m).Pairwise (· < ·) := by
  unfold membersOf
  rw [List.pairwise_filterMap]
  refine zip_asc.imp fun h c hc d hd => ?_
  split at hc
  · split at hd
    · cases hc
      cases hd
      omega
    · cases hd
  · cases hc
theorem mem_firsts {cs : List Int} {k : Int} : k ∈ firstsOf cs ↔ ∃ (i : Nat) (c : Int), k = i ∧ cs[i]? = some c ∧ c ≠ -1 ∧ c ∉ cs.take i := by
  unfold firstsOf
  rw [List.mem_filterMap]
  constructor
  · rintro ⟨⟨c, i⟩, hb, e⟩
    obtain ⟨j, hj⟩ := List.mem_iff_getElem?.mp hb
    obtain ⟨h1, rfl⟩ := getElem?_zipIdx hj
    split at e
    · rename_i h
      cases e
      exact ⟨i, c, rfl, h1, h.1, h.2⟩
    · cases e
  · rintro ⟨i, c, rfl, h, h1, h2⟩
    exact ⟨(c, i), List.mem_iff_getElem?.mpr ⟨i, by rw [List.getElem?_zipIdx, h]; simp⟩, by simp only [h1, h2, ne_eq, not_false_eq_true, and_self, if_true]⟩
theorem asc_firsts {cs : List Int} : (firstsOf cs).Pairwise (· < ·) := by
  unfold firstsOf
  rw [List.pairwise_filterMap]
  refine zip_asc.imp fun h c hc d hd => ?_
  split at hc
  · split at hd
    · cases hc
      cases hd
      omega
    · cases hd
  · cases hc
theorem mem_take {xs : List Int} {i : Nat} {c : Int} : c ∈ xs.take i ↔ ∃ j, j < i ∧ xs[j]? = some c := by
  rw [List.mem_iff_getElem?]
  constructor
  · rintro ⟨j, h⟩
    rw [List.getElem?_take] at h
    split at h
    · exact ⟨j, by assumption, h⟩
    · cases h
  · rintro ⟨j, h1, h2⟩
    exact ⟨j, by rw [List.getElem?_take, if_pos h1, h2]⟩
theorem nums_take {bs : List Int} {i : Nat} {b : Int} (h : bs[i]? = some b) : gv (numsOf bs) i ∈ (numsOf bs).take i ↔ b ∈ bs.take i := by
  have hi := (List.getElem?_eq_some_iff.mp h).1
  rw [mem_take, mem_take]
  constructor
  · rintro ⟨j, h1, h2⟩
    have hj : j < bs.length := by omega
    rw [nums_at hj] at h2
    refine ⟨j, h1, ?_⟩
    rw [List.getElem?_eq_getElem hj]
    exact congrArg some ((nums_same (List.getElem?_eq_getElem hj) h).mp (by simpa using h2))
  · rintro ⟨j, h1, h2⟩
    have hj : j < bs.length := by omega
    refine ⟨j, h1, ?_⟩
    rw [nums_at hj]
    exact congrArg some ((nums_same h2 h).mpr rfl)
theorem mem_firsts_nums {bs : List Int} {k : Int} : k ∈ firstsOf (numsOf bs) ↔ k ∈ bs.map fun b => ((bs.idxOf b : Nat) : Int) := by
  rw [mem_firsts, List.mem_map]
  constructor
  · rintro ⟨i, c, rfl, h1, h2, h3⟩
    have hi : i < bs.length := by
      rw [← nums_len]
      exact (List.getElem?_eq_some_iff.mp h1).1
    have hb : bs[i]? = some bs[i] := List.getElem?_eq_getElem hi
    rw [nums_at hi] at h1
    cases h1
    rw [nums_take hb] at h3
    refine ⟨bs[i], List.getElem_mem hi, ?_⟩
    have h4 := idx_lt_of hb
    have h5 := idx_at (List.getElem_mem hi)
    by_cases h6 : bs.idxOf bs[i] < i
    · exact absurd (mem_take.mpr ⟨_, h6, h5⟩) h3
    · omega
  · rintro ⟨b, hb, rfl⟩
    have h5 := idx_at hb
    have hi := (List.getElem?_eq_some_iff.mp h5).1
    refine ⟨bs.idxOf b, gv (numsOf bs) (bs.idxOf b : Nat), rfl, nums_at hi, nums_here hi, ?_⟩
    rw [nums_take h5, mem_take]
    rintro ⟨j, h1, h2⟩
    have := idx_lt_of h2
    omega
theorem asc_unique : ∀ {a b : List Int}, a.Pairwise (· < ·) → b.Pairwise (· < ·) → (∀ k, k ∈ a ↔ k ∈ b) → a = b
  | [], [], _, _, _ => rfl
  | [], y :: b, _, _, h => by
    have := (h y).mpr List.mem_cons_self
    simp at this
  | x :: a, [], _, _, h => by
    have := (h x).mp List.mem_cons_self
    simp at this
  | x :: a, y :: b, ha, hb, h => by
    rw [List.pairwise_cons] at ha hb
    have e : x = y := by
      have h1 := (h x).mp List.mem_cons_self
      have h2 := (h y).mpr List.mem_cons_self
      rcases List.mem_cons.mp h1 with h1 | h1
      · exact h1
      · rcases List.mem_cons.mp h2 with h2 | h2
        · exact h2.symm
        · have := ha.1 y h2
          have := hb.1 x h1
          omega
    subst e
    rw [asc_unique ha.2 hb.2 fun k => ?_]
    have hk := h k
    simp only [List.mem_cons] at hk
    constructor
    · intro h1
      have := ha.1 k h1
      rcases hk.mp (.inr h1) with h2 | h2
      · omega
      · exact h2
    · intro h1
      have := hb.1 k h1
      rcases hk.mpr (.inr h1) with h2 | h2
      · omega
      · exact h2
theorem gv_bs {bs : List Int} {k : Int} (h0 : 0 ≤ k) (h1 : k < bs.length) : bs[k.toNat]? = some (gv bs k) := gv_get h0 h1
theorem members_nums {bs : List Int} {k : Int} (h0 : 0 ≤ k) (h1 : k < bs.length) : membersOf (numsOf bs) (gv (numsOf bs) k) = membersOf bs (gv bs k) := by
  refine asc_unique asc_members asc_members fun j => ?_
  rw [mem_members, mem_members]
  have hk := gv_bs h0 h1
  have e : ((k.toNat : Nat) : Int) = k := Int.toNat_of_nonneg h0
  constructor
  · rintro ⟨i, rfl, h⟩
    have hi : i < bs.length := by
      rw [← nums_len]
      exact (List.getElem?_eq_some_iff.mp h).1
    have hb : bs[i]? = some bs[i] := List.getElem?_eq_getElem hi
    refine ⟨i, rfl, ?_⟩
    rw [nums_at hi] at h
    have := (nums_same hb hk).mp (by rw [e]; simpa using h)
    rw [hb, this]
  · rintro ⟨i, rfl, h⟩
    have hi := (List.getElem?_eq_some_iff.mp h).1
    refine ⟨i, rfl, ?_⟩
    have := (nums_same h hk).mpr rfl
    rw [e] at this
    rw [nums_at hi, this]
theorem gone_nums {bs : List Int} : goneOf (numsOf bs) = [] := by
  unfold goneOf
  rw [List.filterMap_eq_nil_iff]
  rintro ⟨c, i⟩ hb
  obtain ⟨j, hj⟩ := List.mem_iff_getElem?.mp hb
  obtain ⟨h1, rfl⟩ := getElem?_zipIdx hj
  have hi : i < bs.length := by
    rw [← nums_len]
    exact (List.getElem?_eq_some_iff.mp h1).1
  rw [nums_at hi] at h1
  cases h1
  rw [if_neg (nums_here hi)]
end Num
/-! N3: holders that are gone, sides that end. -/
namespace Num
theorem nget {xs : List (Option Int)} {i : Nat} (h : i < xs.length) : (norm xs)[i]? = some (gv (norm xs) i) := by
  have hl : i < (norm xs).length := by
    rw [norm_length]
    exact h
  rw [gv_some (List.getElem?_eq_getElem hl), List.getElem?_eq_getElem hl]
theorem alike_n1 {xs : List (Option Int)} {i : Nat} (h : i < xs.length) : alike (norm xs) [(i : Int)] = decide (xs[i]? ≠ some none) := by
  unfold alike
  simp only [List.map_cons, List.map_nil, List.all_cons, List.all_nil, Bool.and_true, List.getD_cons_zero]
  have g := norm_gone h
  rw [nget h, Option.some.injEq] at g
  rw [decide_eq_decide, ne_eq, ne_eq, g]
  simp
theorem alike_n2 {xs : List (Option Int)} {i j : Nat} (h : i < xs.length) (h2 : j < xs.length) : alike (norm xs) [(i : Int), (j : Int)] = decide (xs[i]? ≠ some none ∧ xs[i]? = xs[j]?) := by
  unfold alike
  simp only [List.map_cons, List.map_nil, List.all_cons, List.all_nil, Bool.and_true, List.getD_cons_zero]
  have g := norm_gone h
  have s := norm_same h h2
  rw [nget h, Option.some.injEq] at g
  rw [nget h, nget h2, Option.some.injEq] at s
  rw [← Bool.decide_and, decide_eq_decide, ne_eq, ne_eq, ne_eq, ← g, ← s]
  constructor
  · rintro ⟨⟨h1, _⟩, h3, h4⟩
    exact ⟨h1, h4.symm⟩
  · rintro ⟨h1, h3⟩
    exact ⟨⟨h1, trivial⟩, by rw [← h3]; exact h1, h3.symm⟩
/-- the boxes bs, of which k from side on are gone -/
def ends (bs : List Int) (side k : Int) : List (Option Int) := bs.zipIdx.map fun b => if side ≤ (b.2 : Int) ∧ (b.2 : Int) < side + k then none else some b.1
theorem ends_len {bs : List Int} {side k : Int} : (ends bs side k).length = bs.length := by simp [ends]
theorem ends_at {bs : List Int} {side k : Int} {i : Nat} : (ends bs side k)[i]? = bs[i]?.map fun b => if side ≤ (i : Int) ∧ (i : Int) < side + k then none else some b := by
  unfold ends
  rw [List.getElem?_map, List.getElem?_zipIdx]
  cases bs[i]? <;> simp
theorem ends_0 {bs : List Int} {side : Int} : norm (ends bs side 0) = numsOf bs := by
  unfold numsOf
  congr 1
  refine List.ext_getElem? fun i => ?_
  rw [ends_at, List.getElem?_map]
  cases bs[i]? with
  | none => rfl
  | some b =>
    simp only [Option.map_some, Option.some.injEq]
    rw [if_neg (by omega)]
theorem ends_step {bs : List Int} {side : Int} {k : Nat} (h0 : 0 ≤ side) : marked (norm (ends bs side k)) [side + (k : Int)] (-1) = norm (ends bs side (k + 1 : Nat)) := by
  refine step_gone ⟨by rw [ends_len, ends_len], fun i hi => ?_⟩
  rw [ends_len] at hi
  rw [ends_at, ends_at, List.getElem?_eq_getElem hi]
  simp only [Option.map_some, List.mem_singleton]
  by_cases h1 : (i : Int) = side + k
  · rw [if_pos h1, if_pos (by omega)]
  · rw [if_neg h1]
    by_cases h2 : side ≤ (i : Int) ∧ (i : Int) < side + k
    · rw [if_pos h2, if_pos (by omega)]
    · rw [if_neg h2, if_neg (by omega)]
theorem ends_gone {bs : List Int} {side k : Int} (h0 : 0 ≤ side) (hk : 0 ≤ k) (h1 : side + k ≤ bs.length) : goneOf (norm (ends bs side k)) = (List.range k.toNat).map fun i : Nat => side + (i : Int) := by
  refine asc_unique (asc_members (m := -1)) ?_ fun j => ?_
  · rw [List.pairwise_map]
    exact List.pairwise_lt_range.imp fun h => by omega
  · rw [show goneOf (norm (ends bs side k)) = membersOf (norm (ends bs side k)) (-1) from rfl, mem_members, List.mem_map]
    constructor
    · rintro ⟨i, rfl, h⟩
      have hi : i < bs.length := by
        have := (List.getElem?_eq_some_iff.mp h).1
        rwa [norm_length, ends_len] at this
      rw [norm_gone (by rw [ends_len]; exact hi), ends_at, List.getElem?_eq_getElem hi] at h
      simp only [Option.map_some, Option.some.injEq] at h
      split at h
      · exact ⟨((i : Int) - side).toNat, by rw [List.mem_range]; omega, by omega⟩
      · cases h
    · rintro ⟨i, h, rfl⟩
      rw [List.mem_range] at h
      have hi : (side + (i : Int)).toNat < bs.length := by omega
      refine ⟨(side + (i : Int)).toNat, by omega, ?_⟩
      rw [norm_gone (by rw [ends_len]; exact hi), ends_at, List.getElem?_eq_getElem hi]
      simp only [Option.map_some, Option.some.injEq]
      rw [if_pos (by omega)]
/-- the holders beside the side -/
def stays (n side : Int) : List Int := (List.range (2 * n).toNat).filterMap fun k : Nat => if side ≤ (k : Int) ∧ (k : Int) < side + n then none else some (k : Int)
theorem mem_stays {n side k : Int} : k ∈ stays n side ↔ 0 ≤ k ∧ k < 2 * n ∧ ¬(side ≤ k ∧ k < side + n) := by
  unfold stays
  rw [List.mem_filterMap]
  constructor
  · rintro ⟨i, h1, h2⟩
    rw [List.mem_range] at h1
    split at h2
    · cases h2
    · cases h2
      exact ⟨by omega, by omega, by assumption⟩
  · rintro ⟨h1, h2, h3⟩
    have e : ((k.toNat : Nat) : Int) = k := Int.toNat_of_nonneg h1
    exact ⟨k.toNat, by rw [List.mem_range]; omega, by rw [e, if_neg h3]⟩
theorem norm_good {xs : List (Option Int)} (h1 : 1 ≤ xs.length) (h2 : xs.length ≤ 8) : Good (norm xs) := ⟨by rw [norm_length]; exact h1, by rw [norm_length]; exact h2, norm_norm⟩
/-- a fresh one at side -/
theorem ends_fresh {bs : List Int} {side k t : Int} (h0 : 0 ≤ side) (hlt : ∀ x ∈ bs, x < t) : marked (norm (ends bs side k)) [side] (norm (ends bs side k)).length = norm ((ends bs side k).set side.toNat (some t)) := by
  refine step_fresh (v := t) ⟨by simp, fun i hi => ?_⟩ fun h => ?_
  · rw [List.getElem?_set]
    by_cases h1 : side.toNat = i
    · subst h1
      rw [if_pos rfl, if_pos hi, if_pos (by rw [List.mem_singleton]; omega)]
    · rw [if_neg h1, if_neg (by rw [List.mem_singleton]; omega)]
  · obtain ⟨i, hi⟩ := List.mem_iff_getElem?.mp h
    rw [ends_at] at hi
    cases hb : bs[i]? with
    | none =>
      rw [hb] at hi
      cases hi
    | some b =>
      rw [hb] at hi
      have := hlt b (List.mem_of_getElem? hb)
      simp only [Option.map_some, Option.some.injEq] at hi
      split at hi
      · cases hi
      · cases hi
        omega
theorem ends_gv {bs : List Int} {side n j : Int} (j0 : 0 ≤ j) (j1 : j < bs.length) : (ends bs side n)[j.toNat]? = some (if side ≤ j ∧ j < side + n then none else some (gv bs j)) := by
  rw [ends_at, gv_get j0 j1, Option.map_some, Int.toNat_of_nonneg j0]
theorem alike_e1 {bs : List Int} {side n j : Int} (j0 : 0 ≤ j) (j1 : j < bs.length) (h : side ≤ j ∧ j < side + n) : alike (norm (ends bs side n)) [j] = false := by
  have f := alike_n1 (xs := ends bs side n) (i := j.toNat) (by rw [ends_len]; omega)
  rw [Int.toNat_of_nonneg j0] at f
  rw [f, decide_eq_false_iff_not, ends_gv j0 j1, if_pos h]
  simp
theorem alike_e2 {bs : List Int} {side n i j : Int} (i0 : 0 ≤ i) (i1 : i < bs.length) (j0 : 0 ≤ j) (j1 : j < bs.length) (h : ¬(side ≤ i ∧ i < side + n)) :
    alike (norm (ends bs side n)) [i, j] = decide (¬(side ≤ j ∧ j < side + n) ∧ gv bs i = gv bs j) := by
  have f := alike_n2 (xs := ends bs side n) (i := i.toNat) (j := j.toNat) (by rw [ends_len]; omega) (by rw [ends_len]; omega)
  rw [Int.toNat_of_nonneg i0, Int.toNat_of_nonneg j0] at f
  rw [f, decide_eq_decide, ends_gv i0 i1, ends_gv j0 j1, if_neg h]
  by_cases h2 : side ≤ j ∧ j < side + n
  · rw [if_pos h2]
    simp [h2]
  · rw [if_neg h2]
    simp only [h2, not_false_eq_true, true_and, Option.some.injEq, ne_eq, reduceCtorEq]
theorem alike_f1 {bs : List Int} {side n t : Int} (s0 : 0 ≤ side) (s1 : side < bs.length) : alike (norm ((ends bs side n).set side.toNat (some t))) [side] = true := by
  have hl : side.toNat < ((ends bs side n).set side.toNat (some t)).length := by rw [List.length_set, ends_len]; omega
  have f := alike_n1 hl
  rw [Int.toNat_of_nonneg s0] at f
  rw [f, decide_eq_true_iff, List.getElem?_set_self (by rw [ends_len]; omega)]
  simp
theorem alike_f2 {bs : List Int} {side n t j : Int} (s0 : 0 ≤ side) (s1 : side < bs.length) (j0 : 0 ≤ j) (j1 : j < bs.length) (hj : ¬(side ≤ j ∧ j < side + n)) (n0 : 1 ≤ n) (hlt : ∀ x ∈ bs, x < t) :
    alike (norm ((ends bs side n).set side.toNat (some t))) [side, j] = false := by
  have hl : ((ends bs side n).set side.toNat (some t)).length = bs.length := by rw [List.length_set, ends_len]
  have f := alike_n2 (xs := (ends bs side n).set side.toNat (some t)) (i := side.toNat) (j := j.toNat) (by rw [hl]; omega) (by rw [hl]; omega)
  rw [Int.toNat_of_nonneg s0, Int.toNat_of_nonneg j0] at f
  rw [f, decide_eq_false_iff_not, List.getElem?_set_self (by rw [ends_len]; omega), List.getElem?_set_ne (by omega), ends_gv j0 j1, if_neg hj]
  have := hlt _ (List.mem_of_getElem? (gv_get j0 j1))
  simp only [ne_eq, Option.some.injEq, not_and]
  intro _
  omega
end Num
/-! E1: values as trees; what an abstract heap holds of them; owned things at keys; the ghost state and its steps. -/
namespace DD
open PySem L2 GG PySem.Spec PyProof.Rows

/-- a value as a tree: it never changes again -/
inductive PV where
  | non | bl (b : Bool) | int (i : Int) | str (x : Str) | ty (n : String) | gl (a : Addr)
  | lst (ps : List PV) | tup (ps : List PV) | lsk (ps : List PV)
  | dct (ks : List Key) (ps : List PV)
  | obj (C : Addr) (fs : List Str) (ps : List PV)
  | ptr (j : Nat)
/-- a thing that may still change, with its content -/
inductive MV where
  | val (p : PV) | mlst (ps : List PV) | mdct (ks : List Key) (ps : List PV) | mobj (C : Addr) (fs : List Str) (ps : List PV)
def MV.frz : MV → PV
  | .val p => p
  | .mlst ps => .lst ps
  | .mdct ks ps => .dct ks ps
  | .mobj C fs ps => .obj C fs ps
/-- keys of owned things: a local's slot, a place of the store, the register -/
inductive Ky where
  | L (i : Nat) | S (j : Nat) | R
  deriving DecidableEq

mutual
inductive Rp (K : PySem.W.Frag) (js : List Addr) (F : Hp) : V → PV → Prop
  | non : Rp K js F .non .non
  | bl (b : Bool) : Rp K js F (.bl b) (.bl b)
  | int (i : Int) : Rp K js F (.int i) (.int i)
  | str (x : Str) : Rp K js F (.str x) (.str x)
  | ty (n : String) : Rp K js F (.ty n) (.ty n)
  | gl (a : Addr) : Rp K js F (.ref a) (.gl a)
  | lst {a : Addr} {vs : List V} {ps : List PV} : F a = some (.lst vs) → RpA K js F vs ps → Rp K js F (.ref a) (.lst ps)
  | lsk {a : Addr} {vs : List V} {ps : List PV} : SqL K F a vs → RpA K js F vs ps → Rp K js F (.ref a) (.lsk ps)
  | tup {a : Addr} {vs : List V} {ps : List PV} : SqT K F a vs → RpA K js F vs ps → Rp K js F (.ref a) (.tup ps)
  | dct {a : Addr} {kvs : List (Key × V)} {ps : List PV} : F a = some (.dK kvs) → RpA K js F (kvs.map (·.2)) ps → Rp K js F (.ref a) (.dct (kvs.map (·.1)) ps)
  | obj {a dx C : Addr} {fs : List (Str × V)} {ps : List PV} : F a = some (.ins C dx fs) → F dx = some (.own a) → RpA K js F (fs.map (·.2)) ps →
      Rp K js F (.ref a) (.obj C (fs.map (·.1)) ps)
  | ptr {a : Addr} {j : Nat} : js[j]? = some a → Rp K js F (.ref a) (.ptr j)
inductive RpA (K : PySem.W.Frag) (js : List Addr) (F : Hp) : List V → List PV → Prop
  | nil : RpA K js F [] []
  | cons {v : V} {p : PV} {vs : List V} {ps : List PV} : Rp K js F v p → RpA K js F vs ps → RpA K js F (v :: vs) (p :: ps)
end
section
variable {K : PySem.W.Frag} {js js' : List Addr} {F F' : Hp}
theorem SqL.le {a : Addr} {vs : List V} (e : ∀ a o, F a = some o → F' a = some o) (h : SqL K F a vs) : SqL K F' a vs := Same.seq (show Same F F' from e) h
theorem SqT.le {a : Addr} {vs : List V} (e : ∀ a o, F a = some o → F' a = some o) (h : SqT K F a vs) : SqT K F' a vs := Same.seqT (show Same F F' from e) h
theorem js_le {l : List Addr} {j : Nat} {a : Addr} (h : js[j]? = some a) : (js ++ l)[j]? = some a := by
  have hl : j < js.length := (List.getElem?_eq_some_iff.mp h).1
  rw [List.getElem?_append_left hl]
  exact h
mutual
theorem Rp.mono (e : ∀ a o, F a = some o → F' a = some o) (hj : ∃ l, js' = js ++ l) : ∀ {v : V} {p : PV}, Rp K js F v p → Rp K js' F' v p
  | _, _, .non => .non
  | _, _, .bl b => .bl b
  | _, _, .int i => .int i
  | _, _, .str x => .str x
  | _, _, .ty n => .ty n
  | _, _, .gl a => .gl a
  | _, _, .lst h q => .lst (e _ _ h) (RpA.mono e hj q)
  | _, _, .lsk h q => .lsk (SqL.le e h) (RpA.mono e hj q)
  | _, _, .tup h q => .tup (SqT.le e h) (RpA.mono e hj q)
  | _, _, .dct h q => .dct (e _ _ h) (RpA.mono e hj q)
  | _, _, .obj h h2 q => .obj (e _ _ h) (e _ _ h2) (RpA.mono e hj q)
  | _, _, .ptr h => .ptr (by
      obtain ⟨l, rfl⟩ := hj
      exact js_le h)
theorem RpA.mono (e : ∀ a o, F a = some o → F' a = some o) (hj : ∃ l, js' = js ++ l) : ∀ {vs : List V} {ps : List PV}, RpA K js F vs ps → RpA K js' F' vs ps
  | _, _, .nil => .nil
  | _, _, .cons h q => .cons (Rp.mono e hj h) (RpA.mono e hj q)
end
theorem RpA.length : ∀ {vs : List V} {ps : List PV}, RpA K js F vs ps → vs.length = ps.length
  | _, _, .nil => rfl
  | _, _, .cons _ q => by simp [RpA.length q]
theorem RpA.get : ∀ {vs : List V} {ps : List PV} {i : Nat} {p : PV}, RpA K js F vs ps → ps[i]? = some p → ∃ v, vs[i]? = some v ∧ Rp K js F v p
  | _, _, i, p, .nil, e => by simp at e
  | _, _, 0, p, .cons h _, e => by
    simp at e
    subst e
    exact ⟨_, rfl, h⟩
  | _, _, i + 1, p, .cons _ q, e => by
    obtain ⟨v, h1, h2⟩ := RpA.get (i := i) (p := p) q (by simpa using e)
    exact ⟨v, by simpa using h1, h2⟩
theorem RpA.getV : ∀ {vs : List V} {ps : List PV} {i : Nat} {v : V}, RpA K js F vs ps → vs[i]? = some v → ∃ p, ps[i]? = some p ∧ Rp K js F v p
  | _, _, i, p, .nil, e => by simp at e
  | _, _, 0, p, .cons h _, e => by
    simp at e
    subst e
    exact ⟨_, rfl, h⟩
  | _, _, i + 1, p, .cons _ q, e => by
    obtain ⟨v, h1, h2⟩ := RpA.getV (i := i) (v := p) q (by simpa using e)
    exact ⟨v, by simpa using h1, h2⟩
theorem RpA.append : ∀ {vs us : List V} {ps qs : List PV}, RpA K js F vs ps → RpA K js F us qs → RpA K js F (vs ++ us) (ps ++ qs)
  | _, _, _, _, .nil, s => s
  | _, _, _, _, .cons h q, s => .cons h (RpA.append q s)
theorem RpA.one {v : V} {p : PV} (h : Rp K js F v p) : RpA K js F [v] [p] := .cons h .nil
theorem RpA.set {v : V} {p : PV} (h : Rp K js F v p) : ∀ {vs : List V} {ps : List PV} (i : Nat), RpA K js F vs ps → RpA K js F (vs.set i v) (ps.set i p)
  | _, _, _, .nil => .nil
  | _, _, 0, .cons _ q => .cons h q
  | _, _, i + 1, .cons g q => .cons g (RpA.set h i q)
theorem RpA.take : ∀ {vs : List V} {ps : List PV} (n : Nat), RpA K js F vs ps → RpA K js F (vs.take n) (ps.take n)
  | _, _, 0, _ => .nil
  | _, _, _ + 1, .nil => .nil
  | _, _, n + 1, .cons h q => .cons h (RpA.take n q)
theorem RpA.drop : ∀ {vs : List V} {ps : List PV} (n : Nat), RpA K js F vs ps → RpA K js F (vs.drop n) (ps.drop n)
  | _, _, 0, r => r
  | _, _, _ + 1, .nil => .nil
  | _, _, n + 1, .cons _ q => RpA.drop n q
theorem RpA.reverse : ∀ {vs : List V} {ps : List PV}, RpA K js F vs ps → RpA K js F vs.reverse ps.reverse
  | _, _, .nil => .nil
  | _, _, .cons h q => by
    rw [List.reverse_cons, List.reverse_cons]
    exact RpA.append (RpA.reverse q) (.one h)
theorem RpA.repl {v : V} {p : PV} (h : Rp K js F v p) : ∀ n : Nat, RpA K js F (List.replicate n v) (List.replicate n p)
  | 0 => .nil
  | n + 1 => .cons h (RpA.repl h n)
theorem RpA.flat : ∀ {n : Nat} {vs : List V} {ps : List PV}, RpA K js F vs ps → RpA K js F (List.replicate n vs).flatten (List.replicate n ps).flatten
  | 0, _, _, _ => .nil
  | n + 1, _, _, h => by
    rw [List.replicate_succ, List.replicate_succ, List.flatten_cons, List.flatten_cons]
    exact RpA.append h (RpA.flat h)

theorem Rp.le (e : ∀ a o, F a = some o → F' a = some o) {v : V} {p : PV} (h : Rp K js F v p) : Rp K js F' v p := h.mono e ⟨[], by simp⟩
theorem RpA.le (e : ∀ a o, F a = some o → F' a = some o) {vs : List V} {ps : List PV} (h : RpA K js F vs ps) : RpA K js F' vs ps := h.mono e ⟨[], by simp⟩
end

/-- an owned thing, by the objects that make it up -/
inductive RpM (K : PySem.W.Frag) (js : List Addr) (F H : Hp) : V → MV → List Addr → Prop
  | val {v : V} {p : PV} : Rp K js F v p → RpM K js F H v (.val p) []
  | lst {a : Addr} {vs : List V} {ps : List PV} : H a = some (.lst vs) → RpA K js F vs ps → RpM K js F H (.ref a) (.mlst ps) [a]
  | dct {a : Addr} {kvs : List (Key × V)} {ps : List PV} : H a = some (.dK kvs) → RpA K js F (kvs.map (·.2)) ps → RpM K js F H (.ref a) (.mdct (kvs.map (·.1)) ps) [a]
  | obj {a dx C : Addr} {fs : List (Str × V)} {ps : List PV} : H a = some (.ins C dx fs) → H dx = some (.own a) → RpA K js F (fs.map (·.2)) ps →
      RpM K js F H (.ref a) (.mobj C (fs.map (·.1)) ps) [a, dx]
/-- the ghost state -/
structure Gh where
  F : Hp
  H : Hp
  js : List Addr
  fp : Ky → List Addr
/-- a step of the ghost state: what stood and was not owned stands -/
structure Ext (g g' : Gh) : Prop where
  F : ∀ a o, g.F a = some o → g'.F a = some o
  H : ∀ a o, g.H a = some o → (∀ k, a ∉ g.fp k) → g'.H a = some o
  fp : ∀ k a, a ∈ g'.fp k → (∃ k', a ∈ g.fp k') ∨ g.H a = none
  fr : ∀ a, g'.F a ≠ none → g.F a ≠ none ∨ (∃ k, a ∈ g.fp k) ∨ g.H a = none
  dom : ∀ a, g'.H a = none → g.H a = none
  js : ∃ l, g'.js = g.js ++ l
theorem Ext.refl (g : Gh) : Ext g g := ⟨fun _ _ e => e, fun _ _ e _ => e, fun k a h => Or.inl ⟨k, h⟩, fun _ h => Or.inl h, fun _ e => e, [], by simp⟩
theorem Ext.trans {a b c : Gh} (e : Ext a b) (f : Ext b c) : Ext a c where
  F := fun x o h => f.F x o (e.F x o h)
  H := fun x o h n => f.H x o (e.H x o h n) fun k hk => by
    rcases e.fp k x hk with ⟨k', h'⟩ | h'
    · exact n k' h'
    · rw [h'] at h
      cases h
  fp := fun k x h => by
    rcases f.fp k x h with ⟨k', h'⟩ | h'
    · exact e.fp k' x h'
    · exact Or.inr (e.dom x h')
  fr := fun x h => by
    rcases f.fr x h with h | ⟨k, h⟩ | h
    · exact e.fr x h
    · exact Or.inr (e.fp k x h)
    · exact Or.inr (Or.inr (e.dom x h))
  dom := fun x h => e.dom x (f.dom x h)
  js := by
    obtain ⟨l, h1⟩ := e.js
    obtain ⟨m, h2⟩ := f.js
    exact ⟨l ++ m, by rw [h2, h1, List.append_assoc]⟩
abbrev Own := Ky → Option (V × MV)
def setK {α : Type} (f : Ky → α) (k : Ky) (x : α) : Ky → α := fun k' => if k' = k then x else f k'
theorem setK_same {α : Type} {f : Ky → α} {k : Ky} {x : α} : setK f k x k = x := if_pos rfl
theorem setK_ne {α : Type} {f : Ky → α} {k k' : Ky} {x : α} (h : k' ≠ k) : setK f k x k' = f k' := if_neg h
/-- what is owned at the keys is told by own -/
structure SatO (K : PySem.W.Frag) (g : Gh) (own : Own) : Prop where
  sub : ∀ a o, g.F a = some o → g.H a = some o
  rep : ∀ k v m, own k = some (v, m) → RpM K g.js g.F g.H v m (g.fp k)
  emp : ∀ k, own k = none → g.fp k = []
  hid : ∀ k a, a ∈ g.fp k → g.F a = none
  dis : ∀ k k' a, a ∈ g.fp k → a ∈ g.fp k' → k = k'
section
variable {K : PySem.W.Frag} {g : Gh} {own own' : Own} {k : Ky} {v : V} {m : MV} {p : Addr} {o : HO}
theorem RpM.at_ {js : List Addr} {F H : Hp} {fp : List Addr} {a : Addr} (h : RpM K js F H v m fp) (ha : a ∈ fp) : H a ≠ none := by
  cases h with
  | val h => simp at ha
  | lst h _ =>
    obtain rfl := List.mem_singleton.mp ha
    rw [h]
    simp
  | dct h _ =>
    obtain rfl := List.mem_singleton.mp ha
    rw [h]
    simp
  | obj h h2 _ =>
    rcases List.mem_cons.mp ha with rfl | ha
    · rw [h]
      simp
    · obtain rfl := List.mem_singleton.mp ha
      rw [h2]
      simp
theorem SatO.at_ {a : Addr} (s : SatO K g own) (h : a ∈ g.fp k) : g.H a ≠ none := by
  cases e : own k with
  | none =>
    rw [s.emp k e] at h
    simp at h
  | some x => exact (s.rep k x.1 x.2 e).at_ h
theorem SatO.new_fp (s : SatO K g own) (n : g.H p = none) : p ∉ g.fp k := fun h => s.at_ h n
theorem SatO.new_F (s : SatO K g own) (n : g.H p = none) : g.F p = none := by
  cases e : g.F p with
  | none => rfl
  | some o =>
    rw [s.sub p o e] at n
    cases n
/-- the objects of the thing kept, the frozen heap grown -/
theorem RpM.keep {js js' : List Addr} {F F' H H' : Hp} {fp : List Addr} (h : RpM K js F H v m fp) (e : ∀ a o, F a = some o → F' a = some o)
    (hj : ∃ l, js' = js ++ l) (hh : ∀ a o, a ∈ fp → H a = some o → H' a = some o) : RpM K js' F' H' v m fp := by
  cases h with
  | val h => exact .val (h.mono e hj)
  | lst h q => exact .lst (hh _ _ List.mem_cons_self h) (q.mono e hj)
  | dct h q => exact .dct (hh _ _ List.mem_cons_self h) (q.mono e hj)
  | obj h h2 q => exact .obj (hh _ _ List.mem_cons_self h) (hh _ _ (List.mem_cons_of_mem _ List.mem_cons_self) h2) (q.mono e hj)

theorem upd_le {F : Hp} {p : Addr} {o : HO} (n : F p = none) : ∀ a u, F a = some u → upd F p o a = some u := fun a u e => by
  rw [upd_ne (ne_of_none e n)]
  exact e
/-- a new frozen object -/
def Gh.newF (g : Gh) (p : Addr) (o : HO) : Gh := { g with F := upd g.F p o, H := upd g.H p o }
theorem upd_dom {H : Hp} {p a : Addr} {o : HO} (h : upd H p o a = none) : H a = none := by
  unfold upd at h
  split at h
  · cases h
  · exact h
theorem SatO.newF (s : SatO K g own) (n : g.H p = none) : SatO K (g.newF p o) own := by
  have nF := s.new_F n
  refine ⟨fun a u e => ?_, fun k v m e => ?_, s.emp, fun k a h => ?_, s.dis⟩
  · show upd g.H p o a = some u
    have e : upd g.F p o a = some u := e
    by_cases h : a = p
    · subst h
      rw [upd_same] at e ⊢
      exact e
    · rw [upd_ne h] at e ⊢
      exact s.sub a u e
  · exact (s.rep k v m e).keep (upd_le nF) ⟨[], by simp [Gh.newF]⟩ fun a u _ h => upd_le n a u h
  · show upd g.F p o a = none
    rw [upd_ne]
    · exact s.hid k a h
    · rintro rfl
      exact s.new_fp n h
theorem Ext.newF (s : SatO K g own) (n : g.H p = none) : Ext g (g.newF p o) where
  F := upd_le (s.new_F n)
  H := fun a u h _ => upd_le n a u h
  fp := fun k a h => Or.inl ⟨k, h⟩
  fr := fun a h => by
    by_cases e : a = p
    · subst e
      exact Or.inr (Or.inr n)
    · refine Or.inl ?_
      have h : upd g.F p o a ≠ none := h
      rwa [upd_ne e] at h
  dom := fun a h => upd_dom h
  js := ⟨[], by simp [Gh.newF]⟩
/-- an object that nothing tells of is adopted, frozen -/
theorem SatO.adopt (s : SatO K g own) (h : g.H p = some o) (nf : ∀ k, p ∉ g.fp k) (nF : g.F p = none) : SatO K { g with F := upd g.F p o } own := by
  refine ⟨fun a u e => ?_, fun k v m e => ?_, s.emp, fun k a h => ?_, s.dis⟩
  · have e : upd g.F p o a = some u := e
    by_cases z : a = p
    · subst z
      rw [upd_same] at e
      cases e
      exact h
    · rw [upd_ne z] at e
      exact s.sub a u e
  · exact (s.rep k v m e).keep (upd_le nF) ⟨[], by simp⟩ fun a u _ h => h
  · show upd g.F p o a = none
    rw [upd_ne]
    · exact s.hid k a h
    · rintro rfl
      exact nf k h
/-- an object that nothing tells of is changed -/
theorem SatO.other (s : SatO K g own) (nf : ∀ k, p ∉ g.fp k) (nF : g.F p = none) : SatO K { g with H := upd g.H p o } own := by
  refine ⟨fun a u e => ?_, fun k v m e => ?_, s.emp, s.hid, s.dis⟩
  · show upd g.H p o a = some u
    rw [upd_ne (ne_of_none e nF)]
    exact s.sub a u e
  · exact (s.rep k v m e).keep (fun _ _ e => e) ⟨[], by simp⟩ fun a u ha h => by
      show upd g.H p o a = some u
      rw [upd_ne]
      · exact h
      · rintro rfl
        exact nf k ha
/-- another own that tells the same or less -/
theorem SatO.less (s : SatO K g own) {fp' : Ky → List Addr} (h : ∀ k v m, own' k = some (v, m) → own k = some (v, m) ∧ fp' k = g.fp k) (h0 : ∀ k, own' k = none → fp' k = []) :
    SatO K { g with fp := fp' } own' := by
  have sub : ∀ k a, a ∈ fp' k → a ∈ g.fp k := fun k a ha => by
    cases e : own' k with
    | none =>
      rw [h0 k e] at ha
      simp at ha
    | some x => rwa [← (h k x.1 x.2 e).2]
  exact ⟨s.sub, fun k v m e => by
    obtain ⟨h1, h2⟩ := h k v m e
    show RpM K g.js g.F g.H v m (fp' k)
    rw [h2]
    exact s.rep k v m h1, h0, fun k a ha => s.hid k a (sub k a ha), fun k k' a ha ha' => s.dis k k' a (sub k a ha) (sub k' a ha')⟩
theorem SatO.congr (s : SatO K g own) (h : ∀ k, own' k = own k) : SatO K g own' := by
  have : own' = own := funext h
  rw [this]
  exact s
end
end DD
/-! E2: what is done to owned things; a body's state. -/
namespace DD
open PySem L2 GG PySem.Spec PyProof.Rows
section
variable {K : PySem.W.Frag} {g : Gh} {own own' : Own} {k : Ky} {v : V} {m : MV} {p : Addr} {o : HO}
/-- something put at a key -/
theorem SatO.put (s : SatO K g own) {fp' : List Addr} (r : RpM K g.js g.F g.H v m fp') (hid : ∀ a ∈ fp', g.F a = none) (dis : ∀ a ∈ fp', ∀ k', k' ≠ k → a ∉ g.fp k') :
    SatO K { g with fp := setK g.fp k fp' } (setK own k (some (v, m))) := by
  refine ⟨s.sub, fun k' v' m' e => ?_, fun k' e => ?_, fun k' a h => ?_, fun k1 k2 a h1 h2 => ?_⟩
  · show RpM K g.js g.F g.H v' m' (setK g.fp k fp' k')
    by_cases z : k' = k
    · subst z
      rw [setK_same] at e ⊢
      cases e
      exact r
    · rw [setK_ne z] at e ⊢
      exact s.rep k' v' m' e
  · show setK g.fp k fp' k' = []
    by_cases z : k' = k
    · subst z
      rw [setK_same] at e
      cases e
    · rw [setK_ne z] at e ⊢
      exact s.emp k' e
  · have h : a ∈ setK g.fp k fp' k' := h
    by_cases z : k' = k
    · subst z
      rw [setK_same] at h
      exact hid a h
    · rw [setK_ne z] at h
      exact s.hid k' a h
  · have h1 : a ∈ setK g.fp k fp' k1 := h1
    have h2 : a ∈ setK g.fp k fp' k2 := h2
    by_cases z1 : k1 = k <;> by_cases z2 : k2 = k
    · rw [z1, z2]
    · rw [z1, setK_same] at h1
      rw [setK_ne z2] at h2
      exact absurd h2 (dis a h1 k2 z2)
    · rw [setK_ne z1] at h1
      rw [z2, setK_same] at h2
      exact absurd h1 (dis a h2 k1 z1)
    · rw [setK_ne z1] at h1
      rw [setK_ne z2] at h2
      exact s.dis k1 k2 a h1 h2
theorem SatO.drop (s : SatO K g own) : SatO K { g with fp := setK g.fp k [] } (setK own k none) := by
  refine s.less (fun k' v m e => ?_) fun k' e => ?_
  · by_cases z : k' = k
    · rw [z, setK_same] at e
      cases e
    · rw [setK_ne z] at e ⊢
      exact ⟨e, rfl⟩
  · by_cases z : k' = k
    · rw [z, setK_same]
    · rw [setK_ne z] at e ⊢
      exact s.emp k' e
theorem Ext.fps {fp' : Ky → List Addr} (h : ∀ k a, a ∈ fp' k → ∃ k', a ∈ g.fp k') : Ext g { g with fp := fp' } :=
  ⟨fun _ _ e => e, fun _ _ e _ => e, fun k a q => Or.inl (h k a q), fun _ h => Or.inl h, fun _ e => e, [], by simp⟩
theorem setK_sub {fp' : List Addr} (h : ∀ a ∈ fp', ∃ k', a ∈ g.fp k') : ∀ k' a, a ∈ setK g.fp k fp' k' → ∃ k'', a ∈ g.fp k'' := fun k' a q => by
  by_cases z : k' = k
  · rw [z, setK_same] at q
    exact h a q
  · rw [setK_ne z] at q
    exact ⟨k', q⟩
theorem Ext.drop : Ext g { g with fp := setK g.fp k [] } := Ext.fps (setK_sub fun a h => by simp at h)
/-- the thing at a key frozen -/
def Gh.frz (g : Gh) (k : Ky) : Gh := { g with F := fun a => if a ∈ g.fp k then g.H a else g.F a, fp := setK g.fp k [] }
theorem frz_le (s : SatO K g own) : ∀ a o, g.F a = some o → (g.frz k).F a = some o := fun a o e => by
  show (if a ∈ g.fp k then g.H a else g.F a) = some o
  split
  · exact s.sub a o e
  · exact e
theorem SatO.frz (s : SatO K g own) (e : own k = some (v, m)) : SatO K (g.frz k) (setK own k (some (v, .val m.frz))) ∧ Rp K g.js (g.frz k).F v m.frz := by
  have r := s.rep k v m e
  have le := frz_le (k := k) s
  have js : ∃ l, g.js = g.js ++ l := ⟨[], by simp⟩
  have at_ : ∀ a o, a ∈ g.fp k → g.H a = some o → (g.frz k).F a = some o := fun a o ha h => by
    show (if a ∈ g.fp k then g.H a else g.F a) = some o
    rw [if_pos ha]
    exact h
  have rp : Rp K g.js (g.frz k).F v m.frz := by
    generalize g.fp k = fp at r at_
    cases r with
    | val r => exact r.mono le js
    | lst h q => exact .lst (at_ _ _ List.mem_cons_self h) (q.mono le js)
    | dct h q => exact .dct (at_ _ _ List.mem_cons_self h) (q.mono le js)
    | obj h h2 q => exact .obj (at_ _ _ List.mem_cons_self h) (at_ _ _ (List.mem_cons_of_mem _ List.mem_cons_self) h2) (q.mono le js)
  refine ⟨⟨fun a o e => ?_, fun k' v' m' e' => ?_, fun k' e' => ?_, fun k' a h => ?_, fun k1 k2 a h1 h2 => ?_⟩, rp⟩
  · have e : (if a ∈ g.fp k then g.H a else g.F a) = some o := e
    split at e
    · exact e
    · exact s.sub a o e
  · show RpM K g.js (g.frz k).F g.H v' m' (setK g.fp k [] k')
    by_cases z : k' = k
    · rw [z, setK_same] at e' ⊢
      cases e'
      exact .val rp
    · rw [setK_ne z] at e' ⊢
      exact (s.rep k' v' m' e').keep le js fun a o _ h => h
  · show setK g.fp k [] k' = []
    by_cases z : k' = k
    · rw [z, setK_same]
    · rw [setK_ne z] at e' ⊢
      exact s.emp k' e'
  · have h : a ∈ setK g.fp k [] k' := h
    by_cases z : k' = k
    · rw [z, setK_same] at h
      simp at h
    · rw [setK_ne z] at h
      show (if a ∈ g.fp k then g.H a else g.F a) = none
      rw [if_neg fun q => z (s.dis k' k a h q)]
      exact s.hid k' a h
  · have h1 : a ∈ setK g.fp k [] k1 := h1
    have h2 : a ∈ setK g.fp k [] k2 := h2
    by_cases z1 : k1 = k
    · rw [z1, setK_same] at h1
      simp at h1
    · by_cases z2 : k2 = k
      · rw [z2, setK_same] at h2
        simp at h2
      · rw [setK_ne z1] at h1
        rw [setK_ne z2] at h2
        exact s.dis k1 k2 a h1 h2
theorem Ext.frz (s : SatO K g own) : Ext g (g.frz k) where
  F := frz_le s
  H := fun a o h _ => h
  fp := fun k' a h => Or.inl (setK_sub (k := k) (fun a h => by simp at h) k' a h)
  fr := fun a h => by
    have h : (if a ∈ g.fp k then g.H a else g.F a) ≠ none := h
    by_cases z : a ∈ g.fp k
    · exact Or.inr (Or.inl ⟨k, z⟩)
    · rw [if_neg z] at h
      exact Or.inl h
  dom := fun a h => h
  js := ⟨[], by simp [Gh.frz]⟩
/-- the heap changed at objects of one key alone, or at new ones, which become the key's -/
theorem SatO.mut (s : SatO K g own) {H' : Hp} {fp' : List Addr} (r : RpM K g.js g.F H' v m fp') (hn : ∀ a ∈ fp', a ∈ g.fp k ∨ g.H a = none)
    (hh : ∀ a o, a ∉ g.fp k → g.H a = some o → H' a = some o) :
    SatO K { g with H := H', fp := setK g.fp k fp' } (setK own k (some (v, m))) := by
  have s1 : SatO K { g with H := H', fp := setK g.fp k [] } (setK own k none) := by
    refine ⟨fun a o e => hh a o (fun z => ?_) (s.sub a o e), fun k' v' m' e => ?_, (s.drop (k := k)).emp, (s.drop (k := k)).hid, (s.drop (k := k)).dis⟩
    · rw [s.hid k a z] at e
      cases e
    · refine ((s.drop (k := k)).rep k' v' m' e).keep (fun _ _ e => e) ⟨[], by simp⟩ fun a o ha h => hh a o (fun z => ?_) h
      have ha : a ∈ setK g.fp k [] k' := ha
      by_cases q : k' = k
      · rw [q, setK_same] at ha
        simp at ha
      · rw [setK_ne q] at ha
        exact q (s.dis k' k a ha z)
  have s2 := s1.put (k := k) (v := v) (m := m) r (fun a ha => ?_) (fun a ha k' hk hc => ?_)
  · have e1 : setK (setK g.fp k []) k fp' = setK g.fp k fp' := by
      funext k'
      unfold setK
      split <;> rfl
    have e2 : setK (setK own k none) k (some (v, m)) = setK own k (some (v, m)) := by
      funext k'
      unfold setK
      split <;> rfl
    rw [e2] at s2
    have e3 : ({ g with H := H', fp := setK (setK g.fp k []) k fp' } : Gh) = { g with H := H', fp := setK g.fp k fp' } := by rw [e1]
    exact e3 ▸ s2
  · rcases hn a ha with h | h
    · exact s.hid k a h
    · exact s.new_F h
  · have hc : a ∈ setK g.fp k [] k' := hc
    rw [setK_ne hk] at hc
    rcases hn a ha with h | h
    · exact hk (s.dis k' k a hc h)
    · exact s.new_fp h hc
theorem Ext.mut (s : SatO K g own) {H' : Hp} {fp' : List Addr} (hn : ∀ a ∈ fp', a ∈ g.fp k ∨ g.H a = none)
    (hh : ∀ a o, a ∉ g.fp k → g.H a = some o → H' a = some o) (hd : ∀ a, H' a = none → g.H a = none) : Ext g { g with H := H', fp := setK g.fp k fp' } where
  F := fun _ _ e => e
  H := fun a o h n => hh a o (n k) h
  fp := fun k' a h => by
    have h : a ∈ setK g.fp k fp' k' := h
    by_cases z : k' = k
    · rw [z, setK_same] at h
      rcases hn a h with h | h
      · exact Or.inl ⟨k, h⟩
      · exact Or.inr h
    · rw [setK_ne z] at h
      exact Or.inl ⟨k', h⟩
  fr := fun a h => Or.inl h
  dom := hd
  js := ⟨[], by simp⟩
end

/-- a body's state: the locals by slot, the store -/
structure S where
  env : List (Option MV)
  sto : List MV
def ownS (js : List Addr) (σ : L2.St) (s : S) (r : Option (V × MV)) : Own
  | .L i => match s.env[i]?, σ[i]? with
    | some (some m), some (some v) => some (v, m)
    | _, _ => none
  | .S j => match s.sto[j]?, js[j]? with
    | some m, some a => some (.ref a, m)
    | _, _ => none
  | .R => r
structure Sat (K : PySem.W.Frag) (g : Gh) (σ : L2.St) (s : S) (r : Option (V × MV)) : Prop where
  o : SatO K g (ownS g.js σ s r)
  len : s.env.length = σ.length
  has : ∀ (i : Nat) (m : MV), s.env[i]? = some (some m) → ∃ v, σ[i]? = some (some v)
  jl : g.js.length = s.sto.length
def S.set (s : S) (i : Nat) (m : Option MV) : S := { s with env := s.env.set i m }
section
variable {K : PySem.W.Frag} {g : Gh} {σ : L2.St} {s : S} {r : Option (V × MV)} {v : V} {m : MV} {p : PV} {i j : Nat} {js : List Addr}
theorem ownS_L (h : s.env[i]? = some (some m)) (hv : σ[i]? = some (some v)) : ownS js σ s r (.L i) = some (v, m) := by
  simp [ownS, h, hv]
theorem ownS_L_inv (h : ownS js σ s r (.L i) = some (v, m)) : s.env[i]? = some (some m) ∧ σ[i]? = some (some v) := by
  simp only [ownS] at h
  split at h
  · rename_i h1 h2
    cases h
    exact ⟨h1, h2⟩
  · cases h
theorem ownS_set (hi : i < s.env.length) (hl : s.env.length = σ.length) : ownS js (σ.set i (some v)) (s.set i (some m)) r = setK (ownS js σ s r) (.L i) (some (v, m)) := by
  funext k
  cases k with
  | L n =>
    by_cases z : n = i
    · subst z
      rw [setK_same]
      exact ownS_L (by simp [S.set, hi]) (by simp [hl ▸ hi])
    · rw [setK_ne (by intro e; cases e; exact z rfl)]
      simp only [ownS, S.set]
      rw [List.getElem?_set_ne (fun e => z e.symm), List.getElem?_set_ne (fun e => z e.symm)]
  | S n => rw [setK_ne (by intro e; cases e)]; rfl
  | R => rw [setK_ne (by intro e; cases e)]; rfl
theorem ownS_env (hv : σ[i]? = some (some v)) (hi : i < s.env.length) : ownS js σ (s.set i (some m)) r = setK (ownS js σ s r) (.L i) (some (v, m)) := by
  funext k
  cases k with
  | L n =>
    by_cases z : n = i
    · subst z
      rw [setK_same]
      exact ownS_L (by simp [S.set, hi]) hv
    · rw [setK_ne (by intro e; cases e; exact z rfl)]
      simp only [ownS, S.set]
      rw [List.getElem?_set_ne (fun e => z e.symm)]
  | S n => rw [setK_ne (by intro e; cases e)]; rfl
  | R => rw [setK_ne (by intro e; cases e)]; rfl
theorem ownS_clr : ownS js σ (s.set i none) r = setK (ownS js σ s r) (.L i) none := by
  funext k
  cases k with
  | L n =>
    by_cases z : n = i
    · subst z
      rw [setK_same]
      simp only [ownS, S.set]
      by_cases hi : n < s.env.length
      · simp [hi]
      · simp [hi]
    · rw [setK_ne (by intro e; cases e; exact z rfl)]
      simp only [ownS, S.set]
      rw [List.getElem?_set_ne (fun e => z e.symm)]
  | S n => rw [setK_ne (by intro e; cases e)]; rfl
  | R => rw [setK_ne (by intro e; cases e)]; rfl
theorem ownS_R {r' : Option (V × MV)} : ownS js σ s r' = setK (ownS js σ s r) .R r' := by
  funext k
  cases k with
  | L n => rw [setK_ne (by intro e; cases e)]; rfl
  | S n => rw [setK_ne (by intro e; cases e)]; rfl
  | R => rw [setK_same]; rfl

/-- what a slot holds -/
theorem Sat.loc (h : Sat K g σ s r) (e : s.env[i]? = some (some m)) : ∃ v, σ[i]? = some (some v) ∧ RpM K g.js g.F g.H v m (g.fp (.L i)) := by
  obtain ⟨v, hv⟩ := h.has i m e
  exact ⟨v, hv, h.o.rep (.L i) v m (ownS_L e hv)⟩
theorem Sat.val (h : Sat K g σ s r) (e : s.env[i]? = some (some (.val p))) : ∃ v, σ[i]? = some (some v) ∧ Rp K g.js g.F v p := by
  obtain ⟨v, hv, q⟩ := h.loc e
  generalize g.fp (.L i) = fp at q
  cases q with
  | val q => exact ⟨v, hv, q⟩
theorem lt_of_get {α : Type} {l : List α} {x : α} (e : l[i]? = some x) : i < l.length := (List.getElem?_eq_some_iff.mp e).1
theorem Sat.newF {p : Addr} {o : HO} (h : Sat K g σ s r) (n : g.H p = none) : Sat K (g.newF p o) σ s r := ⟨h.o.newF n, h.len, h.has, h.jl⟩
theorem Rp.ext {g' : Gh} (e : Ext g g') (h : Rp K g.js g.F v p) : Rp K g'.js g'.F v p := h.mono e.F e.js
theorem RpA.ext {g' : Gh} {vs : List V} {ps : List PV} (e : Ext g g') (h : RpA K g.js g.F vs ps) : RpA K g'.js g'.F vs ps := h.mono e.F e.js
/-- a frozen value in the heap -/
theorem Rp.inH (h : Sat K g σ s r) (q : Rp K g.js g.F v p) : Rp K g.js g.H v p := q.mono h.o.sub ⟨[], by simp⟩
theorem RpA.inH {vs : List V} {ps : List PV} (h : Sat K g σ s r) (q : RpA K g.js g.F vs ps) : RpA K g.js g.H vs ps := q.mono h.o.sub ⟨[], by simp⟩
/-- the content of a slot, as it is now, in the heap -/
theorem Sat.peek (h : Sat K g σ s r) (e : s.env[i]? = some (some m)) : ∃ v, σ[i]? = some (some v) ∧ Rp K g.js g.H v m.frz := by
  obtain ⟨v, hv, q⟩ := h.loc e
  refine ⟨v, hv, ?_⟩
  generalize g.fp (.L i) = fp at q
  cases q with
  | val q => exact q.inH h
  | lst a q => exact .lst a (q.inH h)
  | dct a q => exact .dct a (q.inH h)
  | obj a b q => exact .obj a b (q.inH h)
theorem has_set {o : Option V} (h : Sat K g σ s r) (hi : i < s.env.length) : ∀ (n : Nat) (m' : MV), (s.set i (some m)).env[n]? = some (some m') → ∃ v', (σ.set i (some v))[n]? = some (some v') := fun n m' e => by
  by_cases z : n = i
  · subst z
    exact ⟨v, by simp [h.len ▸ hi]⟩
  · have e : (s.env.set i (some m))[n]? = some (some m') := e
    rw [List.getElem?_set_ne (fun e => z e.symm)] at e ⊢
    exact h.has n m' e
theorem has_env (h : Sat K g σ s r) (hv : σ[i]? = some (some v)) {o : Option MV} : ∀ (n : Nat) (m' : MV), (s.set i o).env[n]? = some (some m') → ∃ v', σ[n]? = some (some v') := fun n m' e => by
  by_cases z : n = i
  · subst z
    exact ⟨v, hv⟩
  · have e : (s.env.set i o)[n]? = some (some m') := e
    rw [List.getElem?_set_ne (fun e => z e.symm)] at e
    exact h.has n m' e
theorem has_clr (h : Sat K g σ s r) : ∀ (n : Nat) (m' : MV), (s.set i none).env[n]? = some (some m') → ∃ v', σ[n]? = some (some v') := fun n m' e => by
  by_cases z : n = i
  · subst z
    have e : (s.env.set n none)[n]? = some (some m') := e
    by_cases hi : n < s.env.length
    · simp [hi] at e
    · simp [hi] at e
  · have e : (s.env.set i none)[n]? = some (some m') := e
    rw [List.getElem?_set_ne (fun e => z e.symm)] at e
    exact h.has n m' e
/-- a frozen value into a slot -/
theorem Sat.setVal (h : Sat K g σ s r) (hi : i < s.env.length) (q : Rp K g.js g.F v p) :
    Sat K { g with fp := setK g.fp (.L i) [] } (σ.set i (some v)) (s.set i (some (.val p))) r ∧ Ext g { g with fp := setK g.fp (.L i) [] } := by
  refine ⟨⟨?_, by simp [S.set, h.len], has_set (o := none) h hi, h.jl⟩, Ext.drop⟩
  have e := ownS_set (js := g.js) (r := r) (v := v) (m := .val p) hi h.len
  rw [show ({ g with fp := setK g.fp (.L i) [] } : Gh).js = g.js from rfl, e]
  exact h.o.put (.val q) (fun a ha => by simp at ha) fun a ha => by simp at ha
/-- a slot frozen -/
theorem Sat.frz (h : Sat K g σ s r) (e : s.env[i]? = some (some m)) : ∃ v, σ[i]? = some (some v) ∧ Sat K (g.frz (.L i)) σ (s.set i (some (.val m.frz))) r ∧ Ext g (g.frz (.L i)) ∧ Rp K g.js (g.frz (.L i)).F v m.frz := by
  obtain ⟨v, hv⟩ := h.has i m e
  obtain ⟨h1, h2⟩ := h.o.frz (ownS_L (r := r) (js := g.js) e hv)
  refine ⟨v, hv, ⟨?_, by simp [S.set, h.len], has_env h hv, h.jl⟩, Ext.frz h.o, h2⟩
  rw [show (g.frz (.L i)).js = g.js from rfl, ownS_env (r := r) (js := g.js) (m := .val m.frz) hv (lt_of_get e)]
  exact h1
/-- the register frozen -/
theorem Sat.frzR (h : Sat K g σ s (some (v, m))) : Sat K (g.frz .R) σ s none ∧ Ext g (g.frz .R) ∧ Rp K g.js (g.frz .R).F v m.frz := by
  obtain ⟨h1, h2⟩ := h.o.frz (k := .R) (v := v) (m := m) rfl
  have h3 := h1.drop (k := .R)
  refine ⟨⟨?_, h.len, h.has, h.jl⟩, Ext.frz h.o, h2⟩
  have e1 : ({ g.frz .R with fp := setK (g.frz .R).fp .R [] } : Gh) = g.frz .R := by
    have : setK (setK g.fp .R []) .R [] = setK g.fp .R [] := by
      funext k
      unfold setK
      split <;> rfl
    show ({ g.frz .R with fp := setK (setK g.fp .R []) .R [] } : Gh) = _
    rw [this]
    rfl
  rw [e1] at h3
  refine h3.congr fun k => ?_
  cases k <;> rfl
/-- something owned, made anew, in the register -/
theorem Sat.newR {H' : Hp} {fp : List Addr} (h : Sat K g σ s none) (q : RpM K g.js g.F H' v m fp) (hn : ∀ a ∈ fp, g.H a = none) (hh : ∀ a o, g.H a = some o → H' a = some o) :
    Sat K { g with H := H', fp := setK g.fp .R fp } σ s (some (v, m)) ∧ Ext g { g with H := H', fp := setK g.fp .R fp } := by
  refine ⟨⟨?_, h.len, h.has, h.jl⟩, Ext.mut (K := K) h.o (fun a ha => Or.inr (hn a ha)) (fun a o _ e => hh a o e) fun a e => ?_⟩
  · have := h.o.mut (k := .R) q (fun a ha => Or.inr (hn a ha)) fun a o _ e => hh a o e
    rw [show ({ g with H := H', fp := setK g.fp .R fp } : Gh).js = g.js from rfl, ownS_R (r := none)]
    exact this
  · cases z : g.H a with
    | none => rfl
    | some o =>
      rw [hh a o z] at e
      cases e
/-- the register's thing into a slot -/
theorem Sat.setR (h : Sat K g σ s (some (v, m))) (hi : i < s.env.length) :
    Sat K { g with fp := setK (setK g.fp .R []) (.L i) (g.fp .R) } (σ.set i (some v)) (s.set i (some m)) none ∧ Ext g { g with fp := setK (setK g.fp .R []) (.L i) (g.fp .R) } := by
  have h1 := h.o.drop (k := .R)
  have h2 := h1.put (k := .L i) (v := v) (m := m) (fp' := g.fp .R) (h.o.rep .R v m rfl) (fun a ha => h.o.hid .R a ha) (fun a ha k' hk hc => by
    have hc : a ∈ setK g.fp .R [] k' := hc
    by_cases z : k' = .R
    · rw [z, setK_same] at hc
      simp at hc
    · rw [setK_ne z] at hc
      exact z (h.o.dis k' .R a hc ha))
  refine ⟨⟨?_, by simp [S.set, h.len], has_set (o := none) h hi, h.jl⟩, ?_⟩
  · refine h2.congr fun k => ?_
    rw [show ({ g with fp := setK (setK g.fp .R []) (.L i) (g.fp .R) } : Gh).js = g.js from rfl, ownS_set hi h.len, ownS_R (r := some (v, m))]
  · refine Ext.fps fun k a ha => ?_
    by_cases z : k = .L i
    · rw [z, setK_same] at ha
      exact ⟨.R, ha⟩
    · rw [setK_ne z] at ha
      by_cases z2 : k = .R
      · rw [z2, setK_same] at ha
        simp at ha
      · rw [setK_ne z2] at ha
        exact ⟨k, ha⟩
/-- a slot's thing into the register -/
theorem Sat.getR (h : Sat K g σ s none) (e : s.env[i]? = some (some m)) : ∃ v, σ[i]? = some (some v) ∧
    Sat K { g with fp := setK (setK g.fp (.L i) []) .R (g.fp (.L i)) } σ (s.set i none) (some (v, m)) ∧ Ext g { g with fp := setK (setK g.fp (.L i) []) .R (g.fp (.L i)) } := by
  obtain ⟨v, hv⟩ := h.has i m e
  have h0 := ownS_L (r := none) (js := g.js) e hv
  have h1 := h.o.drop (k := .L i)
  have h2 := h1.put (k := .R) (v := v) (m := m) (fp' := g.fp (.L i)) (h.o.rep (.L i) v m h0) (fun a ha => h.o.hid (.L i) a ha) (fun a ha k' hk hc => by
    have hc : a ∈ setK g.fp (.L i) [] k' := hc
    by_cases z : k' = .L i
    · rw [z, setK_same] at hc
      simp at hc
    · rw [setK_ne z] at hc
      exact z (h.o.dis k' (.L i) a hc ha))
  refine ⟨v, hv, ⟨?_, by simp [S.set, h.len], has_clr h, h.jl⟩, ?_⟩
  · refine h2.congr fun k => ?_
    rw [show ({ g with fp := setK (setK g.fp (.L i) []) .R (g.fp (.L i)) } : Gh).js = g.js from rfl, ownS_R (r := none), ownS_clr]
  · refine Ext.fps fun k a ha => ?_
    by_cases z : k = .R
    · rw [z, setK_same] at ha
      exact ⟨.L i, ha⟩
    · rw [setK_ne z] at ha
      by_cases z2 : k = .L i
      · rw [z2, setK_same] at ha
        simp at ha
      · rw [setK_ne z2] at ha
        exact ⟨k, ha⟩
/-- a slot's thing changed -/
theorem Sat.mut {H' : Hp} {fp : List Addr} {m' : MV} (h : Sat K g σ s r) (e : s.env[i]? = some (some m)) (hv : σ[i]? = some (some v)) (q : RpM K g.js g.F H' v m' fp)
    (hn : ∀ a ∈ fp, a ∈ g.fp (.L i) ∨ g.H a = none) (hh : ∀ a o, a ∉ g.fp (.L i) → g.H a = some o → H' a = some o) (hd : ∀ a, H' a = none → g.H a = none) :
    Sat K { g with H := H', fp := setK g.fp (.L i) fp } σ (s.set i (some m')) r ∧ Ext g { g with H := H', fp := setK g.fp (.L i) fp } := by
  refine ⟨⟨?_, by simp [S.set, h.len], has_env h hv, h.jl⟩, Ext.mut (K := K) h.o hn hh hd⟩
  rw [show ({ g with H := H', fp := setK g.fp (.L i) fp } : Gh).js = g.js from rfl, ownS_env hv (lt_of_get e)]
  exact h.o.mut q hn hh
theorem Sat.adopt {p : Addr} {o : HO} (h : Sat K g σ s r) (hp : g.H p = some o) (nf : ∀ k, p ∉ g.fp k) (nF : g.F p = none) : Sat K { g with F := upd g.F p o } σ s r := ⟨h.o.adopt hp nf nF, h.len, h.has, h.jl⟩
theorem Sat.other {p : Addr} {o : HO} (h : Sat K g σ s r) (nf : ∀ k, p ∉ g.fp k) (nF : g.F p = none) : Sat K { g with H := upd g.H p o } σ s r := ⟨h.o.other nf nF, h.len, h.has, h.jl⟩
end
end DD
/-! E3: judgements: what a piece of text computes, as a function of the body's state. -/
namespace DD
open PySem L2 GG PySem.Spec PyProof.Rows

/-- v is p now: frozen, or an owned thing with that content -/
def Pk (K : PySem.W.Frag) (g : Gh) (v : V) (p : PV) : Prop := ∃ m fp, RpM K g.js g.F g.H v m fp ∧ m.frz = p
section
variable {K : PySem.W.Frag} {g : Gh} {σ : L2.St} {s : S} {r : Option (V × MV)} {v : V} {p : PV}
theorem Rp.pk (h : Rp K g.js g.F v p) : Pk K g v p := ⟨.val p, [], .val h, rfl⟩
theorem Pk.inH (h : Sat K g σ s r) (q : Pk K g v p) : Rp K g.js g.H v p := by
  obtain ⟨m, fp, q, rfl⟩ := q
  cases q with
  | val q => exact q.inH h
  | lst a q => exact .lst a (q.inH h)
  | dct a q => exact .dct a (q.inH h)
  | obj a b q => exact .obj a b (q.inH h)
theorem Pk.lst {ps : List PV} (h : Sat K g σ s r) (q : Pk K g v (.lst ps)) : ∃ a vs, v = .ref a ∧ g.H a = some (.lst vs) ∧ RpA K g.js g.F vs ps := by
  obtain ⟨m, fp, q, e⟩ := q
  cases q with
  | val q =>
    cases e
    cases q with
    | lst a q => exact ⟨_, _, rfl, h.o.sub _ _ a, q⟩
  | lst a q =>
    cases e
    exact ⟨_, _, rfl, a, q⟩
  | dct a q => cases e
  | obj a b q => cases e
theorem Pk.tup {ps : List PV} (h : Sat K g σ s r) (q : Pk K g v (.tup ps)) : ∃ a vs, v = .ref a ∧ SqT K g.H a vs ∧ RpA K g.js g.F vs ps := by
  obtain ⟨m, fp, q, e⟩ := q
  cases q with
  | val q =>
    cases e
    cases q with
    | tup a q => exact ⟨_, _, rfl, SqT.le h.o.sub a, q⟩
  | lst a q => cases e
  | dct a q => cases e
  | obj a b q => cases e
theorem Pk.obj {C : Addr} {fs : List Str} {ps : List PV} (h : Sat K g σ s r) (q : Pk K g v (.obj C fs ps)) :
    ∃ a dx vs, v = .ref a ∧ g.H a = some (.ins C dx vs) ∧ vs.map (·.1) = fs ∧ RpA K g.js g.F (vs.map (·.2)) ps := by
  obtain ⟨m, fp, q, e⟩ := q
  cases q with
  | val q =>
    cases e
    cases q with
    | obj a b q => exact ⟨_, _, _, rfl, h.o.sub _ _ a, rfl, q⟩
  | lst a q => cases e
  | dct a q => cases e
  | obj a b q =>
    cases e
    exact ⟨_, _, _, rfl, a, rfl, q⟩
theorem Pk.int {i : Int} (q : Pk K g v (.int i)) : v = .int i := by
  obtain ⟨m, fp, q, e⟩ := q
  cases q <;> cases e
  rename_i q
  cases q
  rfl
theorem Pk.bl {b : Bool} (q : Pk K g v (.bl b)) : v = .bl b := by
  obtain ⟨m, fp, q, e⟩ := q
  cases q <;> cases e
  rename_i q
  cases q
  rfl
theorem Pk.str {x : Str} (q : Pk K g v (.str x)) : v = .str x := by
  obtain ⟨m, fp, q, e⟩ := q
  cases q <;> cases e
  rename_i q
  cases q
  rfl
theorem Pk.non (q : Pk K g v .non) : v = .non := by
  obtain ⟨m, fp, q, e⟩ := q
  cases q <;> cases e
  rename_i q
  cases q
  rfl
theorem Pk.ty {n : String} (q : Pk K g v (.ty n)) : v = .ty n := by
  obtain ⟨m, fp, q, e⟩ := q
  cases q <;> cases e
  rename_i q
  cases q
  rfl
end

/-! ### readings -/
abbrev DF := S → Option (PV × S)
abbrev OF := S → Option (MV × S)
abbrev PF := S → Option ((S → Option PV) × S)
abbrev TF := S → Option (Bool × S)
inductive Out where
  | nx (s : S) | rt (m : MV) (s : S) | bk (s : S) | ct (s : S)
abbrev SF := S → Option Out
def tD (K : PySem.W.Frag) (f : DF) : TE := fun σ H Q => ∃ g s p s', g.H = H ∧ Sat K g σ s none ∧ f s = some (p, s') ∧
  ∀ v g', Sat K g' σ s' none → Ext g g' → Rp K g'.js g'.F v p → Q v g'.H
def tO (K : PySem.W.Frag) (f : OF) : TE := fun σ H Q => ∃ g s m s', g.H = H ∧ Sat K g σ s none ∧ f s = some (m, s') ∧
  ∀ v g', Sat K g' σ s' (some (v, m)) → Ext g g' → Q v g'.H
def tP (K : PySem.W.Frag) (f : PF) : TE := fun σ H Q => ∃ g s rd s', g.H = H ∧ Sat K g σ s none ∧ f s = some (rd, s') ∧
  ∀ v g', Sat K g' σ s' none → Ext g g' → (∀ g2 s2 p, Sat K g2 σ s2 none → Ext g' g2 → rd s2 = some p → Pk K g2 v p) → Q v g'.H
def tTt (K : PySem.W.Frag) (f : TF) : TT := fun σ H Q => ∃ g s b s', g.H = H ∧ Sat K g σ s none ∧ f s = some (b, s') ∧
  ∀ g', Sat K g' σ s' none → Ext g g' → Q b g'.H
def Pin (io : List Nat) (σ σ' : L2.St) : Prop := ∀ i ∈ io, σ'[i]? = σ[i]?
theorem Pin.refl {io : List Nat} {σ : L2.St} : Pin io σ σ := fun _ _ => rfl
theorem Pin.trans {io : List Nat} {a b c : L2.St} (e : Pin io a b) (f : Pin io b c) : Pin io a c := fun i h => (f i h).trans (e i h)
theorem Pin.set {io : List Nat} {σ : L2.St} {i : Nat} {v : Option V} (h : i ∉ io) : Pin io σ (σ.set i v) := fun j hj => by
  rw [List.getElem?_set_ne]
  rintro rfl
  exact h hj
def Fin (K : PySem.W.Frag) (io : List Nat) (g : Gh) (σ : L2.St) (D : Ends) : Out → Prop
  | .nx s' => ∀ σ' g', Sat K g' σ' s' none → Ext g g' → Pin io σ σ' → D.nx σ' g'.H
  | .rt m s' => ∀ v σ' g', Sat K g' σ' s' (some (v, m)) → Ext g g' → Pin io σ σ' → D.rt v g'.H
  | .bk s' => ∀ σ' g', Sat K g' σ' s' none → Ext g g' → Pin io σ σ' → D.bk σ' g'.H
  | .ct s' => ∀ σ' g', Sat K g' σ' s' none → Ext g g' → Pin io σ σ' → D.ct σ' g'.H
def tSt (K : PySem.W.Frag) (io : List Nat) (f : SF) : TS := fun D σ H => ∃ g s o, g.H = H ∧ Sat K g σ s none ∧ f s = some o ∧ Fin K io g σ D o
/-- a target's storing: the slots that it may change -/
abbrev GF := PV → S → Option S
def Only (ts : List Nat) (σ σ' : L2.St) : Prop := σ'.length = σ.length ∧ ∀ i, i ∉ ts → σ'[i]? = σ[i]?
def tG (K : PySem.W.Frag) (ts : List Nat) (f : GF) : TG := fun v σ H Q => ∃ g s p s', g.H = H ∧ Sat K g σ s none ∧ Rp K g.js g.F v p ∧ f p s = some s' ∧
  ∀ σ' g', Sat K g' σ' s' none → Ext g g' → Only ts σ σ' → Q σ' g'.H
abbrev AF := S → Option (List (S → Option MV) × S)
abbrev DE (X : Cx) (e : Expr) (f : DF) : Prop := PE X e (tD X.K f)
abbrev DO (X : Cx) (e : Expr) (f : OF) : Prop := PE X e (tO X.K f)
abbrev DP (X : Cx) (e : Expr) (f : PF) : Prop := PE X e (tP X.K f)
abbrev DT (X : Cx) (e : Expr) (f : TF) : Prop := PT X e (tTt X.K f)
abbrev DS (X : Cx) (io : List Nat) (st : Stmt) (f : SF) : Prop := PS X st (tSt X.K io f)
abbrev DSs (X : Cx) (io : List Nat) (st : List Stmt) (f : SF) : Prop := PSs X st (tSt X.K io f)
abbrev DG (X : Cx) (ts : List Nat) (e : Expr) (f : GF) : Prop := PG X e (tG X.K ts f)

section
variable {X : Cx} {e : Expr} {t t' : TE}
theorem PE.imp (h : PE X e t) (i : ∀ σ H Q, t' σ H Q → t σ H Q) : PE X e t' := ⟨fun pins s σ H Q I q => h.run pins s σ H Q I (i σ H Q q)⟩
theorem PT.imp {t t' : TT} (h : PT X e t) (i : ∀ σ H Q, t' σ H Q → t σ H Q) : PT X e t' := ⟨fun pins s σ H Q I q => h.run pins s σ H Q I (i σ H Q q)⟩
theorem PS.imp {st : Stmt} {t t' : TS} (h : PS X st t) (i : ∀ D σ H, t' D σ H → t D σ H) : PS X st t' := ⟨fun pins s σ H D I q => h.run pins s σ H D I (i D σ H q)⟩
theorem PSs.imp {st : List Stmt} {t t' : TS} (h : PSs X st t) (i : ∀ D σ H, t' D σ H → t D σ H) : PSs X st t' := ⟨fun pins s σ H D I q => h.run pins s σ H D I (i D σ H q)⟩
theorem PG.imp {t t' : TG} (h : PG X e t) (i : ∀ v σ H Q, t' v σ H Q → t v σ H Q) : PG X e t' := ⟨fun pins s σ H v u Q I r q => h.run pins s σ H v u Q I r (i v σ H Q q)⟩
end

/-! ### names, constants -/
def dVal (i : Nat) : DF := fun s => match s.env[i]? with
  | some (some (.val p)) => some (p, s)
  | some (some m) => some (m.frz, s.set i (some (.val m.frz)))
  | _ => none
def dC (p : PV) : DF := fun s => some (p, s)
def pLate (i : Nat) : PF := fun s => match s.env[i]? with
  | some (some _) => some (fun s' => match s'.env[i]? with
    | some (some m) => some m.frz
    | _ => none, s)
  | _ => none
def dFrz (f : OF) : DF := fun s => (f s).map fun a => (a.1.frz, a.2)
def pNow (f : DF) : PF := fun s => (f s).map fun a => (fun _ => some a.1, a.2)
section
variable {X : Cx} {x : Str} {pos : Pos} {i : Nat} {e : Expr}
theorem de_name (hN : X.N[i]? = some x) (hv : Vis X.env.scope x) (hd : (x == ("__debug__" : Str)) = false := by decide) (hcd : (x == ("__classdict__" : Str)) = false := by decide) : DE X (.Name x pos) (dVal i) := by
  refine PE.imp (pe_var hN hv hd hcd) ?_
  rintro σ H Q ⟨g, s, p, s', rfl, hs, hf, k⟩
  unfold dVal at hf
  split at hf
  · rename_i q hq
    cases hf
    obtain ⟨v, hv, r⟩ := hs.val hq
    exact ⟨v, hv, k v g hs (Ext.refl g) r⟩
  · rename_i m _ hq
    cases hf
    obtain ⟨v, hv, h1, h2, h3⟩ := hs.frz hq
    exact ⟨v, hv, k v (g.frz (.L i)) h1 h2 h3⟩
  · cases hf
theorem dp_name (hN : X.N[i]? = some x) (hv : Vis X.env.scope x) (hd : (x == ("__debug__" : Str)) = false := by decide) (hcd : (x == ("__classdict__" : Str)) = false := by decide)  : DP X (.Name x pos) (pLate i) := by
  refine PE.imp (pe_var hN hv hd hcd) ?_
  rintro σ H Q ⟨g, s, rd, s', rfl, hs, hf, k⟩
  unfold pLate at hf
  split at hf
  · rename_i m hq
    cases hf
    obtain ⟨v, hv, r⟩ := hs.loc hq
    refine ⟨v, hv, k v g hs (Ext.refl g) fun g2 s2 p h2 e2 hr => ?_⟩
    dsimp only at hr
    split at hr
    · rename_i m2 hq2
      cases hr
      obtain ⟨v2, hv2, r2⟩ := h2.loc hq2
      rw [hv] at hv2
      cases hv2
      exact ⟨m2, _, r2, rfl⟩
    · cases hr
  · cases hf
theorem dp_of {f : DF} (h : DE X e f) : DP X e (pNow f) := by
  refine PE.imp h ?_
  rintro σ H Q ⟨g, s, rd, s', rfl, hs, hf, k⟩
  unfold pNow at hf
  cases hp : f s with
  | none =>
    rw [hp] at hf
    cases hf
  | some a =>
    rw [hp] at hf
    cases hf
    refine ⟨g, s, a.1, a.2, rfl, hs, hp, fun v g' h1 h2 r => k v g' h1 h2 fun g2 s2 p _ e2 hr => ?_⟩
    cases hr
    exact (r.ext e2).pk
theorem de_frz {f : OF} (h : DO X e f) : DE X e (dFrz f) := by
  refine PE.imp h ?_
  rintro σ H Q ⟨g, s, p, s', rfl, hs, hf, k⟩
  unfold dFrz at hf
  cases hp : f s with
  | none =>
    rw [hp] at hf
    cases hf
  | some a =>
    rw [hp] at hf
    cases hf
    refine ⟨g, s, a.1, a.2, rfl, hs, hp, fun v g' h1 h2 => ?_⟩
    obtain ⟨h3, h4, h5⟩ := h1.frzR
    exact k v (g'.frz .R) h3 (h2.trans h4) h5
theorem de_const {v : V} {p : PV} (h : PE X e (tC v)) (hr : ∀ K js F, Rp K js F v p) : DE X e (dC p) := by
  refine PE.imp h ?_
  rintro σ H Q ⟨g, s, q, s', rfl, hs, hf, k⟩
  cases hf
  exact k v g hs (Ext.refl g) (hr _ _ _)
theorem de_int {i : Int} {j pos} : DE X (.Constant (.int i) j pos) (dC (.int i)) := de_const pe_int fun _ _ _ => .int i
theorem de_bl {b : Bool} {j pos} : DE X (.Constant (.bool b) j pos) (dC (.bl b)) := de_const pe_bl fun _ _ _ => .bl b
theorem de_non {j pos} : DE X (.Constant .none j pos) (dC .non) := de_const pe_non fun _ _ _ => .non
theorem de_str {x : Str} {j pos} : DE X (.Constant (.str x) j pos) (dC (.str x)) := de_const pe_str fun _ _ _ => .str x
end

/-! ### operators, comparisons -/
/-- an operator's values -/
def OpD (X : Cx) (op : Value → Value → Sem Value) (fo : PV → PV → Option PV) : Prop := ∃ r : R2, OpR X op r ∧
  ∀ (g : Gh) (σ : L2.St) (s : S) (x y : V) (p q z : PV) (Q : VK), Sat X.K g σ s none → Pk X.K g x p → Pk X.K g y q → fo p q = some z →
    (∀ v g', Sat X.K g' σ s none → Ext g g' → Rp X.K g'.js g'.F v z → Q v g'.H) → r x y g.H Q
def dOp (fo : PV → PV → Option PV) (fa fb : PF) : DF := fun s => (fa s).bind fun a => (fb a.2).bind fun b => (a.1 b.2).bind fun p => (b.1 b.2).bind fun q => (fo p q).map fun z => (z, b.2)
theorem bind_inv {α β : Type} {x : Option α} {f : α → Option β} {z : β} (h : x.bind f = some z) : ∃ a, x = some a ∧ f a = some z := Option.bind_eq_some_iff.mp h
theorem map_inv {α β : Type} {x : Option α} {f : α → β} {z : β} (h : x.map f = some z) : ∃ a, x = some a ∧ f a = z := Option.map_eq_some_iff.mp h
section
variable {X : Cx} {a b c e : Expr} {pos : Pos} {fa fb fc : PF}
theorem de_opG {op : Value → Value → Sem Value} {fo : PV → PV → Option PV} (ho : OpD X op fo) (h : ∀ r : R2, OpR X op r → PE X e (tOp r (tP X.K fa) (tP X.K fb))) : DE X e (dOp fo fa fb) := by
  obtain ⟨r, h1, h2⟩ := ho
  refine PE.imp (h r h1) ?_
  rintro σ H Q ⟨g, s, z, s', rfl, hs, hf, k⟩
  obtain ⟨ra, ea, hf⟩ := bind_inv hf
  obtain ⟨rb, eb, hf⟩ := bind_inv hf
  obtain ⟨p, ep, hf⟩ := bind_inv hf
  obtain ⟨q, eq, hf⟩ := bind_inv hf
  obtain ⟨z', ez, hf⟩ := map_inv hf
  cases hf
  refine ⟨g, s, ra.1, ra.2, rfl, hs, ea, fun x g1 s1 e1 r1 => ⟨g1, ra.2, rb.1, rb.2, rfl, s1, eb, fun y g2 s2 e2 r2 => ?_⟩⟩
  exact h2 g2 σ _ x y p q _ Q s2 (r1 g2 _ p s2 e2 ep) (r2 g2 _ q s2 (Ext.refl _) eq) ez fun v g3 s3 e3 r3 => k v g3 s3 ((e1.trans e2).trans e3) r3
theorem de_op {op : Operator} {fo : PV → PV → Option PV} (ho : OpD X (binaryOp op) fo) (ha : DP X a fa) (hb : DP X b fb) : DE X (.BinOp a op b pos) (dOp fo fa fb) :=
  de_opG ho fun r h => pe_op h ha hb
theorem de_cmp {op : CmpOp} {fo : PV → PV → Option PV} (ho : OpD X (compareOp op) fo) (ha : DP X a fa) (hb : DP X b fb) (hm : behindInMarks op b = false) : DE X (.Compare a [op] [b] pos) (dOp fo fa fb) :=
  de_opG ho fun r h => pe_cmpR h ha hb hm
theorem de_ix {fo : PV → PV → Option PV} (ho : ∃ r : R2, IxR X r ∧
  ∀ (g : Gh) (σ : L2.St) (s : S) (x y : V) (p q z : PV) (Q : VK), Sat X.K g σ s none → Pk X.K g x p → Pk X.K g y q → fo p q = some z →
    (∀ v g', Sat X.K g' σ s none → Ext g g' → Rp X.K g'.js g'.F v z → Q v g'.H) → r x y g.H Q) (ha : DP X a fa) (hb : DP X b fb) (hs : PlainIx b) : DE X (.Subscript a b pos) (dOp fo fa fb) := by
  obtain ⟨r, h1, h2⟩ := ho
  refine PE.imp (pe_ix h1 ha hb hs) ?_
  rintro σ H Q ⟨g, s, z, s', rfl, hs, hf, k⟩
  obtain ⟨ra, ea, hf⟩ := bind_inv hf
  obtain ⟨rb, eb, hf⟩ := bind_inv hf
  obtain ⟨p, ep, hf⟩ := bind_inv hf
  obtain ⟨q, eq, hf⟩ := bind_inv hf
  obtain ⟨z', ez, hf⟩ := map_inv hf
  cases hf
  refine ⟨g, s, ra.1, ra.2, rfl, hs, ea, fun x g1 s1 e1 r1 => ⟨g1, ra.2, rb.1, rb.2, rfl, s1, eb, fun y g2 s2 e2 r2 => ?_⟩⟩
  exact h2 g2 σ _ x y p q _ Q s2 (r1 g2 _ p s2 e2 ep) (r2 g2 _ q s2 (Ext.refl _) eq) ez fun v g3 s3 e3 r3 => k v g3 s3 ((e1.trans e2).trans e3) r3
/-- an operator of one operand -/
def UnD (X : Cx) (op : Value → Sem Value) (fo : PV → Option PV) : Prop := ∃ r : V → Hp → VK → Prop, UnR X op r ∧
  ∀ (g : Gh) (σ : L2.St) (s : S) (x : V) (p z : PV) (Q : VK), Sat X.K g σ s none → Pk X.K g x p → fo p = some z →
    (∀ v g', Sat X.K g' σ s none → Ext g g' → Rp X.K g'.js g'.F v z → Q v g'.H) → r x g.H Q
def dUn (fo : PV → Option PV) (fa : PF) : DF := fun s => (fa s).bind fun a => (a.1 a.2).bind fun p => (fo p).map fun z => (z, a.2)
theorem de_un {op : UnaryOp} {fo : PV → Option PV} (ho : UnD X (unaryOp op) fo) (ha : DP X a fa) : DE X (.UnaryOp op a pos) (dUn fo fa) := by
  obtain ⟨r, h1, h2⟩ := ho
  refine PE.imp (pe_un h1 ha) ?_
  rintro σ H Q ⟨g, s, z, s', rfl, hs, hf, k⟩
  obtain ⟨ra, ea, hf⟩ := bind_inv hf
  obtain ⟨p, ep, hf⟩ := bind_inv hf
  obtain ⟨z', ez, hf⟩ := map_inv hf
  cases hf
  refine ⟨g, s, ra.1, ra.2, rfl, hs, ea, fun x g1 s1 e1 r1 => ?_⟩
  exact h2 g1 σ _ x p _ Q s1 (r1 g1 _ p s1 (Ext.refl _) ep) ez fun v g3 s3 e3 r3 => k v g3 s3 (e1.trans e3) r3
end

/-! ### tests -/
def tCmp (fo : PV → PV → Option PV) (fa fb : PF) : TF := fun s => (dOp fo fa fb s).bind fun a => match a.1 with
  | .bl b => some (b, a.2)
  | _ => none
def tOf (f : DF) : TF := fun s => (f s).bind fun a => match a.1 with
  | .bl b => some (b, a.2)
  | _ => none
def tAnd (fa fb : TF) : TF := fun s => (fa s).bind fun a => if a.1 = true then fb a.2 else some (false, a.2)
def tOr (fa fb : TF) : TF := fun s => (fa s).bind fun a => if a.1 = true then some (true, a.2) else fb a.2
def tNot (fa : TF) : TF := fun s => (fa s).map fun a => (!a.1, a.2)
/-- a test whatever its whole is -/
abbrev DW (X : Cx) (e : Expr) (f : TF) : Prop := PW X e (tTt X.K f)
section
variable {X : Cx} {a b e : Expr} {rest : List Expr} {pos : Pos} {fa fb : PF} {ta tb : TF} {f : DF}
theorem tB_of {fd : DF} {ft : TF} (hff : ∀ s b s', ft s = some (b, s') → fd s = some (.bl b, s')) : ∀ σ H Q, tTt X.K ft σ H Q → tB (tD X.K fd) σ H Q := by
  rintro σ H Q ⟨g, s, b, s', rfl, hs, hf, k⟩
  refine ⟨g, s, _, _, rfl, hs, hff s b s' hf, fun v g' h1 h2 r => ?_⟩
  cases r
  exact ⟨b, rfl, k g' h1 h2⟩
theorem tOf_inv {s s' : S} {b : Bool} (h : tOf f s = some (b, s')) : f s = some (.bl b, s') := by
  unfold tOf at h
  obtain ⟨x, hx, h⟩ := bind_inv h
  split at h
  · rename_i q
    cases h
    rw [hx, ← q]
  · cases h
theorem dt_cmp {op : CmpOp} {fo : PV → PV → Option PV} (ho : OpD X (compareOp op) fo) (ha : DP X a fa) (hb : DP X b fb) (hm : behindInMarks op b = false) : DT X (.Compare a [op] [b] pos) (tOf (dOp fo fa fb)) := by
  obtain ⟨r, h1, h2⟩ := ho
  refine PT.imp (pt_cmpR (r := r) h1 ha hb hm) ?_
  rintro σ H Q h
  obtain ⟨g, s, z, s', rfl, hs, hf, k⟩ := tB_of (fun s b s' => tOf_inv) σ H Q h
  obtain ⟨ra, ea, hf⟩ := bind_inv hf
  obtain ⟨rb, eb, hf⟩ := bind_inv hf
  obtain ⟨p, ep, hf⟩ := bind_inv hf
  obtain ⟨q, eq, hf⟩ := bind_inv hf
  obtain ⟨z', ez, hf⟩ := map_inv hf
  cases hf
  refine ⟨g, s, ra.1, ra.2, rfl, hs, ea, fun x g1 s1 e1 r1 => ⟨g1, ra.2, rb.1, rb.2, rfl, s1, eb, fun y g2 s2 e2 r2 => ?_⟩⟩
  exact h2 g2 σ _ x y p q _ _ s2 (r1 g2 _ p s2 e2 ep) (r2 g2 _ q s2 (Ext.refl _) eq) ez fun v g3 s3 e3 r3 => k v g3 s3 ((e1.trans e2).trans e3) r3
theorem dt_val (h : DE X e f) (he : ∀ whole, isTrue e X.env whole = (do let v ← whole; standAt e.pos; holding [v] (truthy v)) := by intro _; rfl) : DT X e (tOf f) :=
  PT.imp (pt_val h he) (tB_of fun s b s' => tOf_inv)
theorem dw_and1 (ha : DT X a ta) : DW X (.BoolOp .And [a] pos) ta := pw_and1 ha
theorem dw_or1 (ha : DT X a ta) : DW X (.BoolOp .Or [a] pos) ta := pw_or1 ha
theorem PW.imp {t t' : TT} (h : PW X e t) (i : ∀ σ H Q, t' σ H Q → t σ H Q) : PW X e t' := ⟨fun wh pins s σ H Q I q => h.run wh pins s σ H Q I (i σ H Q q)⟩
theorem dw_and (ha : DT X a ta) (hb : DW X (.BoolOp .And (b :: rest) pos) tb) : DW X (.BoolOp .And (a :: b :: rest) pos) (tAnd ta tb) := by
  refine PW.imp (pw_and ha hb) ?_
  rintro σ H Q ⟨g, s, c, s', rfl, hs, hf, k⟩
  obtain ⟨x, hx, hf⟩ := bind_inv hf
  refine ⟨g, s, x.1, x.2, rfl, hs, hx, fun g1 s1 e1 => ?_⟩
  split at hf
  · rename_i hc
    rw [if_pos hc]
    exact ⟨g1, x.2, c, s', rfl, s1, hf, fun g2 s2 e2 => k g2 s2 (e1.trans e2)⟩
  · rename_i hc
    rw [if_neg hc]
    cases hf
    exact k g1 s1 e1
theorem dw_or (ha : DT X a ta) (hb : DW X (.BoolOp .Or (b :: rest) pos) tb) : DW X (.BoolOp .Or (a :: b :: rest) pos) (tOr ta tb) := by
  refine PW.imp (pw_or ha hb) ?_
  rintro σ H Q ⟨g, s, c, s', rfl, hs, hf, k⟩
  obtain ⟨x, hx, hf⟩ := bind_inv hf
  refine ⟨g, s, x.1, x.2, rfl, hs, hx, fun g1 s1 e1 => ?_⟩
  split at hf
  · rename_i hc
    rw [if_pos hc]
    cases hf
    exact k g1 s1 e1
  · rename_i hc
    rw [if_neg hc]
    exact ⟨g1, x.2, c, s', rfl, s1, hf, fun g2 s2 e2 => k g2 s2 (e1.trans e2)⟩
theorem dt_w (h : DW X e ta) : DT X e ta := PW.pt h
theorem dt_not (ha : DT X a ta) : DT X (.UnaryOp .Not a pos) (tNot ta) := by
  refine PT.imp (pt_not ha) ?_
  rintro σ H Q ⟨g, s, c, s', rfl, hs, hf, k⟩
  obtain ⟨x, hx, hf⟩ := map_inv hf
  cases hf
  exact ⟨g, s, x.1, x.2, rfl, hs, hx, fun g1 s1 e1 => k g1 s1 e1⟩
end
/-! ### and, or, not, if as values -/
def dAnd (fa fb : DF) : DF := fun s => (fa s).bind fun a => match a.1 with
  | .bl true => fb a.2
  | .bl false => some (.bl false, a.2)
  | _ => none
def dOr (fa fb : DF) : DF := fun s => (fa s).bind fun a => match a.1 with
  | .bl true => some (.bl true, a.2)
  | .bl false => fb a.2
  | _ => none
def dNot (fa : DF) : DF := fun s => (fa s).bind fun a => match a.1 with
  | .bl b => some (.bl !b, a.2)
  | _ => none
def dIf (fc : TF) (fa fb : DF) : DF := fun s => (fc s).bind fun c => if c.1 = true then fa c.2 else fb c.2
section
variable {X : Cx} {a b c e : Expr} {rest : List Expr} {pos : Pos} {fa fb : DF} {fc : TF}
theorem de_one {op} (h : DE X a fa) : DE X (.BoolOp op [a] pos) fa := pe_one h
theorem de_and (ha : DE X a fa) (hb : DE X (.BoolOp .And (b :: rest) pos) fb) : DE X (.BoolOp .And (a :: b :: rest) pos) (dAnd fa fb) := by
  refine PE.imp (pe_and ha hb) ?_
  rintro σ H Q ⟨g, s, c, s', rfl, hs, hf, k⟩
  obtain ⟨x, hx, hf⟩ := bind_inv hf
  obtain ⟨p, s1⟩ := x
  refine ⟨g, s, p, s1, rfl, hs, hx, fun v g1 h1 e1 r1 => ?_⟩
  split at hf
  · rename_i q
    cases q
    cases r1
    exact ⟨true, rfl, by rw [if_pos rfl]; exact ⟨g1, s1, c, s', rfl, h1, hf, fun v g2 h2 e2 r2 => k v g2 h2 (e1.trans e2) r2⟩⟩
  · rename_i q
    cases q
    cases r1
    cases hf
    exact ⟨false, rfl, k _ g1 h1 e1 (.bl false)⟩
  · cases hf
theorem de_or (ha : DE X a fa) (hb : DE X (.BoolOp .Or (b :: rest) pos) fb) : DE X (.BoolOp .Or (a :: b :: rest) pos) (dOr fa fb) := by
  refine PE.imp (pe_or ha hb) ?_
  rintro σ H Q ⟨g, s, c, s', rfl, hs, hf, k⟩
  obtain ⟨x, hx, hf⟩ := bind_inv hf
  obtain ⟨p, s1⟩ := x
  refine ⟨g, s, p, s1, rfl, hs, hx, fun v g1 h1 e1 r1 => ?_⟩
  split at hf
  · rename_i q
    cases q
    cases r1
    cases hf
    exact ⟨true, rfl, k _ g1 h1 e1 (.bl true)⟩
  · rename_i q
    cases q
    cases r1
    exact ⟨false, rfl, ⟨g1, s1, c, s', rfl, h1, hf, fun v g2 h2 e2 r2 => k v g2 h2 (e1.trans e2) r2⟩⟩
  · cases hf
theorem de_not (ha : DE X a fa) : DE X (.UnaryOp .Not a pos) (dNot fa) := by
  refine PE.imp (pe_not ha) ?_
  rintro σ H Q ⟨g, s, c, s', rfl, hs, hf, k⟩
  obtain ⟨x, hx, hf⟩ := bind_inv hf
  obtain ⟨p, s1⟩ := x
  refine ⟨g, s, p, s1, rfl, hs, hx, fun v g1 h1 e1 r1 => ?_⟩
  split at hf
  · rename_i q
    cases q
    cases r1
    cases hf
    exact ⟨_, rfl, k _ g1 h1 e1 (.bl _)⟩
  · cases hf
theorem de_ifExp (hc : DT X c fc) (ha : DE X a fa) (hb : DE X b fb) : DE X (.IfExp c a b pos) (dIf fc fa fb) := by
  refine PE.imp (pe_ifExp hc ha hb) ?_
  rintro σ H Q ⟨g, s, p, s', rfl, hs, hf, k⟩
  obtain ⟨x, hx, hf⟩ := bind_inv hf
  refine ⟨g, s, x.1, x.2, rfl, hs, hx, fun g1 s1 e1 => ?_⟩
  split at hf
  · rename_i hc
    rw [if_pos hc]
    exact ⟨g1, x.2, p, s', rfl, s1, hf, fun v g2 s2 e2 r => k v g2 s2 (e1.trans e2) r⟩
  · rename_i hc
    rw [if_neg hc]
    exact ⟨g1, x.2, p, s', rfl, s1, hf, fun v g2 s2 e2 r => k v g2 s2 (e1.trans e2) r⟩
end
end DD
/-! E4: operators, displays, argument lists. -/
namespace DD
open PySem L2 GG PySem.Spec PyProof.Rows

/-! ### what is made anew -/
section
variable {K : PySem.W.Frag} {g : Gh} {σ : L2.St} {s : S} {vs : List V} {ps : List PV}
theorem new_tup (hs : Sat K g σ s none) (r : RpA K g.js g.F vs ps) {Q : VK} (k : ∀ v g', Sat K g' σ s none → Ext g g' → Rp K g'.js g'.F v (.tup ps) → Q v g'.H) :
    ∀ p, g.H p = none → Q (.ref p) (upd g.H p (.tup vs)) := fun p n => by
  have e := Ext.newF (o := .tup vs) hs.o n
  exact k (.ref p) (g.newF p (.tup vs)) (hs.newF n) e (.tup (Or.inl (Or.inl upd_same)) (r.ext e))
theorem new_lstO (hs : Sat K g σ s none) (r : RpA K g.js g.F vs ps) {Q : VK} (k : ∀ v g', Sat K g' σ s (some (v, .mlst ps)) → Ext g g' → Q v g'.H) :
    ∀ p, g.H p = none → Q (.ref p) (upd g.H p (.lst vs)) := fun p n => by
  have q : RpM K g.js g.F (upd g.H p (.lst vs)) (.ref p) (.mlst ps) [p] := .lst upd_same r
  obtain ⟨h1, h2⟩ := hs.newR q (fun a ha => by rw [List.mem_singleton.mp ha]; exact n) (fun a o e => upd_le n a o e)
  exact k (.ref p) _ h1 h2
end

/-! ### data -/
mutual
def PV.dat : PV → Option PyData
  | .non => some .none
  | .bl b => some (.bool b)
  | .int i => some (.int i)
  | .str x => some (.str x)
  | .lst ps => (PV.datA ps).map .list
  | .lsk ps => (PV.datA ps).map .list
  | .tup ps => (PV.datA ps).map .tuple
  | _ => none
def PV.datA : List PV → Option (List PyData)
  | [] => some []
  | p :: ps => match p.dat, PV.datA ps with
    | some d, some ds => some (d :: ds)
    | _, _ => none
end
section
variable {K : PySem.W.Frag} {js : List Addr} {H : Hp}
mutual
theorem Rp.dp : ∀ {v : V} {p : PV} {d : PyData}, Rp K js H v p → p.dat = some d → Dp K H v d
  | _, _, _, .non, e => by
    cases e
    exact .non
  | _, _, _, .bl b, e => by
    cases e
    exact .bl b
  | _, _, _, .int i, e => by
    cases e
    exact .int i
  | _, _, _, .str x, e => by
    cases e
    exact .str x
  | _, _, _, .lst h q, e => by
    rw [PV.dat] at e
    obtain ⟨ds, hd, rfl⟩ := map_inv e
    exact .lst (Or.inl (Or.inl h)) (RpA.dp q hd)
  | _, _, _, .lsk h q, e => by
    rw [PV.dat] at e
    obtain ⟨ds, hd, rfl⟩ := map_inv e
    exact .lst h (RpA.dp q hd)
  | _, _, _, .tup h q, e => by
    rw [PV.dat] at e
    obtain ⟨ds, hd, rfl⟩ := map_inv e
    exact .tup h (RpA.dp q hd)
  | _, _, _, .ty n, e => by simp [PV.dat] at e
  | _, _, _, .gl a, e => by simp [PV.dat] at e
  | _, _, _, .dct _ _, e => by simp [PV.dat] at e
  | _, _, _, .obj _ _ _, e => by simp [PV.dat] at e
  | _, _, _, .ptr _, e => by simp [PV.dat] at e
theorem RpA.dp : ∀ {vs : List V} {ps : List PV} {ds : List PyData}, RpA K js H vs ps → PV.datA ps = some ds → DpAll K H vs ds
  | _, _, _, .nil, e => by
    rw [PV.datA] at e
    cases e
    exact .nil
  | _, _, _, .cons h q, e => by
    rw [PV.datA] at e
    split at e
    · rename_i h1 h2
      cases e
      exact .cons (Rp.dp h h1) (RpA.dp q h2)
    · cases e
end
end
/-- x == y of data -/
def eqP (p q : PV) : Option Bool := match p.dat, q.dat with
  | some d, some e => if SeqAt.shaped d = true ∧ SeqAt.shaped e = true then some (PyData.eqv d e) else none
  | _, _ => none
/-- x in l of data -/
def inP (p q : PV) : Option Bool := match p.dat, q.dat with
  | some d, some (.list ds) => if SeqAt.shaped d = true ∧ SeqAt.shaped (.list ds) = true then some (ds.any fun z => PyData.eqv z d) else none
  | _, _ => none
def oEq (p q : PV) : Option PV := (eqP p q).map .bl
def oNe (p q : PV) : Option PV := (eqP p q).map fun b => .bl !b
def oIn (p q : PV) : Option PV := (inP p q).map .bl
def oNotIn (p q : PV) : Option PV := (inP p q).map fun b => .bl !b
theorem eqP_inv {p q : PV} {b : Bool} (h : eqP p q = some b) : ∃ d e, p.dat = some d ∧ q.dat = some e ∧ SeqAt.shaped d = true ∧ SeqAt.shaped e = true ∧ b = PyData.eqv d e := by
  unfold eqP at h
  split at h
  · rename_i d e h1 h2
    split at h
    · rename_i hh
      cases h
      exact ⟨d, e, h1, h2, hh.1, hh.2, rfl⟩
    · cases h
  · cases h
theorem inP_inv {p q : PV} {b : Bool} (h : inP p q = some b) : ∃ d ds, p.dat = some d ∧ q.dat = some (.list ds) ∧ SeqAt.shaped d = true ∧ SeqAt.shaped (.list ds) = true ∧ b = ds.any fun z => PyData.eqv z d := by
  unfold inP at h
  split at h
  · rename_i d e h1 h2
    split at h
    · rename_i hh
      cases h
      exact ⟨d, e, h1, h2, hh.1, hh.2, rfl⟩
    · cases h
  · cases h
section
variable {X : Cx}
theorem op_of_r {op : Value → Value → Sem Value} {r : R2} {fo : PV → PV → Option PV} (h : OpR X op r)
    (k : ∀ (g : Gh) (σ : L2.St) (s : S) (x y : V) (p q z : PV) (Q : VK), Sat X.K g σ s none → Pk X.K g x p → Pk X.K g y q → fo p q = some z →
      (∀ v g', Sat X.K g' σ s none → Ext g g' → Rp X.K g'.js g'.F v z → Q v g'.H) → r x y g.H Q) : OpD X op fo := ⟨r, h, k⟩
theorem oEqD (hu : X.A.units + 64 < cLine) : OpD X (compareOp .Eq) oEq := op_of_r (op_eqD hu) fun g σ s x y p q z Q hs hx hy hf k => by
  obtain ⟨b, hb, rfl⟩ := map_inv hf
  obtain ⟨d, e, h1, h2, h3, h4, rfl⟩ := eqP_inv hb
  exact ⟨d, e, (hx.inH hs).dp h1, (hy.inH hs).dp h2, h3, h4, k _ g hs (Ext.refl g) (.bl _)⟩
theorem oNeD (hu : X.A.units + 64 < cLine) : OpD X (compareOp .NotEq) oNe := op_of_r (op_neD hu) fun g σ s x y p q z Q hs hx hy hf k => by
  obtain ⟨b, hb, rfl⟩ := map_inv hf
  obtain ⟨d, e, h1, h2, h3, h4, rfl⟩ := eqP_inv hb
  exact ⟨d, e, (hx.inH hs).dp h1, (hy.inH hs).dp h2, h3, h4, k _ g hs (Ext.refl g) (.bl _)⟩
theorem oInD (hu : X.A.units + 65 < cLine) : OpD X (compareOp .In) oIn := op_of_r (op_inD hu) fun g σ s x y p q z Q hs hx hy hf k => by
  obtain ⟨b, hb, rfl⟩ := map_inv hf
  obtain ⟨d, e, h1, h2, h3, h4, rfl⟩ := inP_inv hb
  exact ⟨d, e, (hx.inH hs).dp h1, (hy.inH hs).dp h2, h3, h4, k _ g hs (Ext.refl g) (.bl _)⟩
theorem oNotInD (hu : X.A.units + 65 < cLine) : OpD X (compareOp .NotIn) oNotIn := op_of_r (op_notInD hu) fun g σ s x y p q z Q hs hx hy hf k => by
  obtain ⟨b, hb, rfl⟩ := map_inv hf
  obtain ⟨d, e, h1, h2, h3, h4, rfl⟩ := inP_inv hb
  exact ⟨d, e, (hx.inH hs).dp h1, (hy.inH hs).dp h2, h3, h4, k _ g hs (Ext.refl g) (.bl _)⟩
/-! ### flat values in a tuple or a list -/
def PV.flat : PV → Option V
  | .non => some .non
  | .bl b => some (.bl b)
  | .int i => some (.int i)
  | .str x => some (.str x)
  | _ => none
def PV.flats : List PV → Option (List V)
  | [] => some []
  | p :: ps => match p.flat, PV.flats ps with
    | some d, some ds => some (d :: ds)
    | _, _ => none
theorem flat_rp {K : PySem.W.Frag} {js : List Addr} {F : Hp} {v u : V} {p : PV} (h : Rp K js F v p) (e : p.flat = some u) : v = u ∧ flatV v = true := by
  cases h <;> simp [PV.flat] at e <;> subst e <;> exact ⟨rfl, rfl⟩
theorem flats_rp {K : PySem.W.Frag} {js : List Addr} {F : Hp} : ∀ {vs us : List V} {ps : List PV}, RpA K js F vs ps → PV.flats ps = some us → vs = us ∧ vs.all flatV = true
  | _, _, _, .nil, e => by
    cases e
    exact ⟨rfl, rfl⟩
  | _, _, _, .cons h q, e => by
    rw [PV.flats] at e
    split at e
    · rename_i h1 h2
      cases e
      obtain ⟨rfl, e1⟩ := flat_rp h h1
      obtain ⟨rfl, e2⟩ := flats_rp q h2
      exact ⟨rfl, by rw [List.all_cons, e1, e2]; rfl⟩
    · cases e
def PV.items : PV → Option (List PV)
  | .lst ps => some ps
  | .lsk ps => some ps
  | .tup ps => some ps
  | _ => none
def inF (p q : PV) : Option Bool := match p.flat, q.items.bind PV.flats with
  | some x, some xs => some (inV x xs)
  | _, _ => none
def oInF (p q : PV) : Option PV := (inF p q).map .bl
def oNotInF (p q : PV) : Option PV := (inF p q).map fun b => .bl !b
theorem Rp.seq {K : PySem.W.Frag} {js : List Addr} {H : Hp} {v : V} {p : PV} {ps : List PV} (h : Rp K js H v p) (e : p.items = some ps) : ∃ a vs, v = .ref a ∧ (SqL K H a vs ∨ SqT K H a vs) ∧ RpA K js H vs ps := by
  cases h <;> simp [PV.items] at e <;> subst e
  · rename_i h q
    exact ⟨_, _, rfl, Or.inl (Or.inl (Or.inl h)), q⟩
  · rename_i h q
    exact ⟨_, _, rfl, Or.inl h, q⟩
  · rename_i h q
    exact ⟨_, _, rfl, Or.inr h, q⟩
theorem inF_rule {g : Gh} {σ : L2.St} {s : S} {x y : V} {p q : PV} {b neg : Bool} {Q : VK} (hs : Sat X.K g σ s none) (hx : Pk X.K g x p) (hy : Pk X.K g y q) (h : inF p q = some b)
    (k : Q (.bl (if neg then !b else b)) g.H) : rIn X.K neg x y g.H Q := by
  unfold inF at h
  split at h
  · rename_i u us h1 h2
    cases h
    obtain ⟨qs, h3, h4⟩ := Option.bind_eq_some_iff.mp h2
    obtain ⟨rfl, e1⟩ := flat_rp (hx.inH hs) h1
    obtain ⟨a, vs, rfl, hq, r⟩ := (hy.inH hs).seq h3
    obtain ⟨rfl, e2⟩ := flats_rp r h4
    exact ⟨a, _, rfl, hq, e1, e2, k⟩
  · cases h
theorem oInFD : OpD X (compareOp .In) oInF := op_of_r op_in_seq fun g σ s x y p q z Q hs hx hy hf k => by
  obtain ⟨b, hb, rfl⟩ := map_inv hf
  exact inF_rule (neg := false) hs hx hy hb (k _ g hs (Ext.refl g) (.bl _))
theorem oNotInFD : OpD X (compareOp .NotIn) oNotInF := op_of_r op_notIn_seq fun g σ s x y p q z Q hs hx hy hf k => by
  obtain ⟨b, hb, rfl⟩ := map_inv hf
  exact inF_rule (neg := true) hs hx hy hb (k _ g hs (Ext.refl g) (.bl _))

/-! ### ints -/
def oI (f : Int → Int → PV) (p q : PV) : Option PV := match p, q with
  | .int i, .int j => some (f i j)
  | _, _ => none
def oIc (c : Int → Int → Bool) (f : Int → Int → PV) (p q : PV) : Option PV := match p, q with
  | .int i, .int j => if c i j = true then some (f i j) else none
  | _, _ => none
theorem opI0D {op : Value → Value → Sem Value} {f : Int → Int → V} {fp : Int → Int → PV} (h : OpR X op (rI0 f)) (hr : ∀ K js F i j, Rp K js F (f i j) (fp i j)) : OpD X op (oI fp) := op_of_r h fun g σ s x y p q z Q hs hx hy hf k => by
  unfold oI at hf
  split at hf
  · cases hf
    exact ⟨_, _, hx.int, hy.int, k _ g hs (Ext.refl g) (hr _ _ _ _ _)⟩
  · cases hf
theorem opIcD {op : Value → Value → Sem Value} {C : Int → Int → Prop} {c : Int → Int → Bool} {f : Int → Int → V} {fp : Int → Int → PV} (h : OpR X op (rI C f)) (hc : ∀ i j, c i j = true → C i j) (hr : ∀ K js F i j, Rp K js F (f i j) (fp i j)) : OpD X op (oIc c fp) :=
  op_of_r h fun g σ s x y p q z Q hs hx hy hf k => by
    unfold oIc at hf
    split at hf
    · split at hf
      · rename_i hh
        cases hf
        exact ⟨_, _, hx.int, hy.int, hc _ _ hh, k _ g hs (Ext.refl g) (hr _ _ _ _ _)⟩
      · cases hf
    · cases hf
def oAdd := oI fun i j => .int (i + j)
def oSub := oI fun i j => .int (i - j)
def mulOk (i j : Int) : Bool := decide ((-18446744073709551616 < i ∧ i < 18446744073709551616) ∨ (-18446744073709551616 < j ∧ j < 18446744073709551616))
def oMul := oIc mulOk fun i j => .int (i * j)
def divOk (_ j : Int) : Bool := decide (0 < j ∧ j < 1073741824)
def oFdiv := oIc divOk fun i j => .int (i / j)
def oMod := oIc (fun _ j => decide (0 < j)) fun i j => .int (i % j)
def powOk (i j : Int) : Bool := decide (0 ≤ j ∧ j ≤ 1000000 ∧ i.natAbs < 18446744073709551616)
def oPow := oIc powOk fun i j => .int (i ^ j.toNat)
def oLt := oI fun i j => .bl (decide (i < j))
def oLe := oI fun i j => .bl (decide (i ≤ j))
def oGt := oI fun i j => .bl (decide (j < i))
def oGe := oI fun i j => .bl (decide (j ≤ i))
theorem oAddD : OpD X (binaryOp .Add) oAdd := opI0D op_add fun _ _ _ _ _ => .int _
theorem oSubD : OpD X (binaryOp .Sub) oSub := opI0D op_sub fun _ _ _ _ _ => .int _
theorem oMulD : OpD X (binaryOp .Mult) oMul := opIcD op_mul (fun i j h => by
  have q : (-18446744073709551616 < i ∧ i < 18446744073709551616) ∨ (-18446744073709551616 < j ∧ j < 18446744073709551616) := of_decide_eq_true h
  unfold CMul
  omega) fun _ _ _ _ _ => .int _
theorem oFdivD : OpD X (binaryOp .FloorDiv) oFdiv := opIcD op_fdiv (fun i j h => by
  have q : 0 < j ∧ j < 1073741824 := of_decide_eq_true h
  exact q) fun _ _ _ _ _ => .int _
theorem oModD : OpD X (binaryOp .Mod) oMod := opIcD op_mod (fun i j h => of_decide_eq_true h) fun _ _ _ _ _ => .int _
theorem oPowD : OpD X (binaryOp .Pow) oPow := opIcD op_pow (fun i j h => by
  have q : 0 ≤ j ∧ j ≤ 1000000 ∧ i.natAbs < 18446744073709551616 := of_decide_eq_true h
  unfold CPow
  omega) fun _ _ _ _ _ => .int _
theorem oLtD : OpD X (compareOp .Lt) oLt := opI0D op_lt fun _ _ _ _ _ => .bl _
theorem oLeD : OpD X (compareOp .LtE) oLe := opI0D op_le fun _ _ _ _ _ => .bl _
theorem oGtD : OpD X (compareOp .Gt) oGt := opI0D op_gt fun _ _ _ _ _ => .bl _
theorem oGeD : OpD X (compareOp .GtE) oGe := opI0D op_ge fun _ _ _ _ _ => .bl _
def uNeg : PV → Option PV
  | .int i => some (.int (-i))
  | _ => none
theorem uNegD : UnD X (unaryOp .USub) uNeg := ⟨_, un_neg, fun g σ s x p z Q hs hx hf k => by
  unfold uNeg at hf
  split at hf
  · cases hf
    exact ⟨_, hx.int, k _ g hs (Ext.refl g) (.int _)⟩
  · cases hf⟩
/-! ### is None -/
def isNonP : PV → Bool
  | .non => true
  | _ => false
def oIs (p q : PV) : Option PV := match q with
  | .non => some (.bl (isNonP p))
  | _ => none
def oIsNot (p q : PV) : Option PV := match q with
  | .non => some (.bl (!isNonP p))
  | _ => none
theorem pk_non {g : Gh} {x : V} {p : PV} (hx : Pk X.K g x p) : decide (x = .non) = isNonP p := by
  obtain ⟨m, fp, q, rfl⟩ := hx
  cases q with
  | val q => cases q <;> first | rfl | (simp [isNonP, MV.frz])
  | lst _ _ => rfl
  | dct _ _ => rfl
  | obj _ _ _ => rfl
theorem oIsD : OpD X (compareOp .Is) oIs := op_of_r op_isN fun g σ s x y p q z Q hs hx hy hf k => by
  unfold oIs at hf
  split at hf
  · cases hf
    exact ⟨hy.non, by rw [pk_non hx]; exact k _ g hs (Ext.refl g) (.bl _)⟩
  · cases hf
theorem oIsNotD : OpD X (compareOp .IsNot) oIsNot := op_of_r op_notN fun g σ s x y p q z Q hs hx hy hf k => by
  unfold oIsNot at hf
  split at hf
  · cases hf
    exact ⟨hy.non, by rw [pk_non hx]; exact k _ g hs (Ext.refl g) (.bl _)⟩
  · cases hf
/-! ### places -/
def oIx (p q : PV) : Option PV := match p, q with
  | .lst ps, .int i => atI ps i
  | .lsk ps, .int i => atI ps i
  | _, _ => none
def oIxT (p q : PV) : Option PV := match p, q with
  | .tup ps, .int i => atI ps i
  | _, _ => none
theorem RpA.atI {K : PySem.W.Frag} {js : List Addr} {F : Hp} {vs : List V} {ps : List PV} {i : Int} {p : PV} (h : RpA K js F vs ps) (e : L2.atI ps i = some p) : ∃ v, L2.atI vs i = some v ∧ Rp K js F v p := by
  have hl := h.length
  unfold L2.atI at e ⊢
  obtain ⟨j, h1, h2⟩ := Option.bind_eq_some_iff.mp e
  obtain ⟨v, h3, h4⟩ := h.get h2
  exact ⟨v, by rw [hl, h1]; exact h3, h4⟩
theorem oIxD : ∃ r : R2, IxR X r ∧
  ∀ (g : Gh) (σ : L2.St) (s : S) (x y : V) (p q z : PV) (Q : VK), Sat X.K g σ s none → Pk X.K g x p → Pk X.K g y q → oIx p q = some z →
    (∀ v g', Sat X.K g' σ s none → Ext g g' → Rp X.K g'.js g'.F v z → Q v g'.H) → r x y g.H Q := ⟨_, ix_list, fun g σ s x y p q z Q hs hx hy hf k => by
  unfold oIx at hf
  split at hf
  · obtain ⟨a, vs, rfl, h1, h2⟩ := hx.lst hs
    obtain ⟨v, h3, h4⟩ := h2.atI hf
    exact ⟨a, vs, _, v, rfl, hy.int, Or.inl (Or.inl h1), h3, k v g hs (Ext.refl g) h4⟩
  · obtain ⟨m, fp, q, e⟩ := hx
    cases q <;> cases e
    rename_i q
    cases q with
    | lsk h1 h2 =>
      obtain ⟨v, h3, h4⟩ := h2.atI hf
      exact ⟨_, _, _, v, rfl, hy.int, SqL.le hs.o.sub h1, h3, k v g hs (Ext.refl g) h4⟩
  · cases hf⟩
theorem oIxTD : ∃ r : R2, IxR X r ∧
  ∀ (g : Gh) (σ : L2.St) (s : S) (x y : V) (p q z : PV) (Q : VK), Sat X.K g σ s none → Pk X.K g x p → Pk X.K g y q → oIxT p q = some z →
    (∀ v g', Sat X.K g' σ s none → Ext g g' → Rp X.K g'.js g'.F v z → Q v g'.H) → r x y g.H Q := ⟨_, ix_tup, fun g σ s x y p q z Q hs hx hy hf k => by
  unfold oIxT at hf
  split at hf
  · obtain ⟨a, vs, rfl, h1, h2⟩ := hx.tup hs
    obtain ⟨v, h3, h4⟩ := h2.atI hf
    exact ⟨a, vs, _, v, rfl, hy.int, h1, h3, k v g hs (Ext.refl g) h4⟩
  · cases hf⟩
end

def oIxA (p q : PV) : Option PV := match p.items, q with
  | some ps, .int i => atI ps i
  | _, _ => none
theorem oIxAD {X : Cx} : ∃ r : R2, IxR X r ∧
  ∀ (g : Gh) (σ : L2.St) (s : S) (x y : V) (p q z : PV) (Q : VK), Sat X.K g σ s none → Pk X.K g x p → Pk X.K g y q → oIxA p q = some z →
    (∀ v g', Sat X.K g' σ s none → Ext g g' → Rp X.K g'.js g'.F v z → Q v g'.H) → r x y g.H Q := by
  obtain ⟨r1, h1, h2⟩ := oIxD (X := X)
  obtain ⟨r2, h3, h4⟩ := oIxTD (X := X)
  refine ⟨_, IxR.or h1 h3, fun g σ s x y p q z Q hs hx hy hf k => ?_⟩
  unfold oIxA at hf
  split at hf
  · rename_i ps i hp
    cases p <;> cases hp
    · exact Or.inl (h2 g σ s x y _ _ z Q hs hx hy (by simpa [oIx] using hf) k)
    · exact Or.inr (h4 g σ s x y _ _ z Q hs hx hy (by simpa [oIxT] using hf) k)
    · exact Or.inl (h2 g σ s x y _ _ z Q hs hx hy (by simpa [oIx] using hf) k)
  · cases hf
/-! ### operators that make a list -/
def OpO (X : Cx) (op : Value → Value → Sem Value) (fo : PV → PV → Option MV) : Prop := ∃ r : R2, OpR X op r ∧
  ∀ (g : Gh) (σ : L2.St) (s : S) (x y : V) (p q : PV) (z : MV) (Q : VK), Sat X.K g σ s none → Pk X.K g x p → Pk X.K g y q → fo p q = some z →
    (∀ v g', Sat X.K g' σ s (some (v, z)) → Ext g g' → Q v g'.H) → r x y g.H Q
def mOp (fo : PV → PV → Option MV) (fa fb : PF) : OF := fun s => (fa s).bind fun a => (fb a.2).bind fun b => (a.1 b.2).bind fun p => (b.1 b.2).bind fun q => (fo p q).map fun z => (z, b.2)
section
variable {X : Cx} {a b c e : Expr} {pos : Pos} {fa fb fc : PF}
theorem do_op {op : Operator} {fo : PV → PV → Option MV} (ho : OpO X (binaryOp op) fo) (ha : DP X a fa) (hb : DP X b fb) : DO X (.BinOp a op b pos) (mOp fo fa fb) := by
  obtain ⟨r, h1, h2⟩ := ho
  refine PE.imp (pe_op h1 ha hb) ?_
  rintro σ H Q ⟨g, s, z, s', rfl, hs, hf, k⟩
  obtain ⟨ra, ea, hf⟩ := bind_inv hf
  obtain ⟨rb, eb, hf⟩ := bind_inv hf
  obtain ⟨p, ep, hf⟩ := bind_inv hf
  obtain ⟨q, eq, hf⟩ := bind_inv hf
  obtain ⟨z', ez, hf⟩ := map_inv hf
  cases hf
  refine ⟨g, s, ra.1, ra.2, rfl, hs, ea, fun x g1 s1 e1 r1 => ⟨g1, ra.2, rb.1, rb.2, rfl, s1, eb, fun y g2 s2 e2 r2 => ?_⟩⟩
  exact h2 g2 σ _ x y p q _ Q s2 (r1 g2 _ p s2 e2 ep) (r2 g2 _ q s2 (Ext.refl _) eq) ez fun v g3 s3 e3 => k v g3 s3 ((e1.trans e2).trans e3)
def oCat (p q : PV) : Option MV := match p, q with
  | .lst ps, .lst qs => if ps.length + qs.length ≤ 100000 then some (.mlst (ps ++ qs)) else none
  | _, _ => none
theorem oCatD : OpO X (binaryOp .Add) oCat := ⟨rCat, op_cat, fun g σ s x y p q z Q hs hx hy hf k => by
  unfold oCat at hf
  split at hf
  · split at hf
    · rename_i hl
      cases hf
      obtain ⟨a, vs, rfl, h1, h2⟩ := hx.lst hs
      obtain ⟨b, us, rfl, h3, h4⟩ := hy.lst hs
      have l1 := h2.length
      have l2 := h4.length
      exact ⟨a, b, vs, us, rfl, rfl, h1, h3, sz_ok (by omega), new_lstO hs (h2.append h4) k⟩
    · cases hf
  · cases hf⟩
def oRep (p q : PV) : Option MV := match p, q with
  | .lst ps, .int k => if k ≤ 100000 ∧ ps.length * k.toNat ≤ 100000 ∧ -100000 ≤ k then some (.mlst (List.replicate k.toNat ps).flatten) else none
  | _, _ => none
theorem oRepD : OpO X (binaryOp .Mult) oRep := ⟨rRep, op_rep, fun g σ s x y p q z Q hs hx hy hf k => by
  unfold oRep at hf
  split at hf
  · split at hf
    · rename_i hl
      cases hf
      obtain ⟨a, vs, rfl, h1, h2⟩ := hx.lst hs
      have l1 := h2.length
      exact ⟨a, _, vs, rfl, hy.int, h1, by omega, by omega, sz_ok (by rw [l1]; exact hl.2.1), new_lstO hs h2.flat k⟩
    · cases hf
  · cases hf⟩
end
def oCatT (p q : PV) : Option PV := match p, q with
  | .tup ps, .tup qs => if ps ≠ [] ∧ ps.length + qs.length ≤ 100000 then some (.tup (ps ++ qs)) else none
  | _, _ => none
instance : DecidablePred (fun ps : List PV => ps ≠ []) := fun ps => by
  cases ps with
  | nil => exact isFalse fun h => h rfl
  | cons a b => exact isTrue fun h => by cases h
theorem oCatTD {X : Cx} : OpD X (binaryOp .Add) oCatT := op_of_r op_catT fun g σ s x y p q z Q hs hx hy hf k => by
  unfold oCatT at hf
  split at hf
  · rename_i ps qs
    split at hf
    · rename_i hl
      cases hf
      obtain ⟨a, vs, rfl, h1, h2⟩ := hx.tup hs
      obtain ⟨b, us, rfl, h3, h4⟩ := hy.tup hs
      have l1 := h2.length
      have l2 := h4.length
      refine ⟨a, b, vs, us, rfl, rfl, h1, h3, fun e => hl.1 ?_, sz_ok (by omega), fun e => ?_, fun e => new_tup hs (h2.append h4) k⟩
      · cases ps with
        | nil => rfl
        | cons _ _ =>
          rw [e] at l1
          simp at l1
      · subst e
        have e2 : qs = [] := List.length_eq_zero_iff.mp l2.symm
        subst e2
        refine k _ g hs (Ext.refl g) ?_
        rw [List.append_nil]
        obtain ⟨m, fp, q, e⟩ := hx
        cases q <;> cases e
        assumption
    · cases hf
  · cases hf
end DD
/-! E5: argument lists, displays, built-in functions, slices, attributes. -/
namespace DD
open PySem L2 GG PySem.Spec PyProof.Rows

/-! ### argument lists of calls: values, and owned things that are lent -/
inductive AV where
  | pv (p : PV) | io (i : Nat)
abbrev AFn := S → Option (List AV × S)
inductive AvA (K : PySem.W.Frag) (js : List Addr) (F : Hp) (σ : L2.St) : List V → List AV → Prop
  | nil : AvA K js F σ [] []
  | pv {v : V} {p : PV} {vs : List V} {as : List AV} : Rp K js F v p → AvA K js F σ vs as → AvA K js F σ (v :: vs) (.pv p :: as)
  | io {v : V} {i : Nat} {vs : List V} {as : List AV} : σ[i]? = some (some v) → AvA K js F σ vs as → AvA K js F σ (v :: vs) (.io i :: as)
def tA (K : PySem.W.Frag) (f : AFn) : TA := fun σ H Q => ∃ g s as s', g.H = H ∧ Sat K g σ s none ∧ f s = some (as, s') ∧
  ∀ vs g', Sat K g' σ s' none → Ext g g' → AvA K g'.js g'.F σ vs as → Q vs g'.H
abbrev DA (X : Cx) (es : List Expr) (f : AFn) : Prop := PA X es (tA X.K f)
def aNil : AFn := fun s => some ([], s)
def aV (f : DF) (r : AFn) : AFn := fun s => (f s).bind fun a => (r a.2).map fun b => (.pv a.1 :: b.1, b.2)
def aIo (i : Nat) (r : AFn) : AFn := fun s => match s.env[i]? with
  | some (some _) => (r s).map fun b => (.io i :: b.1, b.2)
  | _ => none
theorem PA.imp {X : Cx} {es : List Expr} {t t' : TA} (h : PA X es t) (i : ∀ σ H Q, t' σ H Q → t σ H Q) : PA X es t' := ⟨fun pos pins s σ H Q I q => h.run pos pins s σ H Q I (i σ H Q q)⟩
section
variable {X : Cx} {e : Expr} {es : List Expr} {f : DF} {r : AFn}
theorem da_nil : DA X [] aNil := by
  refine PA.imp pa_nil ?_
  rintro σ H Q ⟨g, s, as, s', rfl, hs, hf, k⟩
  cases hf
  exact k [] g hs (Ext.refl g) .nil
theorem da_cons (ha : DE X e f) (hr : DA X es r) (hs : starEach (e :: es) X.env = (false, eval e X.env) :: starEach es X.env := by rfl) : DA X (e :: es) (aV f r) := by
  refine PA.imp (pa_cons ha hr hs) ?_
  rintro σ H Q ⟨g, s, as, s', rfl, hs, hf, k⟩
  obtain ⟨a, ha, hf⟩ := bind_inv hf
  obtain ⟨b, hb, hf⟩ := map_inv hf
  cases hf
  refine ⟨g, s, a.1, a.2, rfl, hs, ha, fun v g1 s1 e1 r1 => ⟨g1, a.2, b.1, b.2, rfl, s1, hb, fun vs g2 s2 e2 r2 => ?_⟩⟩
  exact k (v :: vs) g2 s2 (e1.trans e2) (.pv (r1.ext e2) r2)
theorem da_io {x : Str} {pos : Pos} {i : Nat} (hN : X.N[i]? = some x) (hv : Vis X.env.scope x) (hr : DA X es r) (hd : (x == ("__debug__" : Str)) = false := by decide) (hcd : (x == ("__classdict__" : Str)) = false := by decide)
    (hs : starEach (.Name x pos :: es) X.env = (false, eval (.Name x pos) X.env) :: starEach es X.env := by rfl) : DA X (.Name x pos :: es) (aIo i r) := by
  refine PA.imp (pa_cons (pe_var hN hv hd hcd) hr hs) ?_
  rintro σ H Q ⟨g, s, as, s', rfl, hs, hf, k⟩
  unfold aIo at hf
  split at hf
  · rename_i m hm
    obtain ⟨b, hb, hf⟩ := map_inv hf
    cases hf
    obtain ⟨v, hv, _⟩ := hs.loc hm
    exact ⟨v, hv, g, s, b.1, b.2, rfl, hs, hb, fun vs g2 s2 e2 r2 => k (v :: vs) g2 s2 e2 (.io hv r2)⟩
  · cases hf
end
/-- all values -/
def AV.pvs : List AV → Option (List PV)
  | [] => some []
  | .pv p :: r => (AV.pvs r).map fun ps => p :: ps
  | .io _ :: _ => none
theorem AvA.pvs {K : PySem.W.Frag} {js : List Addr} {F : Hp} {σ : L2.St} : ∀ {vs : List V} {as : List AV} {ps : List PV}, AvA K js F σ vs as → AV.pvs as = some ps → RpA K js F vs ps
  | _, _, _, .nil, e => by
    cases e
    exact .nil
  | _, _, _, .pv r q, e => by
    rw [AV.pvs] at e
    obtain ⟨ps, h, rfl⟩ := map_inv e
    exact .cons r (q.pvs h)
  | _, _, _, .io _ _, e => by
    rw [AV.pvs] at e
    cases e
/-! ### displays -/
def dTup (f : AFn) : DF := fun s => (f s).bind fun a => (AV.pvs a.1).bind fun ps => if ps.length ≤ 100000 then some (.tup ps, a.2) else none
def mLst (f : AFn) : OF := fun s => (f s).bind fun a => (AV.pvs a.1).bind fun ps => if ps.length ≤ 100000 then some (.mlst ps, a.2) else none
section
variable {X : Cx} {es : List Expr} {f : AFn} {pos : Pos}
theorem de_tup {x1} (h : DA X es f) : DE X (.Tuple es x1 pos) (dTup f) := by
  refine PE.imp (pe_tup h) ?_
  rintro σ H Q ⟨g, s, p, s', rfl, hs, hf, k⟩
  obtain ⟨a, ha, hf⟩ := bind_inv hf
  obtain ⟨ps, hp, hf⟩ := bind_inv hf
  split at hf
  · rename_i hl
    cases hf
    refine ⟨g, s, a.1, a.2, rfl, hs, ha, fun vs g1 s1 e1 r1 => ?_⟩
    have r2 := r1.pvs hp
    exact ⟨sz_ok (by rw [r2.length]; exact hl), new_tup s1 r2 fun v g2 s2 e2 r => k v g2 s2 (e1.trans e2) r⟩
  · cases hf
theorem do_lst (h : DA X es f) : DO X (.List es pos) (mLst f) := by
  refine PE.imp (pe_lst h) ?_
  rintro σ H Q ⟨g, s, p, s', rfl, hs, hf, k⟩
  obtain ⟨a, ha, hf⟩ := bind_inv hf
  obtain ⟨ps, hp, hf⟩ := bind_inv hf
  split at hf
  · rename_i hl
    cases hf
    refine ⟨g, s, a.1, a.2, rfl, hs, ha, fun vs g1 s1 e1 r1 => ?_⟩
    have r2 := r1.pvs hp
    exact ⟨sz_ok (by rw [r2.length]; exact hl), new_lstO s1 r2 fun v g2 s2 e2 => k v g2 s2 (e1.trans e2)⟩
  · cases hf
end
/-! ### calls of built-in functions: the arguments are looked at -/
abbrev QFn := S → Option (List (S → Option PV) × S)
def rdAll : List (S → Option PV) → S → Option (List PV)
  | [], _ => some []
  | r :: rs, s => (r s).bind fun p => (rdAll rs s).map fun ps => p :: ps
inductive PkA (K : PySem.W.Frag) (g : Gh) : List V → List PV → Prop
  | nil : PkA K g [] []
  | cons {v : V} {p : PV} {vs : List V} {ps : List PV} : Pk K g v p → PkA K g vs ps → PkA K g (v :: vs) (p :: ps)
def tQ (K : PySem.W.Frag) (f : QFn) : TA := fun σ H Q => ∃ g s rs s', g.H = H ∧ Sat K g σ s none ∧ f s = some (rs, s') ∧
  ∀ vs g', Sat K g' σ s' none → Ext g g' → (∀ g2 s2 ps, Sat K g2 σ s2 none → Ext g' g2 → rdAll rs s2 = some ps → PkA K g2 vs ps) → Q vs g'.H
abbrev DQ (X : Cx) (es : List Expr) (f : QFn) : Prop := PA X es (tQ X.K f)
def qNil : QFn := fun s => some ([], s)
def qC (f : PF) (r : QFn) : QFn := fun s => (f s).bind fun a => (r a.2).map fun b => (a.1 :: b.1, b.2)
section
variable {X : Cx} {e : Expr} {es : List Expr} {f : PF} {r : QFn}
theorem dq_nil : DQ X [] qNil := by
  refine PA.imp pa_nil ?_
  rintro σ H Q ⟨g, s, as, s', rfl, hs, hf, k⟩
  cases hf
  refine k [] g hs (Ext.refl g) fun g2 s2 ps _ _ h => ?_
  cases h
  exact .nil
theorem dq_cons (ha : DP X e f) (hr : DQ X es r) (hs : starEach (e :: es) X.env = (false, eval e X.env) :: starEach es X.env := by rfl) : DQ X (e :: es) (qC f r) := by
  refine PA.imp (pa_cons ha hr hs) ?_
  rintro σ H Q ⟨g, s, as, s', rfl, hs, hf, k⟩
  obtain ⟨a, ha, hf⟩ := bind_inv hf
  obtain ⟨b, hb, hf⟩ := map_inv hf
  cases hf
  refine ⟨g, s, a.1, a.2, rfl, hs, ha, fun v g1 s1 e1 r1 => ⟨g1, a.2, b.1, b.2, rfl, s1, hb, fun vs g2 s2 e2 r2 => ?_⟩⟩
  refine k (v :: vs) g2 s2 (e1.trans e2) fun g3 s3 ps h3 e3 h => ?_
  obtain ⟨p, hp, h⟩ := bind_inv h
  obtain ⟨qs, hq, rfl⟩ := map_inv h
  exact .cons (r1 g3 s3 p h3 (e2.trans e3) hp) (r2 g3 s3 qs h3 e3 hq)
end
def CallD (X : Cx) (c : Value) (fo : List PV → Option PV) : Prop := ∃ r, CallR X c r ∧
  ∀ (g : Gh) (σ : L2.St) (s : S) (vs : List V) (ps : List PV) (z : PV) (Q : VK), Sat X.K g σ s none → PkA X.K g vs ps → fo ps = some z →
    (∀ v g', Sat X.K g' σ s none → Ext g g' → Rp X.K g'.js g'.F v z → Q v g'.H) → r vs g.H Q
def CallO (X : Cx) (c : Value) (fo : List PV → Option MV) : Prop := ∃ r, CallR X c r ∧
  ∀ (g : Gh) (σ : L2.St) (s : S) (vs : List V) (ps : List PV) (z : MV) (Q : VK), Sat X.K g σ s none → PkA X.K g vs ps → fo ps = some z →
    (∀ v g', Sat X.K g' σ s (some (v, z)) → Ext g g' → Q v g'.H) → r vs g.H Q
def dCall (fo : List PV → Option PV) (f : QFn) : DF := fun s => (f s).bind fun a => (rdAll a.1 a.2).bind fun ps => (fo ps).map fun z => (z, a.2)
def mCall (fo : List PV → Option MV) (f : QFn) : OF := fun s => (f s).bind fun a => (rdAll a.1 a.2).bind fun ps => (fo ps).map fun z => (z, a.2)
section
variable {X : Cx} {x : Str} {p pos : Pos} {e : Expr} {es : List Expr} {id T : String} {f : QFn} {c : Value}
theorem de_callG {fo : List PV → Option PV} (hc : CallD X c fo) (h : ∀ r, CallR X c r → PE X e (tCB r (tQ X.K f))) : DE X e (dCall fo f) := by
  obtain ⟨r, h1, h2⟩ := hc
  refine PE.imp (h r h1) ?_
  rintro σ H Q ⟨g, s, z, s', rfl, hs, hf, k⟩
  obtain ⟨a, ha, hf⟩ := bind_inv hf
  obtain ⟨ps, hp, hf⟩ := bind_inv hf
  obtain ⟨z', hz, hf⟩ := map_inv hf
  cases hf
  refine ⟨g, s, a.1, a.2, rfl, hs, ha, fun vs g1 s1 e1 r1 => ?_⟩
  exact h2 g1 σ _ vs ps _ Q s1 (r1 g1 _ ps s1 (Ext.refl _) hp) hz fun v g3 s3 e3 r3 => k v g3 s3 (e1.trans e3) r3
theorem do_callG {fo : List PV → Option MV} (hc : CallO X c fo) (h : ∀ r, CallR X c r → PE X e (tCB r (tQ X.K f))) : DO X e (mCall fo f) := by
  obtain ⟨r, h1, h2⟩ := hc
  refine PE.imp (h r h1) ?_
  rintro σ H Q ⟨g, s, z, s', rfl, hs, hf, k⟩
  obtain ⟨a, ha, hf⟩ := bind_inv hf
  obtain ⟨ps, hp, hf⟩ := bind_inv hf
  obtain ⟨z', hz, hf⟩ := map_inv hf
  cases hf
  refine ⟨g, s, a.1, a.2, rfl, hs, ha, fun vs g1 s1 e1 r1 => ?_⟩
  exact h2 g1 σ _ vs ps _ Q s1 (r1 g1 _ ps s1 (Ext.refl _) hp) hz fun v g3 s3 e3 => k v g3 s3 (e1.trans e3)
theorem de_callB {fo : List PV → Option PV} (hc : CallD X (.builtin id) fo) (hg : Gl X x) (hm : X.mg x = none) (hv : bootBuiltins x = some (.builtin id)) (ha : DQ X (e :: es) f) (hn : x ≠ "__name__" := by decide) (hdb : (x == ("__debug__" : Str)) = false := by decide)
    (he : starEach (e :: es) X.env = (false, eval e X.env) :: starEach es X.env := by rfl) (hpl : (backTo pos (starEach es X.env)).any (·.1) = false := by rfl) : DE X (.Call (.Name x p) (e :: es) [] pos) (dCall fo f) :=
  de_callG hc fun r h => pe_callB h hg hm hv ha hn hdb he hpl
theorem de_callTy {fo : List PV → Option PV} (hc : CallD X (.type T) fo) (hg : Gl X x) (hm : X.mg x = none) (hv : bootBuiltins x = some (.type T)) (ha : DQ X (e :: es) f) (hn : x ≠ "__name__" := by decide) (hdb : (x == ("__debug__" : Str)) = false := by decide)
    (he : starEach (e :: es) X.env = (false, eval e X.env) :: starEach es X.env := by rfl) (hpl : (backTo pos (starEach es X.env)).any (·.1) = false := by rfl) : DE X (.Call (.Name x p) (e :: es) [] pos) (dCall fo f) :=
  de_callG hc fun r h => pe_callTy h hg hm hv ha hn hdb he hpl
theorem do_callB {fo : List PV → Option MV} (hc : CallO X (.builtin id) fo) (hg : Gl X x) (hm : X.mg x = none) (hv : bootBuiltins x = some (.builtin id)) (ha : DQ X (e :: es) f) (hn : x ≠ "__name__" := by decide) (hdb : (x == ("__debug__" : Str)) = false := by decide)
    (he : starEach (e :: es) X.env = (false, eval e X.env) :: starEach es X.env := by rfl) (hpl : (backTo pos (starEach es X.env)).any (·.1) = false := by rfl) : DO X (.Call (.Name x p) (e :: es) [] pos) (mCall fo f) :=
  do_callG hc fun r h => pe_callB h hg hm hv ha hn hdb he hpl
theorem do_callTy {fo : List PV → Option MV} (hc : CallO X (.type T) fo) (hg : Gl X x) (hm : X.mg x = none) (hv : bootBuiltins x = some (.type T)) (ha : DQ X (e :: es) f) (hn : x ≠ "__name__" := by decide) (hdb : (x == ("__debug__" : Str)) = false := by decide)
    (he : starEach (e :: es) X.env = (false, eval e X.env) :: starEach es X.env := by rfl) (hpl : (backTo pos (starEach es X.env)).any (·.1) = false := by rfl) : DO X (.Call (.Name x p) (e :: es) [] pos) (mCall fo f) :=
  do_callG hc fun r h => pe_callTy h hg hm hv ha hn hdb he hpl
end
section
variable {X : Cx}
theorem PkA.one {K : PySem.W.Frag} {g : Gh} {vs : List V} {p : PV} (h : PkA K g vs [p]) : ∃ v, vs = [v] ∧ Pk K g v p := by
  cases h with
  | cons h q =>
    cases q
    exact ⟨_, rfl, h⟩
theorem PkA.two {K : PySem.W.Frag} {g : Gh} {vs : List V} {p q : PV} (h : PkA K g vs [p, q]) : ∃ v u, vs = [v, u] ∧ Pk K g v p ∧ Pk K g u q := by
  cases h with
  | cons h q =>
    obtain ⟨u, rfl, r⟩ := q.one
    exact ⟨_, u, rfl, h, r⟩
/-- len -/
def bLen : List PV → Option PV
  | [.lst ps] => some (.int ps.length)
  | [.lsk ps] => some (.int ps.length)
  | [.tup ps] => some (.int ps.length)
  | [.str x] => if x.length ≤ 100000 then some (.int x.length) else none
  | _ => none
theorem bLenD : CallD X (.builtin "len") bLen := ⟨_, call_len, fun g σ s vs ps z Q hs hv hf k => by
  unfold bLen at hf
  split at hf
  · cases hf
    obtain ⟨v, rfl, h⟩ := hv.one
    obtain ⟨a, us, rfl, h1, h2⟩ := h.lst hs
    exact ⟨_, us.length, rfl, Or.inl ⟨us, Or.inl (Or.inl h1), rfl⟩, by rw [h2.length]; exact k _ g hs (Ext.refl g) (.int _)⟩
  · cases hf
    obtain ⟨v, rfl, h⟩ := hv.one
    obtain ⟨m, fp, q, e⟩ := h
    cases q <;> cases e
    rename_i q
    cases q with
    | lsk h1 h2 => exact ⟨_, _, rfl, Or.inl ⟨_, SqL.le hs.o.sub h1, rfl⟩, by rw [h2.length]; exact k _ g hs (Ext.refl g) (.int _)⟩
  · cases hf
    obtain ⟨v, rfl, h⟩ := hv.one
    obtain ⟨a, us, rfl, h1, h2⟩ := h.tup hs
    exact ⟨_, us.length, rfl, Or.inr ⟨us, h1, rfl⟩, by rw [h2.length]; exact k _ g hs (Ext.refl g) (.int _)⟩
  · split at hf
    · rename_i hl
      cases hf
      obtain ⟨v, rfl, h⟩ := hv.one
      obtain rfl := h.str
      exact ⟨_, _, rfl, ⟨sz_ok hl, rfl⟩, k _ g hs (Ext.refl g) (.int _)⟩
    · cases hf
  · cases hf⟩
def bAbs : List PV → Option PV
  | [.int i] => some (.int (if i < 0 then -i else i))
  | _ => none
theorem bAbsD : CallD X (.builtin "abs") bAbs := ⟨_, call_abs, fun g σ s vs ps z Q hs hv hf k => by
  unfold bAbs at hf
  split at hf
  · cases hf
    obtain ⟨v, rfl, h⟩ := hv.one
    exact ⟨_, by rw [h.int], k _ g hs (Ext.refl g) (.int _)⟩
  · cases hf⟩
def bMax2 : List PV → Option PV
  | [.int i, .int j] => some (.int (if j > i then j else i))
  | _ => none
def bMin2 : List PV → Option PV
  | [.int i, .int j] => some (.int (if j < i then j else i))
  | _ => none
theorem bMax2D (hc : X.calm = true) : CallD X (.builtin "max") bMax2 := ⟨_, call_max2 hc, fun g σ s vs ps z Q hs hv hf k => by
  unfold bMax2 at hf
  split at hf
  · cases hf
    obtain ⟨v, u, rfl, h, h2⟩ := hv.two
    exact ⟨_, _, by rw [h.int, h2.int], k _ g hs (Ext.refl g) (.int _)⟩
  · cases hf⟩
theorem bMin2D (hc : X.calm = true) : CallD X (.builtin "min") bMin2 := ⟨_, call_min2 hc, fun g σ s vs ps z Q hs hv hf k => by
  unfold bMin2 at hf
  split at hf
  · cases hf
    obtain ⟨v, u, rfl, h, h2⟩ := hv.two
    exact ⟨_, _, by rw [h.int, h2.int], k _ g hs (Ext.refl g) (.int _)⟩
  · cases hf⟩
def bDivmod : List PV → Option PV
  | [.int i, .int j] => if divOk i j = true then some (.tup [.int (i / j), .int (i % j)]) else none
  | _ => none
theorem divOk_inv {i j : Int} (h : divOk i j = true) : CDiv i j := by simpa [divOk, CDiv] using h
theorem bDivmodD : CallD X (.builtin "divmod") bDivmod := ⟨_, call_divmod, fun g σ s vs ps z Q hs hv hf k => by
  unfold bDivmod at hf
  split at hf
  · split at hf
    · rename_i hl
      cases hf
      obtain ⟨v, u, rfl, h, h2⟩ := hv.two
      exact ⟨_, _, by rw [h.int, h2.int], divOk_inv hl, new_tup hs (.cons (.int _) (.one (.int _))) k⟩
    · cases hf
  · cases hf⟩
def bInt : List PV → Option PV
  | [.int i] => some (.int i)
  | [.bl b] => some (.int (if b then 1 else 0))
  | _ => none
theorem bIntD : CallD X (.type "int") bInt := ⟨_, call_int1, fun g σ s vs ps z Q hs hv hf k => by
  unfold bInt at hf
  split at hf
  · cases hf
    obtain ⟨v, rfl, h⟩ := hv.one
    exact Or.inl ⟨_, by rw [h.int], k _ g hs (Ext.refl g) (.int _)⟩
  · cases hf
    obtain ⟨v, rfl, h⟩ := hv.one
    exact Or.inr ⟨_, by rw [h.bl], k _ g hs (Ext.refl g) (.int _)⟩
  · cases hf⟩
/-- lists of bools, of ints -/
def PV.bls : List PV → Option (List Bool)
  | [] => some []
  | .bl b :: r => (PV.bls r).map fun bs => b :: bs
  | _ => none
def PV.ints : List PV → Option (List Int)
  | [] => some []
  | .int i :: r => (PV.ints r).map fun bs => i :: bs
  | _ => none
theorem bls_rp {K : PySem.W.Frag} {js : List Addr} {F : Hp} : ∀ {vs : List V} {ps : List PV} {bs : List Bool}, RpA K js F vs ps → PV.bls ps = some bs → vs = bs.map V.bl
  | _, _, _, .nil, e => by
    cases e
    rfl
  | _, _, _, .cons h q, e => by
    cases h <;> try cases e
    obtain ⟨bs, hb, rfl⟩ := map_inv e
    rw [bls_rp q hb]
    rfl
theorem ints_rp {K : PySem.W.Frag} {js : List Addr} {F : Hp} : ∀ {vs : List V} {ps : List PV} {bs : List Int}, RpA K js F vs ps → PV.ints ps = some bs → vs = bs.map V.int
  | _, _, _, .nil, e => by
    cases e
    rfl
  | _, _, _, .cons h q, e => by
    cases h <;> try cases e
    obtain ⟨bs, hb, rfl⟩ := map_inv e
    rw [ints_rp q hb]
    rfl
def bAll : List PV → Option PV
  | [.lst ps] => (PV.bls ps).map fun bs => .bl (bs.all id)
  | _ => none
def bAny : List PV → Option PV
  | [.lst ps] => (PV.bls ps).map fun bs => .bl (bs.any id)
  | _ => none
theorem bAllD (hc : X.calm = true) : CallD X (.builtin "all") bAll := ⟨_, cr_all hc, fun g σ s vs ps z Q hs hv hf k => by
  unfold bAll at hf
  split at hf
  · obtain ⟨bs, hb, rfl⟩ := map_inv hf
    obtain ⟨v, rfl, h⟩ := hv.one
    obtain ⟨a, us, rfl, h1, h2⟩ := h.lst hs
    obtain rfl := bls_rp h2 hb
    exact ⟨a, bs, rfl, Or.inl (Or.inl h1), k _ g hs (Ext.refl g) (.bl _)⟩
  · cases hf⟩
theorem bAnyD (hc : X.calm = true) : CallD X (.builtin "any") bAny := ⟨_, cr_any hc, fun g σ s vs ps z Q hs hv hf k => by
  unfold bAny at hf
  split at hf
  · obtain ⟨bs, hb, rfl⟩ := map_inv hf
    obtain ⟨v, rfl, h⟩ := hv.one
    obtain ⟨a, us, rfl, h1, h2⟩ := h.lst hs
    obtain rfl := bls_rp h2 hb
    exact ⟨a, bs, rfl, Or.inl (Or.inl h1), k _ g hs (Ext.refl g) (.bl _)⟩
  · cases hf⟩
/-- list(x), tuple(x) of a list or tuple -/
def bList : List PV → Option MV
  | [p] => p.items.map fun ps => .mlst ps
  | _ => none
theorem items_F {g : Gh} {σ : L2.St} {s : S} {v : V} {p : PV} {ps : List PV} (hs : Sat X.K g σ s none) (h : Pk X.K g v p) (e : p.items = some ps) :
    ∃ a vs, v = .ref a ∧ (SqL X.K g.H a vs ∨ SqT X.K g.H a vs) ∧ RpA X.K g.js g.F vs ps := by
  obtain ⟨m, fp, q, rfl⟩ := h
  cases q with
  | val q =>
    obtain ⟨a, vs, rfl, h, r⟩ := q.seq e
    exact ⟨a, vs, rfl, h.imp (SqL.le hs.o.sub) (SqT.le hs.o.sub), r⟩
  | lst a q =>
    cases e
    exact ⟨_, _, rfl, Or.inl (Or.inl (Or.inl a)), q⟩
  | dct a q => cases e
  | obj a b q => cases e
theorem bListO : CallO X (.type "list") bList := ⟨_, call_list_of, fun g σ s vs ps z Q hs hv hf k => by
  unfold bList at hf
  split at hf
  · obtain ⟨qs, he, rfl⟩ := map_inv hf
    obtain ⟨v, rfl, h⟩ := hv.one
    obtain ⟨a, us, rfl, h1, h2⟩ := items_F hs h he
    exact ⟨a, us, rfl, h1, new_lstO hs h2 k⟩
  · cases hf⟩
def bTuple : List PV → Option PV
  | [.lst ps] => some (.tup ps)
  | [.tup ps] => some (.tup ps)
  | _ => none
theorem bTupleD : CallD X (.type "tuple") bTuple := ⟨_, call_tuple_of, fun g σ s vs ps z Q hs hv hf k => by
  unfold bTuple at hf
  split at hf
  · cases hf
    obtain ⟨v, rfl, h⟩ := hv.one
    obtain ⟨a, us, rfl, h1, h2⟩ := h.lst hs
    exact ⟨a, us, rfl, Or.inl ⟨Or.inl (Or.inl h1), new_tup hs h2 k⟩⟩
  · cases hf
    obtain ⟨v, rfl, h⟩ := hv.one
    obtain ⟨a, us, rfl, h1, h2⟩ := h.tup hs
    refine ⟨a, us, rfl, Or.inr ⟨h1, k _ g hs (Ext.refl g) ?_⟩⟩
    obtain ⟨m, fp, q, e⟩ := h
    cases q <;> cases e
    assumption
  · cases hf⟩
/-- repr of data -/
def bRepr : List PV → Option PV
  | [p] => match p.dat with
    | some d => if d.showable = true ∧ d.hasDict = false ∧ d.depth ≤ 60 ∧ d.shown.length ≤ 100000 then some (.str (shownI d)) else none
    | none => none
  | _ => none
theorem bReprD (hg : NoG X.A) (hu : X.A.units + 64 < cLine) : CallD X (.builtin "repr") bRepr := ⟨_, call_repr_data hg hu, fun g σ s vs ps z Q hs hv hf k => by
  unfold bRepr at hf
  split at hf
  · split at hf
    · rename_i d hd
      split at hf
      · rename_i hh
        cases hf
        obtain ⟨v, rfl, h⟩ := hv.one
        exact ⟨v, d, rfl, (h.inH hs).dp hd, hh.1, hh.2.1, hh.2.2.1, sz_ok hh.2.2.2, k _ g hs (Ext.refl g) (.str _)⟩
      · cases hf
    · cases hf
  · cases hf⟩
/-! ### isinstance with built-in types -/
def PV.kind : PV → Option BT
  | .non => some .non
  | .bl _ => some .bl
  | .int _ => some .int
  | .str _ => some .str
  | .lst _ => some .lst
  | .lsk _ => some .lst
  | .tup _ => some .tup
  | .dct _ _ => some .dct
  | _ => none
theorem Rp.kn {K : PySem.W.Frag} {js : List Addr} {H : Hp} {v : V} {p : PV} {n : BT} (h : Rp K js H v p) (e : p.kind = some n) : Kn K H v n := by
  cases h <;> cases e
  · exact .non
  · exact .bl _
  · exact .int _
  · exact .str _
  · exact .lst (Or.inl (Or.inl (by assumption)))
  · exact .lst (by assumption)
  · exact .tup (by assumption)
  · exact .dct (by assumption)
def bIsi (c : BT) : List PV → Option PV
  | [p, .ty n] => if n = c.nm then p.kind.map fun k => .bl (isiB k c) else none
  | _ => none
theorem bIsiD (c : BT) (hc : c ≠ .non := by decide) : CallD X (.builtin "isinstance") (bIsi c) := ⟨_, call_isi, fun g σ s vs ps z Q hs hv hf k => by
  unfold bIsi at hf
  split at hf
  · split at hf
    · rename_i hn
      subst hn
      obtain ⟨n, hk, rfl⟩ := map_inv hf
      obtain ⟨v, u, rfl, h, h2⟩ := hv.two
      rw [h2.ty]
      exact isi_kn c ((h.inH hs).kn hk) (k _ g hs (Ext.refl g) (.bl _)) hc
    · cases hf
  · cases hf⟩
def rIsiQ (K : PySem.W.Frag) : List V → Hp → VK → Prop := fun xs H Q => ∃ (x : V) (tp : Addr) (cs : List V) (t : Value) (us : List Value) (b : Bool), xs = [x, .ref tp] ∧ SqT K H tp cs ∧ Paired ClsV cs us ∧ TyX K H x t ∧ PySem.W.kitAny K t us = some b ∧ Q (.bl b) H
theorem call_isiQ : CallR X (.builtin "isinstance") (rIsiQ X.K) := by
  intro pins s σ H xs us Q I r h
  obtain ⟨x, tp, cs, t, ws, b, rfl, hT, k, ty, e, q⟩ := h
  obtain ⟨u1, u2, rfl, r1, r2⟩ := vals2 r
  cases (show u2 = Value.ref tp from r2)
  obtain ⟨P, Z, p, hx⟩ := kit_of I r1 ty
  obtain ⟨its, rv, hT, _⟩ := I.tuple hT
  obtain ⟨o, h1, h2, n, h3⟩ := hT
  have e3 := ClsV.all k rv
  subst e3
  obtain ⟨oc, od, dt, sl⟩ := o
  simp only at h2 h3
  subst h2 h3
  exact PySem.W.kia_tup Z I.kIn p h1 e hx fun tk => ⟨.bl b, H, I.tok tk, rfl, q⟩
def PV.tys : List PV → Option (List String)
  | [] => some []
  | .ty n :: r => (PV.tys r).map fun ns => n :: ns
  | _ => none
theorem tys_rp {K : PySem.W.Frag} {js : List Addr} {F : Hp} : ∀ {vs : List V} {ps : List PV} {ns : List String}, RpA K js F vs ps → PV.tys ps = some ns → Paired ClsV vs (ns.map Value.type)
  | _, _, _, .nil, e => by
    cases e
    exact .nil
  | _, _, _, .cons h q, e => by
    cases h <;> try cases e
    obtain ⟨bs, hb, rfl⟩ := map_inv e
    exact .cons (.ty _) (tys_rp q hb)
def bIsiT (cs : List BT) : List PV → Option PV
  | [p, .tup ts] => match PV.tys ts, p.kind with
    | some ns, some k => if ns = cs.map BT.nm ∧ (∀ c ∈ cs, c ≠ .non) then some (.bl (cs.any fun c => isiB k c)) else none
    | _, _ => none
  | _ => none
theorem kit_any {K : PySem.W.Frag} {k : BT} : ∀ {cs : List BT}, (∀ c ∈ cs, c ≠ .non) → PySem.W.kitAny K (.type k.nm) ((cs.map BT.nm).map Value.type) = some (cs.any fun c => isiB k c)
  | [], _ => kitAny_nil
  | c :: cs, h => kitAny_cons (b := isiB k c) (kit_ty (kit_menu (h c List.mem_cons_self))) (fun e => by
      rw [kit_any (cs := cs) fun d hd => h d (List.mem_cons_of_mem _ hd), List.any_cons, e]
      rfl) (fun e => by rw [List.any_cons, e]; rfl)
theorem bIsiTD (cs : List BT) : CallD X (.builtin "isinstance") (bIsiT cs) := ⟨_, call_isiQ, fun g σ s vs ps z Q hs hv hf k => by
  unfold bIsiT at hf
  split at hf
  · split at hf
    · rename_i ns n h1 h2
      split at hf
      · rename_i hh
        cases hf
        obtain ⟨v, u, rfl, h, h3⟩ := hv.two
        obtain ⟨a, us, rfl, h4, h5⟩ := h3.tup hs
        have h6 := tys_rp h5 h1
        rw [hh.1] at h6
        exact ⟨v, a, us, _, _, _, rfl, h4, h6, ((h.inH hs).kn h2).ty, kit_any hh.2, k _ g hs (Ext.refl g) (.bl _)⟩
      · cases hf
    · cases hf
  · cases hf⟩
end
/-! ### slices -/
abbrev LF := S → Option (Option Int × S)
def tL (K : PySem.W.Frag) (f : LF) : TO := fun σ H Q => ∃ g s o s', g.H = H ∧ Sat K g σ s none ∧ f s = some (o, s') ∧ ∀ g', Sat K g' σ s' none → Ext g g' → Q o g'.H
abbrev DL (X : Cx) (e : Option Expr) (f : LF) : Prop := PO X e (tL X.K f)
def lNone : LF := fun s => some (none, s)
def lSome (f : DF) : LF := fun s => (f s).bind fun a => match a.1 with
  | .int i => some (some i, a.2)
  | _ => none
theorem PO.imp {X : Cx} {e : Option Expr} {t t' : TO} (h : PO X e t) (i : ∀ σ H Q, t' σ H Q → t σ H Q) : PO X e t' := ⟨fun pins s σ H Q I q => h.run pins s σ H Q I (i σ H Q q)⟩
def dSlT (fa : PF) (fl fh : LF) : DF := fun s => (fa s).bind fun a => (fl a.2).bind fun l => (fh l.2).bind fun h => match a.1 h.2 with
  | some (.tup ps) => some (.tup ((ps.drop (HT.sIx ps.length 0 l.1)).take (HT.sIx ps.length ps.length h.1 - HT.sIx ps.length 0 l.1)), h.2)
  | _ => none
def mSlL (fa : PF) (fl fh : LF) : OF := fun s => (fa s).bind fun a => (fl a.2).bind fun l => (fh l.2).bind fun h => match a.1 h.2 with
  | some (.lst ps) => some (.mlst ((ps.drop (HT.sIx ps.length 0 l.1)).take (HT.sIx ps.length ps.length h.1 - HT.sIx ps.length 0 l.1)), h.2)
  | _ => none
theorem cut_le {n d : Nat} {o : Option Int} (h : d ≤ n) : HT.sIx n d o ≤ n := by
  cases o with
  | none => simpa [HT.sIx] using h
  | some i =>
    simp only [HT.sIx]
    split <;> omega
section
variable {X : Cx} {e : Expr} {lo hi : Option Expr} {pos p2 : Pos} {fa : PF} {fl fh : LF}
theorem dl_none : DL X none lNone := by
  refine PO.imp po_none ?_
  rintro σ H Q ⟨g, s, o, s', rfl, hs, hf, k⟩
  cases hf
  exact k g hs (Ext.refl g)
theorem dl_some {f : DF} (h : DE X e f) : DL X (some e) (lSome f) := by
  refine PO.imp (po_some h) ?_
  rintro σ H Q ⟨g, s, o, s', rfl, hs, hf, k⟩
  obtain ⟨a, ha, hf⟩ := bind_inv hf
  obtain ⟨p, s1⟩ := a
  refine ⟨g, s, p, s1, rfl, hs, ha, fun v g1 h1 e1 r1 => ?_⟩
  split at hf
  · rename_i q
    cases q
    cases r1
    cases hf
    exact ⟨_, rfl, k g1 h1 e1⟩
  · cases hf
theorem de_slT (he : DP X e fa) (hl : DL X lo fl) (hu : DL X hi fh) : DE X (.Subscript e (.Slice lo hi none p2) pos) (dSlT fa fl fh) := by
  refine PE.imp (pe_slice sl_tupA he hl hu) ?_
  rintro σ H Q ⟨g, s, p, s', rfl, hs, hf, k⟩
  obtain ⟨a, ea, hf⟩ := bind_inv hf
  obtain ⟨l, el, hf⟩ := bind_inv hf
  obtain ⟨h, eh, hf⟩ := bind_inv hf
  split at hf
  · rename_i ps hp
    cases hf
    refine ⟨g, s, a.1, a.2, rfl, hs, ea, fun x g1 s1 e1 r1 => ⟨g1, a.2, l.1, l.2, rfl, s1, el, fun g2 s2 e2 => ⟨g2, l.2, h.1, h.2, rfl, s2, eh, fun g3 s3 e3 => ?_⟩⟩⟩
    have r := r1 g3 _ _ s3 (e2.trans e3) hp
    obtain ⟨c, vs, rfl, h1, h2⟩ := r.tup s3
    have hz := h2.length
    have e13 := (e1.trans e2).trans e3
    refine ⟨c, vs, rfl, h1, fun hw => ?_, fun hw => ?_⟩
    · rw [hz] at hw
      refine k _ g3 s3 e13 ?_
      rw [hw.1, hw.2, List.drop_zero, Nat.sub_zero, List.take_length]
      obtain ⟨m, fp, q, e⟩ := r
      cases q <;> cases e
      assumption
    · unfold cutV
      rw [hz]
      exact new_tup s3 ((h2.drop _).take _) fun v g4 s4 e4 r4 => k v g4 s4 (e13.trans e4) r4
  · cases hf
theorem do_slL (he : DP X e fa) (hl : DL X lo fl) (hu : DL X hi fh) : DO X (.Subscript e (.Slice lo hi none p2) pos) (mSlL fa fl fh) := by
  refine PE.imp (pe_slice sl_list he hl hu) ?_
  rintro σ H Q ⟨g, s, p, s', rfl, hs, hf, k⟩
  obtain ⟨a, ea, hf⟩ := bind_inv hf
  obtain ⟨l, el, hf⟩ := bind_inv hf
  obtain ⟨h, eh, hf⟩ := bind_inv hf
  split at hf
  · rename_i ps hp
    cases hf
    refine ⟨g, s, a.1, a.2, rfl, hs, ea, fun x g1 s1 e1 r1 => ⟨g1, a.2, l.1, l.2, rfl, s1, el, fun g2 s2 e2 => ⟨g2, l.2, h.1, h.2, rfl, s2, eh, fun g3 s3 e3 => ?_⟩⟩⟩
    have r := r1 g3 _ _ s3 (e2.trans e3) hp
    obtain ⟨c, vs, rfl, h1, h2⟩ := r.lst s3
    have hz := h2.length
    have e13 := (e1.trans e2).trans e3
    refine ⟨c, vs, rfl, Or.inl (Or.inl h1), ?_⟩
    unfold cutV
    rw [hz]
    exact new_lstO s3 ((h2.drop _).take _) fun v g4 s4 e4 => k v g4 s4 (e13.trans e4)
  · cases hf
end
/-! ### attributes of instances -/
def lookP : List Str → List PV → Str → Option PV
  | n :: ns, p :: ps, f => if f == n then some p else lookP ns ps f
  | _, _, _ => none
theorem lookP_rp {K : PySem.W.Frag} {js : List Addr} {F : Hp} {f : Str} {p : PV} : ∀ {fs : List (Str × V)} {ps : List PV}, RpA K js F (fs.map (·.2)) ps → lookP (fs.map (·.1)) ps f = some p → ∃ v, fs.lookup f = some v ∧ Rp K js F v p
  | [], _, h, e => by
    cases h
    simp [lookP] at e
  | (n, v) :: fs, _, h, e => by
    cases h with
    | cons h q =>
      simp only [List.map_cons, lookP] at e
      split at e
      · rename_i hn
        cases e
        exact ⟨v, by rw [List.lookup_cons, hn], h⟩
      · rename_i hn
        obtain ⟨u, h1, h2⟩ := lookP_rp q e
        have hn' : (f == n) = false := by simpa using hn
        exact ⟨u, by rw [List.lookup_cons, hn']; exact h1, h2⟩
def oFld (C : Addr) (f : Str) : PV → Option PV
  | .obj D fs ps => if D = C then lookP fs ps f else none
  | _ => none
def dFld (C : Addr) (f : Str) (fa : PF) : DF := fun s => (fa s).bind fun a => (a.1 a.2).bind fun p => (oFld C f p).map fun z => (z, a.2)
theorem de_fld {X : Cx} {e : Expr} {f : Str} {pos : Pos} {C : Addr} {fa : PF} (he : DP X e fa) (hC : Cls X.K C) (hn : NoAttr X.K C f) (hb : attributeBase e f X.env (eval e X.env) = eval e X.env := by rfl) : DE X (.Attribute e f pos) (dFld C f fa) := by
  refine PE.imp (pe_fld he hb) ?_
  rintro σ H Q ⟨g, s, z, s', rfl, hs, hf, k⟩
  obtain ⟨a, ha, hf⟩ := bind_inv hf
  obtain ⟨p, hp, hf⟩ := bind_inv hf
  obtain ⟨z', hz, hf⟩ := map_inv hf
  cases hf
  refine ⟨g, s, a.1, a.2, rfl, hs, ha, fun v g1 s1 e1 r1 => ?_⟩
  have r := r1 g1 _ p s1 (Ext.refl _) hp
  unfold oFld at hz
  split at hz
  · split at hz
    · rename_i hD
      subst hD
      obtain ⟨b, dx, vs, rfl, h1, rfl, h2⟩ := r.obj s1
      obtain ⟨v, h3, h4⟩ := lookP_rp h2 hz
      exact ⟨b, _, dx, vs, v, rfl, h1, hC, hn, h3, k v g1 s1 e1 h4⟩
    · cases hz
  · cases hz
end DD
/-! E6: targets, statements, methods of lists. -/
namespace DD
open PySem L2 GG PySem.Spec PyProof.Rows

/-! ### targets -/
theorem Only.refl {ts : List Nat} {σ : L2.St} : Only ts σ σ := ⟨rfl, fun _ _ => rfl⟩
theorem Only.trans {ts us : List Nat} {a b c : L2.St} (e : Only ts a b) (f : Only us b c) : Only (ts ++ us) a c :=
  ⟨f.1.trans e.1, fun i h => by
    have h1 : i ∉ ts := fun z => h (List.mem_append_left _ z)
    have h2 : i ∉ us := fun z => h (List.mem_append_right _ z)
    rw [f.2 i h2, e.2 i h1]⟩
theorem Only.set {σ : L2.St} {i : Nat} {v : Option V} : Only [i] σ (σ.set i v) := ⟨by simp, fun j hj => by
  rw [List.getElem?_set_ne]
  rintro rfl
  exact hj List.mem_cons_self⟩
theorem Only.pin {ts io : List Nat} {σ σ' : L2.St} (h : Only ts σ σ') (d : ∀ i ∈ io, i ∉ ts) : Pin io σ σ' := fun i hi => h.2 i (d i hi)
def gNm (i : Nat) : GF := fun p s => if i < s.env.length then some (s.set i (some (.val p))) else none
abbrev GsF := List PV → S → Option S
def tGs (K : PySem.W.Frag) (ts : List Nat) (f : GsF) : TGs := fun vs σ H Q => ∃ g s ps s', g.H = H ∧ Sat K g σ s none ∧ RpA K g.js g.F vs ps ∧ f ps s = some s' ∧
  ∀ σ' g', Sat K g' σ' s' none → Ext g g' → Only ts σ σ' → Q σ' g'.H
abbrev DGs (X : Cx) (ts : List Nat) (es : List Expr) (f : GsF) : Prop := PGs X es (tGs X.K ts f)
def gsNil : GsF := fun ps s => match ps with
  | [] => some s
  | _ => none
def gsC (f : GF) (r : GsF) : GsF := fun ps s => match ps with
  | p :: qs => (f p s).bind fun s1 => r qs s1
  | _ => none
def gTp (n : Nat) (f : GsF) : GF := fun p s => match p with
  | .tup ps => if ps.length = n then f ps s else none
  | _ => none
theorem PGs.imp {X : Cx} {es : List Expr} {t t' : TGs} (h : PGs X es t) (i : ∀ v σ H Q, t' v σ H Q → t v σ H Q) : PGs X es t' := ⟨fun pins s σ H v u Q I r q => h.run pins s σ H v u Q I r (i v σ H Q q)⟩
section
variable {X : Cx} {x : Str} {pos : Pos} {i : Nat} {e : Expr} {es : List Expr} {ts us : List Nat} {f : GF} {fs : GsF}
theorem dg_name (hN : X.N.Nodup) (hi : X.N[i]? = some x) (hx : Loc X.env.scope x) (hf : X.fn x = true ∨ X.env.scope.names.lookup x = some .local := by first | exact .inl rfl | exact .inr rfl | assumption) : DG X [i] (.Name x pos) (gNm i) := by
  refine PG.imp (pg_name hN hi hx hf) ?_
  rintro v σ H Q ⟨g, s, p, s', rfl, hs, r, hf, k⟩
  unfold gNm at hf
  split at hf
  · rename_i hl
    cases hf
    obtain ⟨h1, h2⟩ := hs.setVal hl r
    exact (k _ _ h1 h2 Only.set :)
  · cases hf
theorem dgs_nil : DGs X [] [] gsNil := by
  refine PGs.imp pgs_nil ?_
  rintro vs σ H Q ⟨g, s, ps, s', rfl, hs, r, hf, k⟩
  unfold gsNil at hf
  split at hf
  · cases hf
    cases r
    exact ⟨rfl, k σ g hs (Ext.refl g) Only.refl⟩
  · cases hf
theorem dgs_cons (h1 : DG X ts e f) (h2 : DGs X us es fs) (hs : (assignEach (e :: es) X.env).map (·.2) = assign e X.env :: (assignEach es X.env).map (·.2) := by rfl) : DGs X (ts ++ us) (e :: es) (gsC f fs) := by
  refine PGs.imp (pgs_cons h1 h2 hs) ?_
  rintro vs σ H Q ⟨g, s, ps, s', rfl, hs, r, hf, k⟩
  unfold gsC at hf
  split at hf
  · obtain ⟨s1, ha, hf⟩ := bind_inv hf
    cases r with
    | cons r rr =>
      refine ⟨_, _, rfl, g, s, _, s1, rfl, hs, r, ha, fun σ1 g1 h1 e1 o1 => ⟨g1, s1, _, s', rfl, h1, rr.ext e1, hf, fun σ2 g2 h2 e2 o2 => ?_⟩⟩
      exact k σ2 g2 h2 (e1.trans e2) (o1.trans o2)
  · cases hf
theorem dg_tup {k n : Nat} (hc : X.calm = true) (h : DGs X ts es fs) (hn : (assignEach es X.env).length = n := by rfl) (hst : (assignEach es X.env).findIdx? (·.1) = none := by rfl) : DG X ts (.Tuple es k pos) (gTp n fs) := by
  refine PG.imp (pg_tup hc h hn hst) ?_
  rintro v σ H Q ⟨g, s, p, s', rfl, hs, r, hf, k⟩
  unfold gTp at hf
  split at hf
  · split at hf
    · rename_i hl
      cases r with
      | tup h1 h2 => exact ⟨_, _, rfl, SqT.le hs.o.sub h1, h2.length.trans hl, g, s, _, s', rfl, hs, h2, hf, k⟩
    · cases hf
  · cases hf
end
/-- a slot's list changed -/
theorem Sat.mutL {K : PySem.W.Frag} {g : Gh} {σ : L2.St} {s : S} {i : Nat} {ps : List PV} (h : Sat K g σ s none) (e : s.env[i]? = some (some (.mlst ps))) :
    ∃ l vs, σ[i]? = some (some (.ref l)) ∧ g.H l = some (.lst vs) ∧ RpA K g.js g.F vs ps ∧ ∀ us qs, RpA K g.js g.F us qs →
      Sat K { g with H := upd g.H l (.lst us), fp := setK g.fp (.L i) [l] } σ (s.set i (some (.mlst qs))) none ∧ Ext g { g with H := upd g.H l (.lst us), fp := setK g.fp (.L i) [l] } := by
  obtain ⟨v, hv, r⟩ := h.loc e
  generalize hfp : g.fp (.L i) = fp at r
  cases r with
  | lst a q =>
    rename_i l vs
    refine ⟨l, vs, hv, a, q, fun us qs r => ?_⟩
    refine h.mut (v := .ref l) (fp := [l]) e hv (.lst upd_same r) (fun b hb => Or.inl (by rw [hfp]; exact hb)) (fun b o hb ho => ?_) fun b hb => upd_dom hb
    rw [upd_ne]
    · exact ho
    · rintro rfl
      rw [hfp] at hb
      exact hb List.mem_cons_self
def gIx (j : Nat) (fi : DF) : GF := fun p s => match s.env[j]? with
  | some (some _) => (fi s).bind fun a => match a.1, a.2.env[j]? with
    | .int i, some (some (.mlst ps)) => (ixN ps.length i).map fun k => a.2.set j (some (.mlst (ps.set k p)))
    | _, _ => none
  | _ => none
section
variable {X : Cx} {x : Str} {pos p2 : Pos} {j : Nat} {i : Expr} {fi : DF}
theorem dg_ix (hN : X.N[j]? = some x) (hv : Vis X.env.scope x) (hi : DE X i fi) (hd : (x == ("__debug__" : Str)) = false := by decide) (hcd : (x == ("__classdict__" : Str)) = false := by decide)
    (ha : ∀ v, assign (.Subscript (.Name x p2) i pos) X.env v = (do
      let ov ← holding [v] (eval (.Name x p2) X.env)
      let iv ← holding [v, ov] (eval i X.env)
      standAt pos
      holding [v, ov, iv] (setItem ov iv v)
      release [v, ov, iv] []) := by intro _; rfl) : DG X [] (.Subscript (.Name x p2) i pos) (gIx j fi) := by
  refine PG.imp (pg_sub (pe_var hN hv hd hcd) hi set_list ha) ?_
  rintro v σ H Q ⟨g, s, p, s', rfl, hs, r, hf, k⟩
  unfold gIx at hf
  split at hf
  · rename_i m hm
    obtain ⟨a, ha, hf⟩ := bind_inv hf
    obtain ⟨q, s1⟩ := a
    split at hf
    · rename_i n ps hq hm2
      obtain ⟨c, hc, hf⟩ := map_inv hf
      cases hf
      cases hq
      obtain ⟨u, hu, _⟩ := hs.loc hm
      refine ⟨u, hu, g, s, _, s1, rfl, hs, ha, fun iv g1 h1 e1 r1 => ?_⟩
      cases r1
      obtain ⟨l, vs, hl, hH, hr, hk⟩ := h1.mutL hm2
      rw [hu] at hl
      cases hl
      obtain ⟨h2, e2⟩ := hk _ _ (RpA.set (r.ext e1) c hr)
      exact ⟨l, vs, _, c, rfl, rfl, hH, by rw [hr.length]; exact hc, (k σ _ h2 (e1.trans e2) Only.refl :)⟩
    · cases hf
  · cases hf
end

/-! ### statements -/
def sNx : SF := fun s => some (.nx s)
def sSeq (f g : SF) : SF := fun s => (f s).bind fun o => match o with
  | .nx s' => g s'
  | o => some o
def sEx (f : DF) : SF := fun s => (f s).map fun a => .nx a.2
def sAsg (f : DF) (g : GF) : SF := fun s => (f s).bind fun a => (g a.1 a.2).map .nx
def sSetO (i : Nat) (f : OF) : SF := fun s => (f s).bind fun a => if i < a.2.env.length then some (.nx (a.2.set i (some a.1))) else none
def sRet (f : DF) : SF := fun s => (f s).map fun a => .rt (.val a.1) a.2
def sRetO (f : OF) : SF := fun s => (f s).map fun a => .rt a.1 a.2
def sRetNm (i : Nat) : SF := fun s => match s.env[i]? with
  | some (some m) => some (.rt m (s.set i none))
  | _ => none
def sRetN : SF := fun s => some (.rt (.val .non) s)
def sIf (c : TF) (f g : SF) : SF := fun s => (c s).bind fun b => if b.1 = true then f b.2 else g b.2
def sNever : SF := fun _ => none
def sBk : SF := fun s => some (.bk s)
def sCt : SF := fun s => some (.ct s)
theorem Fin.step {K : PySem.W.Frag} {io : List Nat} {g g1 : Gh} {σ σ1 : L2.St} {D : Ends} {o : Out} (e : Ext g g1) (p : Pin io σ σ1) (h : Fin K io g σ D o) : Fin K io g1 σ1 D o := by
  cases o with
  | nx s => exact fun σ' g' hs e' p' => h σ' g' hs (e.trans e') (p.trans p')
  | rt m s => exact fun v σ' g' hs e' p' => h v σ' g' hs (e.trans e') (p.trans p')
  | bk s => exact fun σ' g' hs e' p' => h σ' g' hs (e.trans e') (p.trans p')
  | ct s => exact fun σ' g' hs e' p' => h σ' g' hs (e.trans e') (p.trans p')
theorem Sat.regVal {K : PySem.W.Frag} {g : Gh} {σ : L2.St} {s : S} {v : V} {p : PV} (h : Sat K g σ s none) (r : Rp K g.js g.F v p) : Sat K g σ s (some (v, .val p)) := by
  refine ⟨?_, h.len, h.has, h.jl⟩
  have e0 : g.fp .R = [] := h.o.emp .R rfl
  have h1 := h.o.put (k := .R) (v := v) (m := .val p) (fp' := []) (.val r) (fun a ha => by simp at ha) fun a ha => by simp at ha
  have e1 : setK g.fp .R [] = g.fp := by
    funext k
    unfold setK
    split
    · rename_i h
      rw [h, e0]
    · rfl
  rw [e1] at h1
  rw [ownS_R (r := none)]
  exact h1
section
variable {X : Cx} {io ts : List Nat} {st : Stmt} {rest : List Stmt} {f f2 : SF} {e : Expr} {pos : Pos} {fd : DF} {fo : OF} {fg : GF} {c : TF}
theorem dss_nil : DSs X io [] sNx := by
  refine PSs.imp pss_nil ?_
  rintro D σ H ⟨g, s, o, rfl, hs, hf, k⟩
  cases hf
  exact k σ g hs (Ext.refl g) Pin.refl
theorem dss_cons (h1 : DS X io st f) (h2 : DSs X io rest f2) : DSs X io (st :: rest) (sSeq f f2) := by
  refine PSs.imp (pss_cons h1 h2) ?_
  rintro D σ H ⟨g, s, o, rfl, hs, hf, k⟩
  obtain ⟨o1, ha, hf⟩ := bind_inv hf
  refine ⟨g, s, o1, rfl, hs, ha, ?_⟩
  cases o1 with
  | nx s1 => exact fun σ1 g1 h1 e1 p1 => ⟨g1, s1, o, rfl, h1, hf, k.step e1 p1⟩
  | rt m s1 =>
    cases hf
    exact k
  | bk s1 =>
    cases hf
    exact k
  | ct s1 =>
    cases hf
    exact k
theorem dss_one (h1 : DS X io st f) : DSs X io [st] f := pss_one h1
theorem ds_pass : DS X io (.Pass pos) sNx := by
  refine PS.imp ps_pass ?_
  rintro D σ H ⟨g, s, o, rfl, hs, hf, k⟩
  cases hf
  exact k σ g hs (Ext.refl g) Pin.refl
theorem ds_doc {x : Str} {j pos pos'} : DS X io (.Expr (.Constant (.str x) j pos) pos') sNx := by
  refine PS.imp ps_doc ?_
  rintro D σ H ⟨g, s, o, rfl, hs, hf, k⟩
  cases hf
  exact k σ g hs (Ext.refl g) Pin.refl
theorem ds_break : DS X io (.Break pos) sBk := by
  refine PS.imp ps_break ?_
  rintro D σ H ⟨g, s, o, rfl, hs, hf, k⟩
  cases hf
  exact k σ g hs (Ext.refl g) Pin.refl
theorem ds_continue : DS X io (.Continue pos) sCt := by
  refine PS.imp ps_continue ?_
  rintro D σ H ⟨g, s, o, rfl, hs, hf, k⟩
  cases hf
  exact k σ g hs (Ext.refl g) Pin.refl
theorem ds_never : DS X io st sNever := by
  refine PS.imp ps_never ?_
  rintro D σ H ⟨g, s, o, rfl, hs, hf, k⟩
  cases hf
theorem ds_expr (he : DE X e fd) (hs : swapsWith e none pos.line X.env = pure false := by rfl) : DS X io (.Expr e pos) (sEx fd) := by
  refine PS.imp (ps_expr he hs) ?_
  rintro D σ H ⟨g, s, o, rfl, hs, hf, k⟩
  obtain ⟨a, ha, rfl⟩ := map_inv hf
  exact ⟨g, s, a.1, a.2, rfl, hs, ha, fun v g1 h1 e1 _ => k σ g1 h1 e1 Pin.refl⟩
theorem ds_ret (he : DE X e fd) : DS X io (.Return (some e) pos) (sRet fd) := by
  refine PS.imp (ps_ret he) ?_
  rintro D σ H ⟨g, s, o, rfl, hs, hf, k⟩
  obtain ⟨a, ha, rfl⟩ := map_inv hf
  exact ⟨g, s, a.1, a.2, rfl, hs, ha, fun v g1 h1 e1 r1 => k v σ g1 (h1.regVal r1) e1 Pin.refl⟩
theorem ds_retO (he : DO X e fo) : DS X io (.Return (some e) pos) (sRetO fo) := by
  refine PS.imp (ps_ret he) ?_
  rintro D σ H ⟨g, s, o, rfl, hs, hf, k⟩
  obtain ⟨a, ha, rfl⟩ := map_inv hf
  exact ⟨g, s, a.1, a.2, rfl, hs, ha, fun v g1 h1 e1 => k v σ g1 h1 e1 Pin.refl⟩
theorem ds_retNm {x : Str} {i : Nat} {p2 : Pos} (hN : X.N[i]? = some x) (hv : Vis X.env.scope x) (hd : (x == ("__debug__" : Str)) = false := by decide) (hcd : (x == ("__classdict__" : Str)) = false := by decide) :
    DS X io (.Return (some (.Name x p2)) pos) (sRetNm i) := by
  refine PS.imp (ps_ret (pe_var hN hv hd hcd)) ?_
  rintro D σ H ⟨g, s, o, rfl, hs, hf, k⟩
  unfold sRetNm at hf
  split at hf
  · rename_i m hm
    cases hf
    obtain ⟨v, hv, h1, h2⟩ := hs.getR hm
    exact ⟨v, hv, (k v σ _ h1 h2 Pin.refl :)⟩
  · cases hf
theorem ds_retN : DS X io (.Return none pos) sRetN := by
  refine PS.imp ps_retN ?_
  rintro D σ H ⟨g, s, o, rfl, hs, hf, k⟩
  cases hf
  exact k _ σ g (hs.regVal .non) (Ext.refl g) Pin.refl
theorem ds_if {a b : List Stmt} (hc : DT X e c) (ha : DSs X io a f) (hb : DSs X io b f2) : DS X io (.If e a b pos) (sIf c f f2) := by
  refine PS.imp (ps_if hc ha hb) ?_
  rintro D σ H ⟨g, s, o, rfl, hs, hf, k⟩
  obtain ⟨x, hx, hf⟩ := bind_inv hf
  refine ⟨g, s, x.1, x.2, rfl, hs, hx, fun g1 h1 e1 => ?_⟩
  split at hf
  · rename_i hc
    rw [if_pos hc]
    exact ⟨g1, x.2, o, rfl, h1, hf, k.step e1 Pin.refl⟩
  · rename_i hc
    rw [if_neg hc]
    exact ⟨g1, x.2, o, rfl, h1, hf, k.step e1 Pin.refl⟩
theorem tAsg_of (hd : ∀ i ∈ io, i ∉ ts) : ∀ D σ H, tSt X.K io (sAsg fd fg) D σ H → tAsg (tD X.K fd) (tG X.K ts fg) D σ H := by
  rintro D σ H ⟨g, s, o, rfl, hs, hf, k⟩
  obtain ⟨a, ha, hf⟩ := bind_inv hf
  obtain ⟨s2, hb, rfl⟩ := map_inv hf
  exact ⟨g, s, a.1, a.2, rfl, hs, ha, fun v g1 h1 e1 r1 => ⟨g1, a.2, a.1, s2, rfl, h1, r1, hb, fun σ2 g2 h2 e2 o2 => k σ2 g2 h2 (e1.trans e2) (o2.pin hd)⟩⟩
theorem ds_asg {tg : Expr} (he : DE X e fd) (hg : DG X ts tg fg) (hd : ∀ i ∈ io, i ∉ ts := by decide) (hs : swapsWithSole [tg] e pos.line X.env = pure false := by rfl) (hw : swappedStores [tg] e X.env = pure none := by rfl)
    (h1 : (assignEach [tg] X.env).map (·.2) = [assign tg X.env] := by rfl) : DS X io (.Assign [tg] e pos) (sAsg fd fg) :=
  PS.imp (ps_asg he hg hs hw h1) (tAsg_of hd)
theorem ds_set {i : Nat} {x : Str} {pos' : Pos} (hN : X.N.Nodup) (hi : X.N[i]? = some x) (hx : Loc X.env.scope x) (he : DE X e fd) (hd : i ∉ io := by decide) (hs : swapsWith e (some (.Name x pos')) pos.line X.env = pure false := by rfl) (hf : X.fn x = true ∨ X.env.scope.names.lookup x = some .local := by first | exact .inl rfl | exact .inr rfl | assumption) :
    DS X io (.Assign [.Name x pos'] e pos) (sAsg fd (gNm i)) := by
  refine PS.imp (ps_set hN hi hx he hs hf) ?_
  rintro D σ H ⟨g, s, o, rfl, hs, hf, k⟩
  obtain ⟨a, ha, hf⟩ := bind_inv hf
  obtain ⟨s2, hb, rfl⟩ := map_inv hf
  refine ⟨g, s, a.1, a.2, rfl, hs, ha, fun v g1 h1 e1 r1 => ?_⟩
  unfold gNm at hb
  split at hb
  · rename_i hl
    cases hb
    obtain ⟨h2, e2⟩ := h1.setVal hl r1
    exact (k _ _ h2 (e1.trans e2) (Pin.set hd) :)
  · cases hb
theorem tSetO_of {i : Nat} (hd : i ∉ io) : ∀ D σ H, tSt X.K io (sSetO i fo) D σ H → tAsg (tO X.K fo) (gName i) D σ H := by
  rintro D σ H ⟨g, s, o, rfl, hs, hf, k⟩
  obtain ⟨a, ha, hf⟩ := bind_inv hf
  split at hf
  · rename_i hl
    cases hf
    refine ⟨g, s, a.1, a.2, rfl, hs, ha, fun v g1 h1 e1 => ?_⟩
    obtain ⟨h2, e2⟩ := h1.setR hl
    exact (k _ _ h2 (e1.trans e2) (Pin.set hd) :)
  · cases hf
theorem ds_setO {i : Nat} {x : Str} {pos' : Pos} (hN : X.N.Nodup) (hi : X.N[i]? = some x) (hx : Loc X.env.scope x) (he : DO X e fo) (hd : i ∉ io := by decide) (hs : swapsWith e (some (.Name x pos')) pos.line X.env = pure false := by rfl) (hf : X.fn x = true ∨ X.env.scope.names.lookup x = some .local := by first | exact .inl rfl | exact .inr rfl | assumption) :
    DS X io (.Assign [.Name x pos'] e pos) (sSetO i fo) := PS.imp (ps_set hN hi hx he hs hf) (tSetO_of hd)
end
/-! ### a, b = x, y -/
def gSet2 (i j : Nat) : GsF := fun ps s => match ps with
  | [p, q] => if i < s.env.length ∧ j < s.env.length then some ((s.set i (some (.val p))).set j (some (.val q))) else none
  | _ => none
def gSet3 (i j l : Nat) : GsF := fun ps s => match ps with
  | [p, q, r] => if i < s.env.length ∧ j < s.env.length ∧ l < s.env.length then some (((s.set i (some (.val p))).set j (some (.val q))).set l (some (.val r))) else none
  | _ => none
def sPar (f : AFn) (gs : GsF) : SF := fun s => (f s).bind fun a => (AV.pvs a.1).bind fun ps => (gs ps a.2).map .nx
theorem set_len {s : S} {i : Nat} {m : Option MV} : (s.set i m).env.length = s.env.length := by simp [S.set]
section
variable {X : Cx} {io : List Nat} {f : AFn}
theorem ds_par {i j : Nat} {x y : Str} {a b : Expr} {px py pt pos : Pos} {kt k2 pt2} (hc : X.calm = true) (hN : X.N.Nodup) (hi : X.N[i]? = some x) (hj : X.N[j]? = some y) (hij : i ≠ j)
    (hx : X.env.scope.names.lookup x = some .local) (hy : X.env.scope.names.lookup y = some .local) (ha : DA X [a, b] f)
    (hw : swappedStores [.Tuple [.Name x px, .Name y py] kt pt] (.Tuple [a, b] k2 pt2) X.env = pure (some [x, y]))
    (hd : i ∉ io ∧ j ∉ io := by decide)
    (hs : swapsWithSole [.Tuple [.Name x px, .Name y py] kt pt] (.Tuple [a, b] k2 pt2) pos.line X.env = pure false := by rfl) :
    DS X io (.Assign [.Tuple [.Name x px, .Name y py] kt pt] (.Tuple [a, b] k2 pt2) pos) (sPar f (gSet2 i j)) := by
  refine PS.imp (ps_par hc hN hi hj hij hx hy ha hw hs) ?_
  rintro D σ H ⟨g, s, o, rfl, hs, hf, k⟩
  obtain ⟨a, ha, hf⟩ := bind_inv hf
  obtain ⟨ps, hp, hf⟩ := bind_inv hf
  obtain ⟨s2, hb, rfl⟩ := map_inv hf
  refine ⟨g, s, a.1, a.2, rfl, hs, ha, fun vs g1 h1 e1 r1 => ?_⟩
  have r2 := r1.pvs hp
  unfold gSet2 at hb
  split at hb
  · split at hb
    · rename_i hl
      cases hb
      cases r2 with
      | cons r2 rr =>
        cases rr with
        | cons r3 rr =>
          cases rr
          obtain ⟨h2, e2⟩ := h1.setVal hl.1 r2
          obtain ⟨h3, e3⟩ := h2.setVal (i := j) (by rw [set_len]; exact hl.2) (r3.ext e2)
          exact ⟨_, _, rfl, (k _ _ h3 ((e1.trans e2).trans e3) ((Pin.set hd.1).trans (Pin.set hd.2)) :)⟩
    · cases hb
  · cases hb
theorem ds_par3 {i j l : Nat} {x y z : Str} {a b c : Expr} {px py pz pt pos : Pos} {kt k2 pt2} (hc : X.calm = true) (hN : X.N.Nodup) (hi : X.N[i]? = some x) (hj : X.N[j]? = some y) (hl : X.N[l]? = some z) (hij : i ≠ j) (hil : i ≠ l) (hjl : j ≠ l)
    (hx : X.env.scope.names.lookup x = some .local) (hy : X.env.scope.names.lookup y = some .local) (hz : X.env.scope.names.lookup z = some .local) (ha : DA X [a, b, c] f)
    (hw : swappedStores [.Tuple [.Name x px, .Name y py, .Name z pz] kt pt] (.Tuple [a, b, c] k2 pt2) X.env = pure (some [x, y, z]))
    (hd : i ∉ io ∧ j ∉ io ∧ l ∉ io := by decide)
    (hs : swapsWithSole [.Tuple [.Name x px, .Name y py, .Name z pz] kt pt] (.Tuple [a, b, c] k2 pt2) pos.line X.env = pure false := by rfl) :
    DS X io (.Assign [.Tuple [.Name x px, .Name y py, .Name z pz] kt pt] (.Tuple [a, b, c] k2 pt2) pos) (sPar f (gSet3 i j l)) := by
  refine PS.imp (ps_par3 hc hN hi hj hl hij hil hjl hx hy hz ha hw hs) ?_
  rintro D σ H ⟨g, s, o, rfl, hs, hf, k⟩
  obtain ⟨a, ha, hf⟩ := bind_inv hf
  obtain ⟨ps, hp, hf⟩ := bind_inv hf
  obtain ⟨s2, hb, rfl⟩ := map_inv hf
  refine ⟨g, s, a.1, a.2, rfl, hs, ha, fun vs g1 h1 e1 r1 => ?_⟩
  have r2 := r1.pvs hp
  unfold gSet3 at hb
  split at hb
  · split at hb
    · rename_i hl
      cases hb
      cases r2 with
      | cons r2 rr =>
        cases rr with
        | cons r3 rr =>
          cases rr with
          | cons r4 rr =>
            cases rr
            obtain ⟨h2, e2⟩ := h1.setVal hl.1 r2
            obtain ⟨h3, e3⟩ := h2.setVal (i := j) (by rw [set_len]; exact hl.2.1) (r3.ext e2)
            obtain ⟨h4, e4⟩ := h3.setVal (i := l) (by rw [set_len, set_len]; exact hl.2.2) ((r4.ext e2).ext e3)
            exact ⟨_, _, _, rfl, (k _ _ h4 (((e1.trans e2).trans e3).trans e4) (((Pin.set hd.1).trans (Pin.set hd.2.1)).trans (Pin.set hd.2.2)) :)⟩
    · cases hb
  · cases hb
end
/-! ### methods of lists that one owns -/
def MtL (X : Cx) (id : String) (fo : List PV → List PV → Option (PV × List PV)) : Prop := ∃ r, MtR X id r ∧
  ∀ (g : Gh) (σ : L2.St) (s : S) (l : Addr) (vs : List V) (ps : List PV) (as : List V) (qs : List PV) (z : PV) (ps' : List PV) (Q : VK), Sat X.K g σ s none → g.H l = some (.lst vs) → RpA X.K g.js g.F vs ps → RpA X.K g.js g.F as qs → fo ps qs = some (z, ps') →
    (∀ v us, Rp X.K g.js g.F v z → RpA X.K g.js g.F us ps' → Q v (upd g.H l (.lst us))) → r (.ref l) as g.H Q
def dMt (j : Nat) (fo : List PV → List PV → Option (PV × List PV)) (f : AFn) : DF := fun s => match s.env[j]? with
  | some (some (.mlst _)) => (f s).bind fun a => (AV.pvs a.1).bind fun qs => match a.2.env[j]? with
    | some (some (.mlst ps)) => (fo ps qs).map fun z => (z.1, a.2.set j (some (.mlst z.2)))
    | _ => none
  | _ => none
section
variable {X : Cx} {x : Str} {p apos cpos : Pos} {j : Nat} {e : Expr} {es : List Expr} {f : AFn} {name : Str} {id : String} {fo : List PV → List PV → Option (PV × List PV)}
theorem dMt_of {r : V → List V → Hp → VK → Prop} {t : TA} (hr : ∀ (g : Gh) (σ : L2.St) (s : S) (l : Addr) (vs : List V) (ps : List PV) (as : List V) (qs : List PV) (z : PV) (ps' : List PV) (Q : VK), Sat X.K g σ s none → g.H l = some (.lst vs) → RpA X.K g.js g.F vs ps → RpA X.K g.js g.F as qs → fo ps qs = some (z, ps') →
    (∀ v us, Rp X.K g.js g.F v z → RpA X.K g.js g.F us ps' → Q v (upd g.H l (.lst us))) → r (.ref l) as g.H Q) (ht : ∀ σ H Q, tA X.K f σ H Q → t σ H Q) :
    ∀ σ H Q, tD X.K (dMt j fo f) σ H Q → ∃ x, σ[j]? = some (some x) ∧ tyV X.K "list" x H ∧ t σ H fun xs H2 => r x xs H2 Q := by
  rintro σ H Q ⟨g, s, q, s', rfl, hs, hf, k⟩
  unfold dMt at hf
  split at hf
  · rename_i ps0 hm
    obtain ⟨a, ha, hf⟩ := bind_inv hf
    obtain ⟨qs, hq, hf⟩ := bind_inv hf
    split at hf
    · rename_i ps hm2
      obtain ⟨z, hz, hf⟩ := map_inv hf
      cases hf
      obtain ⟨l, vs, hl, hH, hR, _⟩ := hs.mutL hm
      refine ⟨.ref l, hl, Or.inl ⟨rfl, vs, Or.inl (Or.inl hH)⟩, ht _ _ _ ⟨g, s, a.1, a.2, rfl, hs, ha, fun as g1 h1 e1 r1 => ?_⟩⟩
      obtain ⟨l2, vs2, hl2, hH2, hR2, hk⟩ := h1.mutL hm2
      rw [hl] at hl2
      cases hl2
      refine hr g1 σ a.2 l vs2 ps as qs z.1 z.2 Q h1 hH2 hR2 (r1.pvs hq) hz fun v us rv ru => ?_
      obtain ⟨h2, e2⟩ := hk us z.2 ru
      exact (k v _ h2 (e1.trans e2) (rv.ext e2) :)
    · cases hf
  · cases hf
theorem de_mt (pa : PlainAttrs "list") (slot : Slot "list" name id) (hty : typeOf (.builtin id) = pure (.type "method_descriptor")) (hm : MtL X id fo) (hN : X.N[j]? = some x) (hv : Vis X.env.scope x) (ha : DA X (e :: es) f)
    (hd : (x == ("__debug__" : Str)) = false := by decide) (hcd : (x == ("__classdict__" : Str)) = false := by decide)
    (hbase : attributeBase (.Name x p) name X.env (eval (.Name x p) X.env) = eval (.Name x p) X.env := by rfl)
    (hfew : ((backTo cpos (starEach (e :: es) X.env)).all (fun x => !x.1) && (backToKw cpos (keywordEach [] X.env)).all (fun x => x.1.isSome)
      && decide ((e :: es).length + ([] : List Keyword).length + (if ([] : List Keyword).isEmpty then 0 else 1) < 30)) = true := by rfl)
    (hline : (apos.endLine == cpos.line) = true := by rfl) (hs : starEach (e :: es) X.env = (false, eval e X.env) :: starEach es X.env := by rfl) (hplain : (backTo cpos (starEach es X.env)).any (·.1) = false := by rfl) :
    DE X (.Call (.Attribute (.Name x p) name apos) (e :: es) [] cpos) (dMt j fo f) := by
  obtain ⟨r, h1, h2⟩ := hm
  refine PE.imp (pe_bm pa slot hty h1 (pe_var hN hv hd hcd) ha hbase hfew hline hs hplain) ?_
  intro σ H Q h
  obtain ⟨x, hx, ht, h⟩ := dMt_of h2 (fun _ _ _ h => h) σ H Q h
  exact ⟨x, hx, ht, h⟩
theorem de_mt0 (pa : PlainAttrs "list") (slot : Slot "list" name id) (hty : typeOf (.builtin id) = pure (.type "method_descriptor")) (hm : MtL X id fo) (hN : X.N[j]? = some x) (hv : Vis X.env.scope x)
    (hd : (x == ("__debug__" : Str)) = false := by decide) (hcd : (x == ("__classdict__" : Str)) = false := by decide)
    (hbase : attributeBase (.Name x p) name X.env (eval (.Name x p) X.env) = eval (.Name x p) X.env := by rfl) (hline : (apos.endLine == cpos.line) = true := by rfl) :
    DE X (.Call (.Attribute (.Name x p) name apos) [] [] cpos) (dMt j fo aNil) := by
  obtain ⟨r, h1, h2⟩ := hm
  refine PE.imp (pe_bm0 pa slot hty h1 (pe_var hN hv hd hcd) hbase hline) ?_
  intro σ H Q h
  obtain ⟨x, hx, ht, h⟩ := dMt_of (t := fun _ H Q => Q [] H) h2 (fun σ H Q h => by
    obtain ⟨g, s, as, s', rfl, hs, hf, k⟩ := h
    cases hf
    exact k [] g hs (Ext.refl g) .nil) σ H Q h
  exact ⟨x, hx, ht, h⟩
end
section
variable {X : Cx}
def lAppend (ps qs : List PV) : Option (PV × List PV) := match qs with
  | [q] => if ps.length < 100000 then some (.non, ps ++ [q]) else none
  | _ => none
theorem lAppendD : MtL X "list.append" lAppend := ⟨rAppend, mt_append, fun g σ s l vs ps as qs z ps' Q hs hH hR hA hf k => by
  unfold lAppend at hf
  split at hf
  · split at hf
    · rename_i hl
      cases hf
      cases hA with
      | cons h q =>
        cases q
        exact ⟨l, vs, _, rfl, rfl, hH, sz_lt (by rw [hR.length]; exact hl), k _ _ .non (hR.append (.one h))⟩
    · cases hf
  · cases hf⟩
def lExtend (ps qs : List PV) : Option (PV × List PV) := match qs with
  | [.lst q] => if ps.length + q.length ≤ 100000 then some (.non, ps ++ q) else none
  | _ => none
theorem lExtendD : MtL X "list.extend" lExtend := ⟨rExtend, mt_extend, fun g σ s l vs ps as qs z ps' Q hs hH hR hA hf k => by
  unfold lExtend at hf
  split at hf
  · split at hf
    · rename_i hl
      cases hf
      cases hA with
      | cons h q =>
        cases q
        cases h with
        | lst h1 h2 => exact ⟨l, _, vs, _, rfl, rfl, hH, hs.o.sub _ _ h1, sz_ok (by rw [hR.length, h2.length]; exact hl), k _ _ .non (hR.append h2)⟩
    · cases hf
  · cases hf⟩
theorem RpA.dropLast {K : PySem.W.Frag} {js : List Addr} {F : Hp} {vs : List V} {ps : List PV} (h : RpA K js F vs ps) : RpA K js F vs.dropLast ps.dropLast := by
  rw [List.dropLast_eq_take, List.dropLast_eq_take, h.length]
  exact h.take _
def lPop (ps qs : List PV) : Option (PV × List PV) := match qs with
  | [] => (ps[ps.length - 1]?).map fun q => (q, ps.dropLast)
  | _ => none
theorem lPopD : MtL X "list.pop" lPop := ⟨rPop, mt_pop, fun g σ s l vs ps as qs z ps' Q hs hH hR hA hf k => by
  unfold lPop at hf
  split at hf
  · obtain ⟨q, hq, hf⟩ := map_inv hf
    cases hf
    cases hA
    rw [← hR.length] at hq
    obtain ⟨v, h1, h2⟩ := hR.get hq
    exact ⟨l, vs, v, rfl, rfl, hH, h1, k _ _ h2 hR.dropLast⟩
  · cases hf⟩
theorem RpA.eraseIdx {K : PySem.W.Frag} {js : List Addr} {F : Hp} : ∀ {vs : List V} {ps : List PV} (i : Nat), RpA K js F vs ps → RpA K js F (vs.eraseIdx i) (ps.eraseIdx i)
  | _, _, _, .nil => .nil
  | _, _, 0, .cons _ t => t
  | _, _, i + 1, .cons r t => .cons r (RpA.eraseIdx i t)
def lPopAt (ps qs : List PV) : Option (PV × List PV) := match qs with
  | [.int i] => if -9223372036854775808 ≤ i ∧ i < 9223372036854775808 then (ixN ps.length i).bind fun k => (ps[k]?).map fun q => (q, ps.eraseIdx k) else none
  | _ => none
theorem lPopAtD : MtL X "list.pop" lPopAt := ⟨rPopAt, mt_popAt, fun g σ s l vs ps as qs z ps' Q hs hH hR hA hf k => by
  unfold lPopAt at hf
  split at hf
  · split at hf
    · rename_i hl
      obtain ⟨n, hn, hf⟩ := bind_inv hf
      obtain ⟨q, hq, hf⟩ := map_inv hf
      cases hf
      cases hA with
      | cons h t =>
        cases t
        cases h
        obtain ⟨v, h1, h2⟩ := hR.get hq
        obtain ⟨i1, i2, i3, i4⟩ := ixN_seq hn
        exact ⟨l, vs, _, n, v, rfl, rfl, hH, by omega, by omega, by rw [hR.length]; exact i1, h1, k _ _ h2 (hR.eraseIdx n)⟩
    · cases hf
  · cases hf⟩
def lReverse (ps qs : List PV) : Option (PV × List PV) := match qs with
  | [] => some (.non, ps.reverse)
  | _ => none
theorem lReverseD : MtL X "list.reverse" lReverse := ⟨rReverse, mt_reverse, fun g σ s l vs ps as qs z ps' Q hs hH hR hA hf k => by
  unfold lReverse at hf
  split at hf
  · cases hf
    cases hA
    exact ⟨l, vs, rfl, rfl, hH, k _ _ .non hR.reverse⟩
  · cases hf⟩
end
/-! ### methods that only look -/
def MtP (X : Cx) (T : String) (id : String) (fo : PV → List PV → Option PV) : Prop := ∃ r, MtR X id r ∧
  (∀ (g : Gh) (σ : L2.St) (s : S) (x : V) (p : PV), Sat X.K g σ s none → Pk X.K g x p → (∃ qs z, fo p qs = some z) → tyV X.K T x g.H) ∧
  ∀ (g : Gh) (σ : L2.St) (s : S) (x : V) (p : PV) (as : List V) (qs : List PV) (z : PV) (Q : VK), Sat X.K g σ s none → Pk X.K g x p → PkA X.K g as qs → fo p qs = some z →
    (∀ v g', Sat X.K g' σ s none → Ext g g' → Rp X.K g'.js g'.F v z → Q v g'.H) → r x as g.H Q
end DD
/-! E7: what is walked, comprehensions, loops. -/
namespace DD
open PySem L2 GG PySem.Spec PyProof.Rows

/-- the iterator yields these values, from this state on -/
def GvP (K : PySem.W.Frag) (J : It) (g : Gh) (ps : List PV) : Prop := ∀ g1, Ext g g1 → ∀ σ s, Sat K g1 σ s none →
  (∀ i, i < ps.length → J.go i g1.H) ∧ J.stop ps.length g1.H ∧ ∀ i x H', i < ps.length → J.yld i g1.H x H' →
    ∃ g2 p, g2.H = H' ∧ Sat K g2 σ s none ∧ Ext g1 g2 ∧ ps[i]? = some p ∧ Rp K g2.js g2.F x p
abbrev IF := S → Option (List PV × S)
def tIt (K : PySem.W.Frag) (f : IF) : TI := fun σ H R => ∃ g s ps s', g.H = H ∧ Sat K g σ s none ∧ f s = some (ps, s') ∧
  ∀ J g', Sat K g' σ s' none → Ext g g' → GvP K J g' ps → R J g'.H
abbrev DI (X : Cx) (tg e : Expr) (f : IF) : Prop := PI X tg e (tIt X.K f)
theorem PI.imp {X : Cx} {tg e : Expr} {t t' : TI} (h : PI X tg e t) (i : ∀ σ H R, t' σ H R → t σ H R) : PI X tg e t' := ⟨fun pins s σ H R I q => h.run pins s σ H R I (i σ H R q)⟩
theorem gvp_list {K : PySem.W.Frag} {g : Gh} {a : Addr} {vs : List V} {ps : List PV} (h : SqL K g.F a vs) (r : RpA K g.js g.F vs ps) : GvP K (Itl K a) g ps := by
  intro g1 e σ s hs
  have h1 : SqL K g1.H a vs := SqL.le (fun b o q => hs.o.sub b o (e.F b o q)) h
  have hl := r.length
  refine ⟨fun i hi => ⟨vs, vs[i]'(by omega), h1, by simp [show i < vs.length by omega]⟩, ⟨vs, h1, by omega⟩, fun i x H' hi y => ?_⟩
  obtain ⟨rfl, y⟩ := y
  have hx := y vs h1
  obtain ⟨p, hp, rp⟩ := r.getV hx
  exact ⟨g1, p, rfl, hs, Ext.refl g1, hp, rp.ext e⟩
theorem gvp_tup {K : PySem.W.Frag} {g : Gh} {a : Addr} {vs : List V} {ps : List PV} (h : SqT K g.F a vs) (r : RpA K g.js g.F vs ps) : GvP K (Itt K a) g ps := by
  intro g1 e σ s hs
  have h1 : SqT K g1.H a vs := SqT.le (fun b o q => hs.o.sub b o (e.F b o q)) h
  have hl := r.length
  refine ⟨fun i hi => ⟨vs, vs[i]'(by omega), h1, by simp [show i < vs.length by omega]⟩, ⟨vs, h1, by omega⟩, fun i x H' hi y => ?_⟩
  obtain ⟨rfl, y⟩ := y
  have hx := y vs h1
  obtain ⟨p, hp, rp⟩ := r.getV hx
  exact ⟨g1, p, rfl, hs, Ext.refl g1, hp, rp.ext e⟩
def rngP (lo : Int) (n : Nat) : List PV := (List.range n).map fun (k : Nat) => .int (lo + (k : Int))
theorem gvp_rng {K : PySem.W.Frag} {g : Gh} {lo : Int} {n : Nat} : GvP K (Itr lo n) g (rngP lo n) := by
  intro g1 e σ s hs
  have hz : (rngP lo n).length = n := by simp [rngP]
  refine ⟨fun i hi => by rw [hz] at hi; exact hi, by rw [hz]; exact Nat.le_refl n, fun i x H' hi y => ?_⟩
  obtain ⟨rfl, rfl⟩ := y
  rw [hz] at hi
  exact ⟨g1, .int (lo + i), rfl, hs, Ext.refl g1, by simp [rngP, hi], .int _⟩
def enP (ps : List PV) : List PV := ps.zipIdx.map fun b => .tup [.int b.2, b.1]
theorem en_get {ps : List PV} {i : Nat} {p : PV} (h : ps[i]? = some p) : (enP ps)[i]? = some (.tup [.int i, p]) := by simp [enP, h]
theorem gvp_enum {K : PySem.W.Frag} {g : Gh} {a : Addr} {vs : List V} {ps : List PV} (h : SqL K g.F a vs) (r : RpA K g.js g.F vs ps) : GvP K (Ite K a) g (enP ps) := by
  intro g1 e σ s hs
  have h1 : SqL K g1.H a vs := SqL.le (fun b o q => hs.o.sub b o (e.F b o q)) h
  have hl := r.length
  have w := gives_enum (K := K) (a := a) (xs := vs)
  have hz : (enP ps).length = vs.length := by simp [enP, hl]
  have hw : (vs.zipIdx).length = vs.length := by simp
  refine ⟨fun i hi => w.goes i g1.H (by omega) h1, by rw [hz, ← hw]; exact w.stops g1.H h1, fun i x H' hi y => ?_⟩
  obtain ⟨T, y, z, rfl, n, rfl, h2, h3⟩ := (walk_enum (K := K) (a := a) (xs := vs)).yields i g1.H x H' (by omega) h1 y
  cases h2
  have h3' : vs[i]? = some z := h3
  obtain ⟨p, hp, rp⟩ := r.getV h3'
  have n' : g1.H T = none := n
  have e2 := Ext.newF (o := .tup [.int (i : Nat), z]) hs.o n'
  refine ⟨g1.newF T (.tup [.int (i : Nat), z]), .tup [.int i, p], rfl, hs.newF n', e2, en_get hp, .tup (Or.inl (Or.inl upd_same)) (.cons (.int _) (.one ((rp.ext e).ext e2)))⟩
theorem gvp_enumT {K : PySem.W.Frag} {g : Gh} {a : Addr} {vs : List V} {ps : List PV} (h : SqT K g.F a vs) (r : RpA K g.js g.F vs ps) : GvP K (Itet K a) g (enP ps) := by
  intro g1 e σ s hs
  have h1 : SqT K g1.H a vs := SqT.le (fun b o q => hs.o.sub b o (e.F b o q)) h
  have hl := r.length
  have w := gives_enumT (K := K) (a := a) (xs := vs)
  have hz : (enP ps).length = vs.length := by simp [enP, hl]
  have hw : (vs.zipIdx).length = vs.length := by simp
  refine ⟨fun i hi => w.goes i g1.H (by omega) h1, by rw [hz, ← hw]; exact w.stops g1.H h1, fun i x H' hi y => ?_⟩
  obtain ⟨T, z, rfl, n', rfl, hx⟩ := y
  have h3' : vs[i]? = some z := hx vs h1
  obtain ⟨p, hp, rp⟩ := r.getV h3'
  have e2 := Ext.newF (o := .tup [.int (i : Nat), z]) hs.o n'
  refine ⟨g1.newF T (.tup [.int (i : Nat), z]), .tup [.int i, p], rfl, hs.newF n', e2, en_get hp, .tup (Or.inl (Or.inl upd_same)) (.cons (.int _) (.one ((rp.ext e).ext e2)))⟩
def zipP (ps qs : List PV) : List PV := (ps.zip qs).map fun b => .tup [b.1, b.2]
theorem gvp_zip {K : PySem.W.Frag} {g : Gh} {a b : Addr} {vs us : List V} {ps qs : List PV} (h : SqL K g.F a vs) (r : RpA K g.js g.F vs ps) (h' : SqL K g.F b us) (r' : RpA K g.js g.F us qs) : GvP K (Itz K a b) g (zipP ps qs) := by
  intro g1 e σ s hs
  have h1 : SqL K g1.H a vs := SqL.le (fun b o q => hs.o.sub b o (e.F b o q)) h
  have h1' : SqL K g1.H b us := SqL.le (fun b o q => hs.o.sub b o (e.F b o q)) h'
  have hl := r.length
  have hl' := r'.length
  have w := gives_zip (K := K) (a := a) (b := b) (xs := vs) (ys := us)
  have hz : (zipP ps qs).length = (vs.zip us).length := by simp [zipP, hl, hl']
  refine ⟨fun i hi => w.goes i g1.H (by omega) ⟨h1, h1'⟩, by rw [hz]; exact w.stops g1.H ⟨h1, h1'⟩, fun i x H' hi y => ?_⟩
  obtain ⟨T, y1, z, rfl, n', rfl, h2, h3⟩ := (walk_zip (K := K) (a := a) (b := b) (xs := vs) (ys := us) rfl).yields i g1.H x H' (by simp at hz; simp [zipP] at hi; omega) ⟨h1, h1'⟩ y
  obtain ⟨p, hp, rp⟩ := r.getV (show vs[i]? = some y1 from h2)
  obtain ⟨q, hq, rq⟩ := r'.getV (show us[i]? = some z from h3)
  have e2 := Ext.newF (o := .tup [y1, z]) hs.o n'
  refine ⟨g1.newF T (.tup [y1, z]), .tup [p, q], rfl, hs.newF n', e2, by simp [zipP, List.getElem?_zip_eq_some, hp, hq], .tup (Or.inl (Or.inl upd_same)) (.cons ((rp.ext e).ext e2) (.one ((rq.ext e).ext e2)))⟩
/-! ### what may be walked -/
def iL (f : DF) : IF := fun s => (f s).bind fun a => match a.1 with
  | .lst ps => some (ps, a.2)
  | .lsk ps => some (ps, a.2)
  | _ => none
def iT (f : DF) : IF := fun s => (f s).bind fun a => match a.1 with
  | .tup ps => some (ps, a.2)
  | _ => none
def iR1 (f : AFn) : IF := fun s => (f s).bind fun a => match AV.pvs a.1 with
  | some [.int j] => if -4611686018427387904 ≤ j ∧ j < 4611686018427387904 then some (rngP 0 j.toNat, a.2) else none
  | _ => none
def iR2 (f : AFn) : IF := fun s => (f s).bind fun a => match AV.pvs a.1 with
  | some [.int i, .int j] => if -4611686018427387904 ≤ i ∧ i < 4611686018427387904 ∧ -4611686018427387904 ≤ j ∧ j < 4611686018427387904 then some (rngP i (j - i).toNat, a.2) else none
  | _ => none
def iEnL (f : AFn) : IF := fun s => (f s).bind fun a => match AV.pvs a.1 with
  | some [.lst ps] => some (enP ps, a.2)
  | _ => none
def iEnT (f : AFn) : IF := fun s => (f s).bind fun a => match AV.pvs a.1 with
  | some [.tup ps] => some (enP ps, a.2)
  | _ => none
def iZp (f : AFn) : IF := fun s => (f s).bind fun a => match AV.pvs a.1 with
  | some [.lst ps, .lst qs] => some (zipP ps qs, a.2)
  | _ => none
section
variable {X : Cx} {tg e e2 : Expr} {f : DF} {fa : AFn} {p pos tpos : Pos} {elts : List Expr} {kk : Nat}
theorem di_list_of {K : PySem.W.Frag} : ∀ σ H R, tIt K (iL f) σ H R → iList K (tD K f) σ H R := by
  rintro σ H R ⟨g, s, ps, s', rfl, hs, hf, k⟩
  obtain ⟨a, ha, hf⟩ := bind_inv hf
  obtain ⟨q, s1⟩ := a
  refine ⟨g, s, q, s1, rfl, hs, ha, fun v g1 h1 e1 r1 => ?_⟩
  split at hf
  · rename_i qs hq
    cases hq
    cases hf
    cases r1 with
    | lst a1 a2 => exact ⟨_, rfl, ⟨_, Or.inl (Or.inl (h1.o.sub _ _ a1))⟩, k _ g1 h1 e1 (gvp_list (Or.inl (Or.inl a1)) a2)⟩
  · rename_i qs hq
    cases hq
    cases hf
    cases r1 with
    | lsk a1 a2 => exact ⟨_, rfl, ⟨_, SqL.le h1.o.sub a1⟩, k _ g1 h1 e1 (gvp_list a1 a2)⟩
  · cases hf
theorem di_list (h : DE X e f) : DI X tg e (iL f) := PI.imp (pi_list h) di_list_of
theorem di_tup_of {K : PySem.W.Frag} : ∀ σ H R, tIt K (iT f) σ H R → iTup K (tD K f) σ H R := by
  rintro σ H R ⟨g, s, ps, s', rfl, hs, hf, k⟩
  obtain ⟨a, ha, hf⟩ := bind_inv hf
  obtain ⟨q, s1⟩ := a
  refine ⟨g, s, q, s1, rfl, hs, ha, fun v g1 h1 e1 r1 => ?_⟩
  split at hf
  · rename_i qs hq
    cases hq
    cases hf
    cases r1 with
    | tup a1 a2 => exact ⟨_, rfl, ⟨_, SqT.le h1.o.sub a1⟩, k _ g1 h1 e1 (gvp_tup a1 a2)⟩
  · cases hf
theorem di_tup (h : DE X e f) : DI X tg e (iT f) := PI.imp (pi_tup h) di_tup_of
theorem di_range1 (hg : Gl X "range") (hm : X.mg "range" = none) (ha : DA X [e] fa) (hs : starEach [e] X.env = [(false, eval e X.env)] := by rfl) : DI X tg (.Call (.Name "range" p) [e] [] pos) (iR1 fa) := by
  refine PI.imp (pi_range1 hg hm ha hs) ?_
  rintro σ H R ⟨g, s, ps, s', rfl, hs, hf, k⟩
  obtain ⟨a, ha, hf⟩ := bind_inv hf
  refine ⟨g, s, a.1, a.2, rfl, hs, ha, fun vs g1 h1 e1 r1 => ?_⟩
  split at hf
  · rename_i j hp
    split at hf
    · rename_i hj
      cases hf
      cases r1.pvs hp with
      | cons h t =>
        cases t
        cases h
        exact ⟨j, rfl, by omega, by omega, k _ g1 h1 e1 gvp_rng⟩
    · cases hf
  · cases hf
theorem di_range2 (hg : Gl X "range") (hm : X.mg "range" = none) (ha : DA X [e, e2] fa) (hs : starEach [e, e2] X.env = [(false, eval e X.env), (false, eval e2 X.env)] := by rfl) (hs2 : starEach [e2] X.env = [(false, eval e2 X.env)] := by rfl) : DI X tg (.Call (.Name "range" p) [e, e2] [] pos) (iR2 fa) := by
  refine PI.imp (pi_range2 hg hm ha hs hs2) ?_
  rintro σ H R ⟨g, s, ps, s', rfl, hs, hf, k⟩
  obtain ⟨a, ha, hf⟩ := bind_inv hf
  refine ⟨g, s, a.1, a.2, rfl, hs, ha, fun vs g1 h1 e1 r1 => ?_⟩
  split at hf
  · rename_i i j hp
    split at hf
    · rename_i hj
      cases hf
      cases r1.pvs hp with
      | cons h t =>
        cases h
        cases t with
        | cons h t =>
          cases t
          cases h
          exact ⟨i, j, rfl, ⟨by omega, by omega, by omega, by omega⟩, k _ g1 h1 e1 gvp_rng⟩
    · cases hf
  · cases hf
theorem di_enum_of {K : PySem.W.Frag} : ∀ σ H R, tIt K (iEnL fa) σ H R → iEnum K (tA K fa) σ H R := by
  rintro σ H R ⟨g, s, ps, s', rfl, hs, hf, k⟩
  obtain ⟨a, ha, hf⟩ := bind_inv hf
  refine ⟨g, s, a.1, a.2, rfl, hs, ha, fun vs g1 h1 e1 r1 => ?_⟩
  split at hf
  · rename_i qs hp
    cases hf
    cases r1.pvs hp with
    | cons h t =>
      cases t
      cases h with
      | lst a1 a2 => exact ⟨_, _, rfl, Or.inl (Or.inl (h1.o.sub _ _ a1)), k _ g1 h1 e1 (gvp_enum (Or.inl (Or.inl a1)) a2)⟩
  · cases hf
theorem di_enum (hg : Gl X "enumerate") (hm : X.mg "enumerate" = none) (ha : DA X [e] fa) (hs : starEach [e] X.env = [(false, eval e X.env)] := by rfl) : DI X (.Tuple elts kk tpos) (.Call (.Name "enumerate" p) [e] [] pos) (iEnL fa) := PI.imp (pi_enum hg hm ha hs) di_enum_of
theorem di_enumT_of {K : PySem.W.Frag} : ∀ σ H R, tIt K (iEnT fa) σ H R → iEnumT K (tA K fa) σ H R := by
  rintro σ H R ⟨g, s, ps, s', rfl, hs, hf, k⟩
  obtain ⟨a, ha, hf⟩ := bind_inv hf
  refine ⟨g, s, a.1, a.2, rfl, hs, ha, fun vs g1 h1 e1 r1 => ?_⟩
  split at hf
  · rename_i qs hp
    cases hf
    cases r1.pvs hp with
    | cons h t =>
      cases t
      cases h with
      | tup a1 a2 => exact ⟨_, _, rfl, SqT.le h1.o.sub a1, k _ g1 h1 e1 (gvp_enumT a1 a2)⟩
  · cases hf
theorem di_enumT (hg : Gl X "enumerate") (hm : X.mg "enumerate" = none) (ha : DA X [e] fa) (hs : starEach [e] X.env = [(false, eval e X.env)] := by rfl) : DI X (.Tuple elts kk tpos) (.Call (.Name "enumerate" p) [e] [] pos) (iEnT fa) := PI.imp (pi_enumT hg hm ha hs) di_enumT_of
theorem di_zip (hg : Gl X "zip") (hm : X.mg "zip" = none) (ha : DA X [e, e2] fa) (hi : PI X (.Tuple elts kk tpos) (.Call (.Name "zip" p) [e, e2] [] pos) (iZip X.K (tA X.K fa))) : DI X (.Tuple elts kk tpos) (.Call (.Name "zip" p) [e, e2] [] pos) (iZp fa) := by
  refine PI.imp hi ?_
  rintro σ H R ⟨g, s, ps, s', rfl, hs, hf, k⟩
  obtain ⟨a, ha, hf⟩ := bind_inv hf
  refine ⟨g, s, a.1, a.2, rfl, hs, ha, fun vs g1 h1 e1 r1 => ?_⟩
  split at hf
  · rename_i qs qs2 hp
    cases hf
    cases r1.pvs hp with
    | cons h t =>
      cases t with
      | cons h' t =>
        cases t
        cases h with
        | lst a1 a2 =>
          cases h' with
          | lst b1 b2 => exact ⟨_, _, _, _, rfl, Or.inl (Or.inl (h1.o.sub _ _ a1)), Or.inl (Or.inl (h1.o.sub _ _ b1)), k _ g1 h1 e1 (gvp_zip (Or.inl (Or.inl a1)) a2 (Or.inl (Or.inl b1)) b2)⟩
  · cases hf
end

/-- a list or a tuple -/
def iA (f : DF) : IF := fun s => (f s).bind fun a => a.1.items.map fun ps => (ps, a.2)
def iEnA (f : AFn) : IF := fun s => (f s).bind fun a => match AV.pvs a.1 with
  | some [.lst ps] => some (enP ps, a.2)
  | some [.tup ps] => some (enP ps, a.2)
  | _ => none
theorem pi_or {X : Cx} {tg e : Expr} {w1 w2 : TI} (h1 : PI X tg e w1) (h2 : PI X tg e w2) : PI X tg e (fun σ H R => w1 σ H R ∨ w2 σ H R) :=
  ⟨fun pins s σ H R I h => h.elim (h1.run pins s σ H R I) (h2.run pins s σ H R I)⟩
section
variable {X : Cx} {tg e : Expr} {f : DF} {fa : AFn} {p pos tpos : Pos} {elts : List Expr} {kk : Nat}
theorem di_any (h : DE X e f) : DI X tg e (iA f) := by
  refine PI.imp (pi_or (di_list h) (di_tup h)) ?_
  rintro σ H R ⟨g, s, ps, s', rfl, hs, hf, k⟩
  obtain ⟨a, ha, hf⟩ := bind_inv hf
  obtain ⟨qs, hq, hf⟩ := map_inv hf
  cases hf
  obtain ⟨q, s1⟩ := a
  have hq : q.items = some ps := hq
  cases q <;> cases hq
  · exact Or.inl ⟨g, s, _, s1, rfl, hs, by simp [iL, ha], k⟩
  · exact Or.inr ⟨g, s, _, s1, rfl, hs, by simp [iT, ha], k⟩
  · exact Or.inl ⟨g, s, _, s1, rfl, hs, by simp [iL, ha], k⟩
theorem di_enumA (hg : Gl X "enumerate") (hm : X.mg "enumerate" = none) (ha : DA X [e] fa) (hs : starEach [e] X.env = [(false, eval e X.env)] := by rfl) : DI X (.Tuple elts kk tpos) (.Call (.Name "enumerate" p) [e] [] pos) (iEnA fa) := by
  refine PI.imp (pi_or (di_enum hg hm ha hs) (di_enumT hg hm ha hs)) ?_
  rintro σ H R ⟨g, s, ps, s', rfl, hs, hf, k⟩
  obtain ⟨a, ha, hf⟩ := bind_inv hf
  split at hf
  · rename_i qs hq
    cases hf
    exact Or.inl ⟨g, s, _, _, rfl, hs, by simp [iEnL, ha, hq], k⟩
  · rename_i qs hq
    cases hf
    exact Or.inr ⟨g, s, _, _, rfl, hs, by simp [iEnT, ha, hq], k⟩
  · cases hf
end

/-! ### for -/
def forS (ft : GF) (fb : SF) : List PV → SF
  | [], s => some (.nx s)
  | p :: ps, s => (ft p s).bind fun s1 => (fb s1).bind fun o => match o with
    | .nx s2 => forS ft fb ps s2
    | .ct s2 => forS ft fb ps s2
    | .bk s2 => some (.nx s2)
    | .rt m s2 => some (.rt m s2)
def sFor (fi : IF) (ft : GF) (fb : SF) : SF := fun s => (fi s).bind fun a => forS ft fb a.1 a.2
theorem ds_for {X : Cx} {io ts : List Nat} {tg iter : Expr} {body : List Stmt} {pos : Pos} {fi : IF} {ft : GF} {fb : SF} (hp : PassesOwn (model X.prog X.w) X.A X.env X.xe) (hc : X.calm = true) (hi : DI X tg iter fi) (hg : DG X ts tg ft) (hb : DSs X io body fb)
    (hd : ∀ i ∈ io, i ∉ ts := by decide) (hs : ∀ x, foldedSetIterable iter X.env x = pure x := by intro _; rfl) : DS X io (.For tg iter body [] pos) (sFor fi ft fb) := by
  refine PS.imp (ps_for hp hc hi hg hb hs) ?_
  rintro D σ0 H ⟨g0, s0, o, rfl, hs0, hf, k⟩
  obtain ⟨a, ha, hf⟩ := bind_inv hf
  obtain ⟨ps, s1⟩ := a
  refine ⟨g0, s0, ps, s1, rfl, hs0, ha, fun J g1 h1 e1 gv => ?_⟩
  refine ⟨fun i m σ H => m = ps.length - i ∧ i ≤ ps.length ∧ ∃ g s, g.H = H ∧ Sat X.K g σ s none ∧ Ext g1 g ∧ Pin io σ0 σ ∧ forS ft fb (ps.drop i) s = some o,
    ⟨_, rfl, Nat.zero_le _, g1, s1, rfl, h1, Ext.refl g1, Pin.refl, by simpa using hf⟩, ?_⟩
  rintro i m σ H ⟨rfl, hi, g, s, rfl, hs, eg, pg, hf2⟩
  obtain ⟨w1, w2, w3⟩ := gv g eg σ s hs
  have k2 : Fin X.K io g σ D o := k.step (e1.trans eg) pg
  by_cases hlt : i < ps.length
  · refine Or.inr ⟨w1 i hlt, fun σ' H' => i + 1 ≤ ps.length ∧ ∃ g s, g.H = H' ∧ Sat X.K g σ' s none ∧ Ext g1 g ∧ Pin io σ0 σ' ∧ forS ft fb (ps.drop (i + 1)) s = some o,
      fun σ' H' h => ⟨_, (by omega : ps.length - (i + 1) < ps.length - i), rfl, h⟩, fun x H' y => ?_⟩
    obtain ⟨g2, p, rfl, hs2, e2, hp, rp⟩ := w3 i x H' hlt y
    rw [List.drop_eq_getElem_cons hlt] at hf2
    have hpe : ps[i] = p := by
      rw [List.getElem?_eq_getElem hlt] at hp
      exact Option.some.inj hp
    rw [hpe] at hf2
    rw [forS] at hf2
    obtain ⟨s2, hft, hf2⟩ := bind_inv hf2
    obtain ⟨o2, hfb, hf2⟩ := bind_inv hf2
    refine ⟨g2, s, p, s2, rfl, hs2, rp, hft, fun σ3 g3 hs3 e3 o3 => ⟨g3, s2, o2, rfl, hs3, hfb, ?_⟩⟩
    have p3 : Pin io σ0 σ3 := pg.trans (o3.pin hd)
    have e13 := (eg.trans e2).trans e3
    cases o2 with
    | nx s4 => exact fun σ4 g4 hs4 e4 p4 => ⟨hlt, g4, s4, rfl, hs4, e13.trans e4, p3.trans p4, hf2⟩
    | ct s4 => exact fun σ4 g4 hs4 e4 p4 => ⟨hlt, g4, s4, rfl, hs4, e13.trans e4, p3.trans p4, hf2⟩
    | bk s4 =>
      cases hf2
      exact fun σ4 g4 hs4 e4 p4 => (k.step e1 Pin.refl) σ4 g4 hs4 (e13.trans e4) (p3.trans p4)
    | rt m s4 =>
      cases hf2
      exact fun v σ4 g4 hs4 e4 p4 => (k.step e1 Pin.refl) v σ4 g4 hs4 (e13.trans e4) (p3.trans p4)
  · obtain rfl : i = ps.length := by omega
    rw [List.drop_length] at hf2
    cases hf2
    exact Or.inl ⟨w2, k2 σ g hs (Ext.refl g) Pin.refl⟩

/-! ### while -/
def whileS (c : TF) (fb : SF) : Nat → SF
  | 0, _ => none
  | n + 1, s => (c s).bind fun b => if b.1 = true then (fb b.2).bind fun o => match o with
      | .nx s2 => whileS c fb n s2
      | .ct s2 => whileS c fb n s2
      | .bk s2 => some (.nx s2)
      | .rt m s2 => some (.rt m s2)
    else some (.nx b.2)
/-- so many turns -/
@[irreducible] def fuel : Nat := 1000000000
def sWhile (c : TF) (fb : SF) : SF := whileS c fb fuel
theorem ds_while {X : Cx} {io : List Nat} {c : Expr} {body : List Stmt} {pos : Pos} {fc : TF} {fb : SF} (hp : PassesOwn (model X.prog X.w) X.A X.env X.xe) (hc : DT X c fc) (hb : DSs X io body fb) : DS X io (.While c body [] pos) (sWhile fc fb) := by
  refine PS.imp (ps_while hp hc hb) ?_
  rintro D σ0 H ⟨g0, s0, o, rfl, hs0, hf, k⟩
  refine ⟨fun m σ H => ∃ g s, g.H = H ∧ Sat X.K g σ s none ∧ Ext g0 g ∧ Pin io σ0 σ ∧ whileS fc fb m s = some o, ⟨_, g0, s0, rfl, hs0, Ext.refl g0, Pin.refl, hf⟩, ?_⟩
  rintro m σ H ⟨g, s, rfl, hs, eg, pg, hf⟩
  cases m with
  | zero => cases hf
  | succ m =>
    rw [whileS] at hf
    obtain ⟨b, hb, hf⟩ := bind_inv hf
    refine ⟨g, s, b.1, b.2, rfl, hs, hb, fun g1 h1 e1 => ?_⟩
    split at hf
    · rename_i hb1
      rw [if_pos hb1]
      obtain ⟨o2, hfb, hf⟩ := bind_inv hf
      refine ⟨fun σ' H' => ∃ g s, g.H = H' ∧ Sat X.K g σ' s none ∧ Ext g0 g ∧ Pin io σ0 σ' ∧ whileS fc fb m s = some o, fun σ' H' h => ⟨m, Nat.lt_succ_self m, h⟩, g1, b.2, o2, rfl, h1, hfb, ?_⟩
      have e01 := eg.trans e1
      cases o2 with
      | nx s4 => exact fun σ4 g4 hs4 e4 p4 => ⟨g4, s4, rfl, hs4, e01.trans e4, pg.trans p4, hf⟩
      | ct s4 => exact fun σ4 g4 hs4 e4 p4 => ⟨g4, s4, rfl, hs4, e01.trans e4, pg.trans p4, hf⟩
      | bk s4 =>
        cases hf
        exact fun σ4 g4 hs4 e4 p4 => k σ4 g4 hs4 (e01.trans e4) (pg.trans p4)
      | rt m s4 =>
        cases hf
        exact fun v σ4 g4 hs4 e4 p4 => k v σ4 g4 hs4 (e01.trans e4) (pg.trans p4)
    · rename_i hb1
      rw [if_neg hb1]
      cases hf
      exact k σ g1 h1 (eg.trans e1) pg

/-! ### comprehensions -/
def wipeE (env : List (Option MV)) : List Nat → List (Option MV)
  | [] => env
  | v :: vs => (wipeE env vs).set v none
def S.wipe (s : S) (vs : List Nat) : S := { s with env := wipeE s.env vs }
/-- the slots hold nothing that is owned -/
def valAt (env : List (Option MV)) (vs : List Nat) : Bool := vs.all fun v => match env[v]? with
  | some (some (.val _)) => true
  | some (some _) => false
  | _ => true
def restE (old env : List (Option MV)) : List Nat → List (Option MV)
  | [] => env
  | v :: vs => (restE old env vs).set v (old[v]?.getD none)
def S.rest (s old : S) (vs : List Nat) : S := { s with env := restE old.env s.env vs }
def lcS (ft : GF) (tt : TF) (fe : DF) (vs : List Nat) : List PV → List PV → S → Option (List PV × S)
  | [], acc, s => some (acc, s)
  | p :: ps, acc, s => (ft p s).bind fun s1 => (tt s1).bind fun b => if b.1 = true then (fe b.2).bind fun q => if acc.length < 100000 ∧ valAt q.2.env vs = true then lcS ft tt fe vs ps (acc ++ [q.1]) (q.2.wipe vs) else none
    else if valAt b.2.env vs = true then lcS ft tt fe vs ps acc (b.2.wipe vs) else none
def mLc (fi : IF) (ft : GF) (tt : TF) (fe : DF) (vs : List Nat) : OF := fun s => (fi s).bind fun a => if valAt a.2.env vs = true then (lcS ft tt fe vs a.1 [] (a.2.wipe vs)).map fun r => (.mlst r.1, r.2.rest a.2 vs) else none
def tTrue : TF := fun s => some (true, s)
theorem wipeE_length (env : List (Option MV)) : ∀ vs, (wipeE env vs).length = env.length
  | [] => rfl
  | v :: vs => by rw [wipeE, List.length_set, wipeE_length env vs]
theorem wipeE_get {env : List (Option MV)} {i : Nat} {m : MV} : ∀ {vs : List Nat}, (wipeE env vs)[i]? = some (some m) → env[i]? = some (some m) ∧ i ∉ vs
  | [], h => ⟨h, by simp⟩
  | v :: vs, h => by
    rw [wipeE] at h
    by_cases z : i = v
    · subst z
      by_cases hl : i < (wipeE env vs).length
      · simp [hl] at h
      · simp [hl] at h
    · rw [List.getElem?_set_ne (fun e => z e.symm)] at h
      obtain ⟨h1, h2⟩ := wipeE_get h
      exact ⟨h1, by simp [z, h2]⟩
theorem wipe_get {σ : L2.St} {i : Nat} : ∀ {vs : List Nat}, i ∉ vs → (L2.wipe σ vs)[i]? = σ[i]?
  | [], _ => rfl
  | v :: vs, h => by
    rw [L2.wipe, List.getElem?_set_ne, wipe_get]
    · exact fun z => h (List.mem_cons_of_mem _ z)
    · rintro rfl
      exact h List.mem_cons_self
theorem restE_length (old env : List (Option MV)) : ∀ vs, (restE old env vs).length = env.length
  | [] => rfl
  | v :: vs => by rw [restE, List.length_set, restE_length old env vs]
theorem restE_get {old env : List (Option MV)} {i : Nat} {m : MV} : ∀ {vs : List Nat}, (restE old env vs)[i]? = some (some m) → (i ∈ vs ∧ old[i]? = some (some m)) ∨ (i ∉ vs ∧ env[i]? = some (some m))
  | [], h => Or.inr ⟨by simp, h⟩
  | v :: vs, h => by
    rw [restE] at h
    by_cases z : i = v
    · subst z
      refine Or.inl ⟨List.mem_cons_self, ?_⟩
      have hl : i < (restE old env vs).length := by
        have := lt_of_get h
        rwa [List.length_set] at this
      rw [List.getElem?_set_self hl] at h
      cases e : old[i]? with
      | none =>
        rw [e] at h
        cases h
      | some o =>
        rw [e] at h
        exact h
    · rw [List.getElem?_set_ne (fun e => z e.symm)] at h
      rcases restE_get h with ⟨h1, h2⟩ | ⟨h1, h2⟩
      · exact Or.inl ⟨List.mem_cons_of_mem _ h1, h2⟩
      · exact Or.inr ⟨by simp [z, h1], h2⟩
theorem valAt_get {env : List (Option MV)} {vs : List Nat} {i : Nat} {m : MV} (h : valAt env vs = true) (hi : i ∈ vs) (e : env[i]? = some (some m)) : ∃ p, m = .val p := by
  have := List.all_eq_true.mp h i hi
  rw [e] at this
  cases m with
  | val p => exact ⟨p, rfl⟩
  | mlst _ => cases this
  | mdct _ _ => cases this
  | mobj _ _ _ => cases this
section
variable {K : PySem.W.Frag} {g : Gh} {own own' : Own}
/-- values at keys come and go -/
theorem SatO.vals (s : SatO K g own) (h : ∀ k, own' k = own k ∨ (g.fp k = [] ∧ ∀ v m, own' k = some (v, m) → ∃ p, m = .val p ∧ Rp K g.js g.F v p)) : SatO K g own' := by
  refine ⟨s.sub, fun k v m e => ?_, fun k e => ?_, s.hid, s.dis⟩
  · rcases h k with q | ⟨q, r⟩
    · exact s.rep k v m (q ▸ e)
    · obtain ⟨p, rfl, rp⟩ := r v m e
      rw [q]
      exact .val rp
  · rcases h k with q | ⟨q, r⟩
    · exact s.emp k (q ▸ e)
    · exact q
theorem SatO.fpVal {k : Ky} (s : SatO K g own) (h : ∀ v m, own k = some (v, m) → ∃ p, m = .val p) : g.fp k = [] := by
  cases e : own k with
  | none => exact s.emp k e
  | some x =>
    obtain ⟨v, m⟩ := x
    obtain ⟨p, rfl⟩ := h v m e
    have r := s.rep k v _ e
    generalize g.fp k = fp at r
    cases r
    rfl
theorem Sat.wipe {σ : L2.St} {s : S} {vs : List Nat} (h : Sat K g σ s none) (hv : valAt s.env vs = true) : Sat K g (L2.wipe σ vs) (s.wipe vs) none := by
  refine ⟨h.o.vals fun k => ?_, by rw [L2.wipe_length, ← h.len]; exact wipeE_length _ _, fun i m e => ?_, h.jl⟩
  · cases k with
    | S j => exact Or.inl rfl
    | R => exact Or.inl rfl
    | L i =>
      by_cases hi : i ∈ vs
      · refine Or.inr ⟨h.o.fpVal fun v m e => valAt_get hv hi (ownS_L_inv e).1, fun v m e => ?_⟩
        exact absurd hi (wipeE_get (ownS_L_inv e).1).2
      · cases e : ownS g.js (L2.wipe σ vs) (s.wipe vs) none (.L i) with
        | some x =>
          obtain ⟨v, m⟩ := x
          obtain ⟨e1, e2⟩ := ownS_L_inv e
          rw [wipe_get hi] at e2
          exact Or.inl (ownS_L (wipeE_get e1).1 e2).symm
        | none =>
          cases e2 : ownS g.js σ s none (.L i) with
          | none => exact Or.inl rfl
          | some x =>
            obtain ⟨v, m⟩ := x
            obtain ⟨e3, e4⟩ := ownS_L_inv e2
            rw [← wipe_get hi] at e4
            have e5 : (s.wipe vs).env[i]? = some (some m) := by
              have : ∀ {vs : List Nat}, i ∉ vs → (wipeE s.env vs)[i]? = s.env[i]? := by
                intro vs
                induction vs with
                | nil => exact fun _ => rfl
                | cons v vs ih =>
                  intro h
                  rw [wipeE, List.getElem?_set_ne, ih fun z => h (List.mem_cons_of_mem _ z)]
                  rintro rfl
                  exact h List.mem_cons_self
              exact (this hi).trans e3
            rw [ownS_L e5 e4] at e
            cases e
  · obtain ⟨e1, e2⟩ := wipeE_get (show (wipeE s.env vs)[i]? = some (some m) from e)
    obtain ⟨v, hv⟩ := h.has i m e1
    exact ⟨v, by rw [wipe_get e2]; exact hv⟩
/-- back behind a comprehension -/
theorem Sat.rest {σ : L2.St} {s s1 : S} {vs : List Nat} {g1 : Gh} (h1 : Sat K g1 σ s1 none) (hv : valAt s1.env vs = true) (e : Ext g1 g) (h : Sat K g (L2.wipe σ vs) s none) (hw : ∀ i m, i ∈ vs → s.env[i]? ≠ some (some m)) : Sat K g σ (s.rest s1 vs) none := by
  have hlen : s.env.length = σ.length := by rw [h.len, L2.wipe_length]
  refine ⟨h.o.vals fun k => ?_, by rw [← hlen]; exact restE_length _ _ _, fun i m e => ?_, h.jl⟩
  · cases k with
    | S j => exact Or.inl rfl
    | R => exact Or.inl rfl
    | L i =>
      by_cases hi : i ∈ vs
      · refine Or.inr ⟨h.o.fpVal fun v m e => absurd (ownS_L_inv e).1 (hw i m hi), fun v m e2 => ?_⟩
        obtain ⟨q1, q2⟩ := ownS_L_inv e2
        rcases restE_get (show (restE s1.env s.env vs)[i]? = some (some m) from q1) with ⟨_, q3⟩ | ⟨q3, _⟩
        · obtain ⟨p, rfl⟩ := valAt_get hv hi q3
          obtain ⟨v', hv', r⟩ := h1.val q3
          rw [q2] at hv'
          cases hv'
          exact ⟨p, rfl, r.ext e⟩
        · exact absurd hi q3
      · cases q : ownS g.js σ (s.rest s1 vs) none (.L i) with
        | some x =>
          obtain ⟨v, m⟩ := x
          obtain ⟨e1, e2⟩ := ownS_L_inv q
          rcases restE_get (show (restE s1.env s.env vs)[i]? = some (some m) from e1) with ⟨q3, _⟩ | ⟨_, q3⟩
          · exact absurd q3 hi
          · rw [← wipe_get hi] at e2
            exact Or.inl (ownS_L q3 e2).symm
        | none =>
          cases e2 : ownS g.js (L2.wipe σ vs) s none (.L i) with
          | none => exact Or.inl rfl
          | some x =>
            obtain ⟨v, m⟩ := x
            obtain ⟨e3, e4⟩ := ownS_L_inv e2
            rw [wipe_get hi] at e4
            have e5 : (s.rest s1 vs).env[i]? = some (some m) := by
              have : ∀ {vs : List Nat}, i ∉ vs → (restE s1.env s.env vs)[i]? = s.env[i]? := by
                intro vs
                induction vs with
                | nil => exact fun _ => rfl
                | cons v vs ih =>
                  intro h
                  rw [restE, List.getElem?_set_ne, ih fun z => h (List.mem_cons_of_mem _ z)]
                  rintro rfl
                  exact h List.mem_cons_self
              exact (this hi).trans e3
            rw [ownS_L e5 e4] at q
            cases q
  · rcases restE_get (show (restE s1.env s.env vs)[i]? = some (some m) from e) with ⟨hi, q⟩ | ⟨hi, q⟩
    · exact h1.has i m q
    · obtain ⟨v, hv⟩ := h.has i m q
      rw [wipe_get hi] at hv
      exact ⟨v, hv⟩
end
theorem wipe_only {σ σ' : L2.St} {vs : List Nat} (h : Only vs (L2.wipe σ vs) σ') : L2.wipe σ' vs = L2.wipe σ vs := by
  have hl : (L2.wipe σ' vs).length = (L2.wipe σ vs).length := by rw [L2.wipe_length, h.1, L2.wipe_length]
  have nn : ∀ (τ : L2.St) {vs : List Nat} {i : Nat}, i ∈ vs → i < τ.length → (L2.wipe τ vs)[i]? = some none := by
    intro τ vs
    induction vs with
    | nil => intro i h; cases h
    | cons v vs ih =>
      intro i hi hl
      rw [L2.wipe]
      by_cases z : i = v
      · subst z
        rw [List.getElem?_set_self (by rw [L2.wipe_length]; exact hl)]
      · rw [List.getElem?_set_ne fun e => z e.symm]
        rcases List.mem_cons.mp hi with e | e
        · exact absurd e z
        · exact ih e hl
  refine List.ext_getElem? fun i => ?_
  by_cases hi : i ∈ vs
  · by_cases hi2 : i < σ'.length
    · rw [nn σ' hi hi2, nn σ hi (by rw [h.1, L2.wipe_length] at hi2; exact hi2)]
    · rw [List.getElem?_eq_none (by rw [L2.wipe_length]; omega), List.getElem?_eq_none (by rw [← hl, L2.wipe_length]; omega)]
  · rw [wipe_get hi, h.2 i hi]
theorem wipe_none {s : S} {vs : List Nat} {i : Nat} {m : MV} (hi : i ∈ vs) : (s.wipe vs).env[i]? ≠ some (some m) := fun h => (wipeE_get (show (wipeE s.env vs)[i]? = some (some m) from h)).2 hi
theorem mLc_of {K : PySem.W.Frag} {fi : IF} {ft : GF} {tt : TF} {fe : DF} {vs : List Nat} : ∀ σ H Q, tO K (mLc fi ft tt fe vs) σ H Q → tLc (tIt K fi) (tG K vs ft) (tTt K tt) (tD K fe) vs σ H Q := by
  rintro σ H Q ⟨g0, s0, m, s', rfl, hs0, hf, k⟩
  obtain ⟨a, ha, hf⟩ := bind_inv hf
  obtain ⟨ps, s1⟩ := a
  split at hf
  · rename_i hv
    obtain ⟨r, hr, hf⟩ := map_inv hf
    cases hf
    refine ⟨g0, s0, ps, s1, rfl, hs0, ha, fun J g1 h1 e1 gv D nD => ?_⟩
    have hW := h1.wipe hv
    -- the state, the list at D apart
    let Inv : Nat → Hp → Prop := fun i H => i ≤ ps.length ∧ ∃ g s acc us, g.H = H ∧ Sat K g (L2.wipe σ vs) s none ∧ Ext g1 g ∧ H D = some (.lst us) ∧ (∀ k, D ∉ g.fp k) ∧ g.F D = none ∧ RpA K g.js g.F us acc ∧
      (∀ i m, i ∈ vs → s.env[i]? ≠ some (some m)) ∧ lcS ft tt fe vs (ps.drop i) acc s = some r
    refine ⟨fun i m H => m = ps.length - i ∧ Inv i H, ⟨_, rfl, Nat.zero_le _, { g1 with H := upd g1.H D (.lst []) }, s1.wipe vs, [], [], rfl, ?_, ?_, upd_same, fun k h => hW.o.new_fp nD h, hW.o.new_F nD, .nil, fun i m hi => wipe_none hi, by simpa using hr⟩, ?_⟩
    · exact hW.other (fun k h => hW.o.new_fp nD h) (hW.o.new_F nD)
    · exact ⟨fun _ _ e => e, fun a o e _ => upd_le nD a o e, fun k a h => Or.inl ⟨k, h⟩, fun _ h => Or.inl h, fun a h => upd_dom h, [], by simp⟩
    · rintro i m H ⟨rfl, hi, g, s, acc, us, rfl, hs, eg, hD, nf, nF, hR, hw, hf⟩
      obtain ⟨w1, w2, w3⟩ := gv g eg _ s hs
      by_cases hlt : i < ps.length
      · refine Or.inr ⟨w1 i hlt, Inv (i + 1), fun H' h => ⟨_, (by omega : ps.length - (i + 1) < ps.length - i), rfl, h⟩, fun x H' y => ?_⟩
        obtain ⟨g2, p, rfl, hs2, e2, hp, rp⟩ := w3 i x H' hlt y
        rw [List.drop_eq_getElem_cons hlt] at hf
        have hpe : ps[i] = p := by
          rw [List.getElem?_eq_getElem hlt] at hp
          exact Option.some.inj hp
        rw [hpe, lcS] at hf
        obtain ⟨s2, hft, hf⟩ := bind_inv hf
        obtain ⟨b, htt, hf⟩ := bind_inv hf
        refine ⟨g2, s, p, s2, rfl, hs2, rp, hft, fun σ3 g3 hs3 e3 o3 => ⟨wipe_only o3, g3, s2, b.1, b.2, rfl, hs3, htt, fun g4 hs4 e4 => ?_⟩⟩
        have hσ : L2.wipe σ3 vs = L2.wipe σ vs := wipe_only o3
        have e24 := (e2.trans e3).trans e4
        have nfx : ∀ {g5 : Gh}, Ext g g5 → (∀ k, D ∉ g5.fp k) ∧ g5.F D = none ∧ g5.H D = some (.lst us) := fun {g5} e5 => by
          refine ⟨fun k h => ?_, ?_, e5.H D _ hD nf⟩
          · rcases e5.fp k D h with ⟨k', h'⟩ | h'
            · exact nf k' h'
            · rw [hD] at h'
              cases h'
          · cases q : g5.F D with
            | none => rfl
            | some o =>
              rcases e5.fr D (by rw [q]; simp) with h | ⟨k', h'⟩ | h'
              · exact absurd nF h
              · exact absurd h' (nf k')
              · rw [hD] at h'
                cases h'
        -- the slots wiped again
        have again : ∀ {g5 : Gh} {s5 : S}, Sat K g5 σ3 s5 none → valAt s5.env vs = true → Sat K g5 (L2.wipe σ vs) (s5.wipe vs) none := fun {g5 s5} h5 hv5 => hσ ▸ h5.wipe hv5
        show if b.1 = true then _ else _
        split at hf
        · rename_i hb
          rw [if_pos hb]
          obtain ⟨q, hfe, hf⟩ := bind_inv hf
          refine ⟨g4, b.2, q.1, q.2, rfl, hs4, hfe, fun v g5 hs5 e5 r5 => ?_⟩
          split at hf
          · rename_i hacc
            obtain ⟨n1, n2, n3⟩ := nfx (e24.trans e5)
            have hul := hR.length
            refine ⟨us, n3, sz_lt (by have := hacc.1; omega), hlt, { g5 with H := upd g5.H D (.lst (us ++ [v])) }, q.2.wipe vs, acc ++ [q.1], us ++ [v], rfl, ?_, ?_, upd_same, n1, n2, ?_, fun i m hi => wipe_none hi, hf⟩
            · exact (again hs5 hacc.2).other n1 n2
            · refine ⟨fun a o e => (eg.trans (e24.trans e5)).F a o e, fun a o e n => ?_, (eg.trans (e24.trans e5)).fp, (eg.trans (e24.trans e5)).fr, fun a h => (eg.trans (e24.trans e5)).dom a (upd_dom h), (eg.trans (e24.trans e5)).js⟩
              show upd g5.H D (.lst (us ++ [v])) a = some o
              rw [upd_ne]
              · exact (eg.trans (e24.trans e5)).H a o e n
              · rintro rfl
                rw [nD] at e
                cases e
            · exact (hR.ext (e24.trans e5)).append (.one r5)
          · cases hf
        · rename_i hb
          rw [if_neg hb]
          split at hf
          · rename_i hval
            obtain ⟨n1, n2, n3⟩ := nfx e24
            exact ⟨hlt, g4, b.2.wipe vs, acc, us, rfl, again hs4 hval, eg.trans e24, n3, n1, n2, hR.ext e24, fun i m hi => wipe_none hi, hf⟩
          · cases hf
      · obtain rfl : i = ps.length := by omega
        rw [List.drop_length, lcS] at hf
        cases hf
        refine Or.inl ⟨w2, ?_⟩
        have h5 := Sat.rest h1 hv eg hs hw
        -- the new list goes into the register
        refine k (.ref D) { g with fp := setK g.fp .R [D] } ⟨?_, h5.len, h5.has, h5.jl⟩ ?_
        · have h6 := h5.o.put (k := .R) (v := .ref D) (m := .mlst acc) (fp' := [D]) (.lst hD hR) (fun a ha => by rw [List.mem_singleton.mp ha]; exact nF) (fun a ha k' _ => by rw [List.mem_singleton.mp ha]; exact nf k')
          rw [show ({ g with fp := setK g.fp .R [D] } : Gh).js = g.js from rfl, ownS_R (r := none)]
          exact h6
        · have e2 := e1.trans eg
          refine ⟨e2.F, e2.H, fun k' a ha => ?_, e2.fr, e2.dom, e2.js⟩
          have ha : a ∈ setK g.fp .R [D] k' := ha
          by_cases z : k' = .R
          · rw [z, setK_same] at ha
            rw [List.mem_singleton.mp ha]
            exact Or.inr (e1.dom D nD)
          · rw [setK_ne z] at ha
            exact e2.fp k' a ha
  · cases hf
end DD
/-! E8: comprehensions as rules; what is lent to a callee; a def's promise. -/
namespace DD
open PySem L2 GG PySem.Spec PyProof.Rows
theorem PTs.imp {X : Cx} {ifs : List Expr} {t t' : TT} (h : PTs X ifs t) (i : ∀ σ H Q, t' σ H Q → t σ H Q) : PTs X ifs t' := ⟨fun pins s σ H Q I q => h.run pins s σ H Q I (i σ H Q q)⟩
abbrev DTs (X : Cx) (ifs : List Expr) (f : TF) : Prop := PTs X ifs (tTt X.K f)
section
variable {X : Cx}
theorem dts_nil : DTs X [] tTrue := by
  refine PTs.imp pts_nil ?_
  rintro σ H Q ⟨g, s, b, s', rfl, hs, hf, k⟩
  cases hf
  exact k g hs (Ext.refl g)
theorem dts_one {c : Expr} {f : TF} (h : DT X c f) : DTs X [c] f := pts_one h
theorem do_lc {elt tg iter : Expr} {ifs : List Expr} {scope : Scope} {own : List (Str × Nat)} {pos : Pos} {fi : IF} {ft : GF} {tt : TF} {fe : DF} (hc : X.calm = true) (hN : X.N.Nodup) (hi : DI X tg iter fi) (ok : BlkOk X.N X.env.scope scope own)
    (hg : ∀ (s : Shared) (H : Hp) (C : Addr) (cl : List (Str × Addr)) (fp : List Addr), DG (X.blk s H scope (compEnvC scope cl C X.env) fp) (own.map (·.2)) tg ft) (ht : ∀ (s : Shared) (H : Hp) (C : Addr) (cl : List (Str × Addr)) (fp : List Addr), DTs (X.blk s H scope (compEnvC scope cl C X.env) fp) ifs tt)
    (he : ∀ (s : Shared) (H : Hp) (C : Addr) (cl : List (Str × Addr)) (fp : List Addr), DE (X.blk s H scope (compEnvC scope cl C X.env) fp) elt fe) (hs : ∀ x, foldedSetIterable iter X.env x = pure x := by intro _; rfl) :
    DO X (.ListComp elt [⟨tg, iter, ifs, 0⟩] scope pos) (mLc fi ft tt fe (own.map (·.2))) :=
  PE.imp (pe_lc hc hN hi ok hg ht he hs) mLc_of
theorem ds_setLc {io : List Nat} {i : Nat} {y : Str} {py : Pos} {elt tg iter : Expr} {ifs : List Expr} {scope : Scope} {own : List (Str × Nat)} {pos spos : Pos} {fi : IF} {ft : GF} {tt : TF} {fe : DF} (hc : X.calm = true) (hN : X.N.Nodup) (hy : X.N[i]? = some y) (hyl : X.env.scope.names.lookup y = some .local)
    (hsw : swapsWith (.ListComp elt [⟨tg, iter, ifs, 0⟩] scope pos) (some (.Name y py)) spos.line X.env = pure true) (hi : DI X tg iter fi) (ok : BlkOk X.N X.env.scope scope own)
    (hg : ∀ (s : Shared) (H : Hp) (C : Addr) (cl : List (Str × Addr)) (fp : List Addr), DG (X.blk s H scope (compEnvC scope cl C X.env) fp) (own.map (·.2)) tg ft) (ht : ∀ (s : Shared) (H : Hp) (C : Addr) (cl : List (Str × Addr)) (fp : List Addr), DTs (X.blk s H scope (compEnvC scope cl C X.env) fp) ifs tt)
    (he : ∀ (s : Shared) (H : Hp) (C : Addr) (cl : List (Str × Addr)) (fp : List Addr), DE (X.blk s H scope (compEnvC scope cl C X.env) fp) elt fe) (hd : i ∉ io := by decide) (hs : ∀ x, foldedSetIterable iter X.env x = pure x := by intro _; rfl) :
    DS X io (.Assign [.Name y py] (.ListComp elt [⟨tg, iter, ifs, 0⟩] scope pos) spos) (sSetO i (mLc fi ft tt fe (own.map (·.2)))) :=
  PS.imp (ps_setLc hc hN hy hyl hsw hi ok hg ht he hs) fun D σ H h => mLc_of σ H _ (tSetO_of hd D σ H h)
theorem ds_setLcD {io : List Nat} {i : Nat} {y : Str} {py : Pos} {elt tg iter : Expr} {ifs : List Expr} {scope : Scope} {own : List (Str × Nat)} {pos spos : Pos} {fi : IF} {ft : GF} {tt : TF} {fe : DF} (hc : X.calm = true) (hN : X.N.Nodup) (hy : X.N[i]? = some y) (hyl : X.env.scope.names.lookup y = some .local)
    (hsw : swapsWith (.ListComp elt [⟨tg, iter, ifs, 0⟩] scope pos) (some (.Name y py)) spos.line X.env = pure true) (hi : DI X tg iter fi) (ok : BlkOk X.N X.env.scope scope own)
    (hg : ∀ (s : Shared) (H : Hp) (C : Addr) (cl : List (Str × Addr)) (fp : List Addr), DG (X.blk s H scope (compEnvC scope cl C X.env) fp) (own.map (·.2)) tg ft) (ht : ∀ (s : Shared) (H : Hp) (C : Addr) (cl : List (Str × Addr)) (fp : List Addr), DTs (X.blk s H scope (compEnvC scope cl C X.env) fp) ifs tt)
    (he : ∀ (s : Shared) (H : Hp) (C : Addr) (cl : List (Str × Addr)) (fp : List Addr), DE (X.blk s H scope (compEnvC scope cl C X.env) fp) elt fe) (hd : i ∉ io := by decide) (hs : ∀ x, foldedSetIterable iter X.env x = pure x := by intro _; rfl) :
    DS X io (.Assign [.Name y py] (.ListComp elt [⟨tg, iter, ifs, 0⟩] scope pos) spos) (sAsg (dFrz (mLc fi ft tt fe (own.map (·.2)))) (gNm i)) := by
  refine PS.imp (ps_setLc hc hN hy hyl hsw hi ok hg ht he hs) fun D σ H h => mLc_of σ H _ ?_
  obtain ⟨g, s, o, rfl, hs, hf, k⟩ := h
  obtain ⟨a, ha, hf⟩ := bind_inv hf
  obtain ⟨b, hb, rfl⟩ := map_inv ha
  obtain ⟨s2, hg2, rfl⟩ := map_inv hf
  refine ⟨g, s, b.1, b.2, rfl, hs, hb, fun v g1 h1 e1 => ?_⟩
  obtain ⟨h2, e2, r2⟩ := h1.frzR
  unfold gNm at hg2
  split at hg2
  · rename_i hl
    cases hg2
    obtain ⟨h3, e3⟩ := h2.setVal hl r2
    exact (k _ _ h3 ((e1.trans e2).trans e3) (Pin.set hd) :)
  · cases hg2
end

/-! ### what is lent -/
/-- the callee's ghost state: what is lent, by its own keys -/
def Gh.lend (g : Gh) (ρ : Ky → Option Ky) : Gh := { g with fp := fun k => match ρ k with
  | some c => g.fp c
  | none => [] }
/-- back: what was lent, by the callee's keys; what was not stays -/
def Gh.back (g g1 : Gh) (lent : Ky → Bool) (ρ : Ky → Option Ky) : Gh := { g with fp := fun c => match ρ c with
  | some k => g.fp k
  | none => if lent c = true then [] else g1.fp c }
def lendO (own : Own) (ρ : Ky → Option Ky) : Own := fun k => (ρ k).bind own
def backO (own own1 : Own) (lent : Ky → Bool) (ρ : Ky → Option Ky) : Own := fun c => match ρ c with
  | some k => own k
  | none => if lent c = true then none else own1 c
section
variable {K : PySem.W.Frag} {g g1 gc : Gh} {own own1 ownc : Own} {ρ ρ' : Ky → Option Ky} {lent : Ky → Bool}
theorem SatO.lend (s : SatO K g own) (inj : ∀ k k' c, ρ k = some c → ρ k' = some c → k = k') : SatO K (g.lend ρ) (lendO own ρ) := by
  have sub : ∀ k a, a ∈ (g.lend ρ).fp k → ∃ c, ρ k = some c ∧ a ∈ g.fp c := fun k a h => by
    have h : a ∈ (match ρ k with | some c => g.fp c | none => []) := h
    split at h
    · rename_i c hc
      exact ⟨c, hc, h⟩
    · simp at h
  refine ⟨s.sub, fun k v m e => ?_, fun k e => ?_, fun k a h => ?_, fun k k' a h h' => ?_⟩
  · obtain ⟨c, hc, e⟩ := Option.bind_eq_some_iff.mp e
    show RpM K g.js g.F g.H v m (match ρ k with | some c => g.fp c | none => [])
    rw [hc]
    exact s.rep c v m e
  · show (match ρ k with | some c => g.fp c | none => []) = []
    cases hc : ρ k with
    | none => rfl
    | some c =>
      have e : (ρ k).bind own = none := e
      rw [hc] at e
      exact s.emp c e
  · obtain ⟨c, _, h⟩ := sub k a h
    exact s.hid c a h
  · obtain ⟨c, hc, h⟩ := sub k a h
    obtain ⟨c', hc', h'⟩ := sub k' a h'
    obtain rfl := s.dis c c' a h h'
    exact inj k k' c hc hc'
theorem SatO.back (s1 : SatO K g1 own1) (e : Ext (g1.lend ρ) gc) (sc : SatO K gc ownc) (hl : ∀ k c, ρ k = some c → lent c = true) (hb : ∀ c k, ρ' c = some k → lent c = true ∨ own1 c = none)
    (inj : ∀ c c' k, ρ' c = some k → ρ' c' = some k → c = c') : SatO K (gc.back g1 lent ρ') (backO ownc own1 lent ρ') ∧ Ext g1 (gc.back g1 lent ρ') := by
  have sub : ∀ c a, a ∈ (gc.back g1 lent ρ').fp c → (∃ k, ρ' c = some k ∧ a ∈ gc.fp k) ∨ (ρ' c = none ∧ lent c = false ∧ a ∈ g1.fp c) := fun c a h => by
    have h : a ∈ (match ρ' c with | some k => gc.fp k | none => if lent c = true then [] else g1.fp c) := h
    split at h
    · rename_i k hk
      exact Or.inl ⟨k, hk, h⟩
    · rename_i hk
      split at h
      · simp at h
      · rename_i hn
        exact Or.inr ⟨hk, by simpa using hn, h⟩
  -- what was not lent is not the callee's
  have notc : ∀ c a, lent c = false → a ∈ g1.fp c → ∀ k, a ∉ (g1.lend ρ).fp k := fun c a hn ha k h => by
    have h : a ∈ (match ρ k with | some c => g1.fp c | none => []) := h
    split at h
    · rename_i c' hc'
      obtain rfl := s1.dis c c' a ha h
      rw [hl k c hc'] at hn
      cases hn
    · simp at h
  have notc2 : ∀ c a, lent c = false → a ∈ g1.fp c → ∀ k, a ∉ gc.fp k := fun c a hn ha k h => by
    rcases e.fp k a h with ⟨k', h'⟩ | h'
    · exact notc c a hn ha k' h'
    · exact s1.at_ ha h'
  have hF : ∀ c a, lent c = false → a ∈ g1.fp c → gc.F a = none := fun c a hn ha => by
    cases q : gc.F a with
    | none => rfl
    | some o =>
      rcases e.fr a (by rw [q]; simp) with h | ⟨k, h⟩ | h
      · exact absurd (s1.hid c a ha) h
      · exact absurd h (notc c a hn ha k)
      · exact absurd h (s1.at_ ha)
  refine ⟨⟨sc.sub, fun c v m h => ?_, fun c h => ?_, fun c a h => ?_, fun c c' a h h' => ?_⟩, ⟨e.F, fun a o h n => e.H a o h fun k hk => ?_, fun c a h => ?_, fun a h => ?_, e.dom, e.js⟩⟩
  · show RpM K gc.js gc.F gc.H v m (match ρ' c with | some k => gc.fp k | none => if lent c = true then [] else g1.fp c)
    have h : (match ρ' c with | some k => ownc k | none => if lent c = true then none else own1 c) = some (v, m) := h
    cases hk : ρ' c with
    | some k =>
      rw [hk] at h
      exact sc.rep k v m h
    | none =>
      rw [hk] at h
      by_cases hn : lent c = true
      · simp only [if_pos hn] at h
        cases h
      · have hn2 : lent c = false := by simpa using hn
        simp only [if_neg hn] at h ⊢
        exact (s1.rep c v m h).keep e.F e.js fun a o ha ho => e.H a o ho fun k => notc c a hn2 ha k
  · show (match ρ' c with | some k => gc.fp k | none => if lent c = true then [] else g1.fp c) = []
    have h : (match ρ' c with | some k => ownc k | none => if lent c = true then none else own1 c) = none := h
    cases hk : ρ' c with
    | some k =>
      rw [hk] at h
      exact sc.emp k h
    | none =>
      rw [hk] at h
      by_cases hn : lent c = true
      · simp only [if_pos hn]
      · simp only [if_neg hn] at h ⊢
        exact s1.emp c h
  · rcases sub c a h with ⟨k, _, h⟩ | ⟨_, hn, h⟩
    · exact sc.hid k a h
    · exact hF c a hn h
  · rcases sub c a h with ⟨k, hk, h⟩ | ⟨_, hn, h⟩ <;> rcases sub c' a h' with ⟨k', hk', h'⟩ | ⟨_, hn', h'⟩
    · obtain rfl := sc.dis k k' a h h'
      exact inj c c' k hk hk'
    · exact absurd h (notc2 c' a hn' h' k)
    · exact absurd h' (notc2 c a hn h k')
    · exact s1.dis c c' a h h'
  · have hk : a ∈ (match ρ k with | some c => g1.fp c | none => []) := hk
    split at hk
    · exact n _ hk
    · simp at hk
  · have up : ∀ k, a ∈ (g1.lend ρ).fp k → ∃ c, a ∈ g1.fp c := fun k hk => by
      have hk : a ∈ (match ρ k with | some c => g1.fp c | none => []) := hk
      split at hk
      · exact ⟨_, hk⟩
      · simp at hk
    rcases sub c a h with ⟨k, _, h⟩ | ⟨_, _, h⟩
    · rcases e.fp k a h with ⟨k', h'⟩ | h'
      · exact Or.inl (up k' h')
      · exact Or.inr h'
    · exact Or.inl ⟨c, h⟩
  · rcases e.fr a h with h | ⟨k, hk⟩ | h
    · exact Or.inl h
    · have hk : a ∈ (match ρ k with | some c => g1.fp c | none => []) := hk
      split at hk
      · exact Or.inr (Or.inl ⟨_, hk⟩)
      · simp at hk
    · exact Or.inr (Or.inr h)
end

/-! ### arguments taken out of the slots, and back -/
def takeA : List AV → List (Option MV) → Option (List MV × List (Option MV))
  | [], env => some ([], env)
  | .pv p :: r, env => (takeA r env).map fun b => (.val p :: b.1, b.2)
  | .io i :: r, env => match env[i]? with
    | some (some m) => (takeA r (env.set i none)).map fun b => (m :: b.1, b.2)
    | _ => none
def putA : List AV → List MV → List (Option MV) → List (Option MV)
  | .io i :: r, m :: ms, env => putA r ms (env.set i (some m))
  | .pv _ :: r, _ :: ms, env => putA r ms env
  | _, _, env => env
def posA : List AV → Nat → Option Nat
  | [], _ => none
  | .io j :: r, i => if j = i then some 0 else (posA r i).map (· + 1)
  | .pv _ :: r, i => (posA r i).map (· + 1)
theorem posA_get : ∀ {as : List AV} {i k : Nat}, posA as i = some k → as[k]? = some (.io i)
  | .io j :: r, i, k, h => by
    rw [posA] at h
    split at h
    · rename_i e
      cases h
      rw [e]
      rfl
    · obtain ⟨n, hn, rfl⟩ := map_inv h
      show r[n]? = some (.io i)
      exact posA_get hn
  | .pv _ :: r, i, k, h => by
    rw [posA] at h
    obtain ⟨n, hn, rfl⟩ := map_inv h
    show r[n]? = some (.io i)
    exact posA_get hn
theorem takeA_len : ∀ {as : List AV} {env env' : List (Option MV)} {ms : List MV}, takeA as env = some (ms, env') → ms.length = as.length ∧ env'.length = env.length
  | [], env, env', ms, h => by
    cases h
    exact ⟨rfl, rfl⟩
  | .pv p :: r, env, env', ms, h => by
    rw [takeA] at h
    obtain ⟨b, hb, h⟩ := map_inv h
    cases h
    obtain ⟨h1, h2⟩ := takeA_len (env' := b.2) (ms := b.1) hb
    exact ⟨by simp [h1], h2⟩
  | .io i :: r, env, env', ms, h => by
    rw [takeA] at h
    split at h
    · obtain ⟨b, hb, h⟩ := map_inv h
      cases h
      obtain ⟨h1, h2⟩ := takeA_len (env' := b.2) (ms := b.1) hb
      exact ⟨by simp [h1], by simpa using h2⟩
    · cases h
theorem takeA_none : ∀ {as : List AV} {env env' : List (Option MV)} {ms : List MV} {i : Nat}, takeA as env = some (ms, env') → posA as i = none → env'[i]? = env[i]?
  | [], env, env', ms, i, h, _ => by
    cases h
    rfl
  | .pv p :: r, env, env', ms, i, h, n => by
    rw [takeA] at h
    obtain ⟨b, hb, h⟩ := map_inv h
    cases h
    rw [posA, Option.map_eq_none_iff] at n
    exact takeA_none (ms := b.1) hb n
  | .io j :: r, env, env', ms, i, h, n => by
    rw [takeA] at h
    split at h
    · obtain ⟨b, hb, h⟩ := map_inv h
      cases h
      rw [posA] at n
      split at n
      · cases n
      · rename_i hj
        rw [Option.map_eq_none_iff] at n
        rw [takeA_none (ms := b.1) hb n, List.getElem?_set_ne hj]
    · cases h
/-- a slot that holds nothing is not taken -/
theorem takeA_free : ∀ {as : List AV} {env env' : List (Option MV)} {ms : List MV} {i : Nat}, takeA as env = some (ms, env') → (∀ m, env[i]? ≠ some (some m)) → posA as i = none
  | [], _, _, _, _, _, _ => rfl
  | .pv p :: r, env, env', ms, i, h, n => by
    rw [takeA] at h
    obtain ⟨b, hb, h⟩ := map_inv h
    cases h
    rw [posA, takeA_free (ms := b.1) hb n]
    rfl
  | .io j :: r, env, env', ms, i, h, n => by
    rw [takeA] at h
    split at h
    · rename_i m hm
      obtain ⟨b, hb, h⟩ := map_inv h
      cases h
      rw [posA]
      split
      · rename_i hj
        subst hj
        exact absurd hm (n m)
      · rename_i hj
        rw [takeA_free (ms := b.1) hb fun m => by rw [List.getElem?_set_ne hj]; exact n m]
        rfl
    · cases h
theorem takeA_io : ∀ {as : List AV} {env env' : List (Option MV)} {ms : List MV} {i k : Nat}, takeA as env = some (ms, env') → as[k]? = some (.io i) → posA as i = some k ∧ ∃ m, env[i]? = some (some m) ∧ ms[k]? = some m
  | [], env, env', ms, i, k, h, e => by simp at e
  | .pv p :: r, env, env', ms, i, k, h, e => by
    rw [takeA] at h
    obtain ⟨b, hb, h⟩ := map_inv h
    cases h
    cases k with
    | zero => cases e
    | succ k =>
      obtain ⟨h1, m, h2, h3⟩ := takeA_io (ms := b.1) (k := k) hb e
      exact ⟨by rw [posA, h1]; rfl, m, h2, h3⟩
  | .io j :: r, env, env', ms, i, k, h, e => by
    rw [takeA] at h
    split at h
    · rename_i m hm
      obtain ⟨b, hb, h⟩ := map_inv h
      cases h
      cases k with
      | zero =>
        cases e
        exact ⟨by rw [posA, if_pos rfl], m, hm, rfl⟩
      | succ k =>
        obtain ⟨h1, m2, h2, h3⟩ := takeA_io (ms := b.1) (k := k) hb e
        by_cases hj : j = i
        · subst hj
          rw [List.getElem?_set_self (lt_of_get hm)] at h2
          cases h2
        · rw [List.getElem?_set_ne hj] at h2
          exact ⟨by rw [posA, if_neg hj, h1]; rfl, m2, h2, h3⟩
    · cases h
theorem takeA_pv : ∀ {as : List AV} {env env' : List (Option MV)} {ms : List MV} {k : Nat} {p : PV}, takeA as env = some (ms, env') → as[k]? = some (.pv p) → ms[k]? = some (.val p)
  | [], env, env', ms, k, p, h, e => by simp at e
  | .pv q :: r, env, env', ms, k, p, h, e => by
    rw [takeA] at h
    obtain ⟨b, hb, h⟩ := map_inv h
    cases h
    cases k with
    | zero =>
      cases e
      rfl
    | succ k => exact takeA_pv (ms := b.1) (k := k) hb e
  | .io j :: r, env, env', ms, k, p, h, e => by
    rw [takeA] at h
    split at h
    · obtain ⟨b, hb, h⟩ := map_inv h
      cases h
      cases k with
      | zero => cases e
      | succ k => exact takeA_pv (ms := b.1) (k := k) hb e
    · cases h
theorem putA_len : ∀ {as : List AV} {ms : List MV} {env : List (Option MV)}, (putA as ms env).length = env.length
  | [], ms, env => by
    cases ms <;> rfl
  | .io i :: r, [], env => rfl
  | .io i :: r, m :: ms, env => by rw [putA, putA_len, List.length_set]
  | .pv _ :: r, [], env => rfl
  | .pv _ :: r, m :: ms, env => by rw [putA, putA_len]
theorem putA_none : ∀ {as : List AV} {ms : List MV} {env : List (Option MV)} {i : Nat}, posA as i = none → (putA as ms env)[i]? = env[i]?
  | [], ms, env, i, _ => by
    cases ms <;> rfl
  | .io j :: r, [], env, i, _ => rfl
  | .io j :: r, m :: ms, env, i, n => by
    rw [posA] at n
    split at n
    · cases n
    · rename_i hj
      rw [Option.map_eq_none_iff] at n
      rw [putA, putA_none n, List.getElem?_set_ne hj]
  | .pv _ :: r, [], env, i, _ => rfl
  | .pv _ :: r, m :: ms, env, i, n => by
    rw [posA, Option.map_eq_none_iff] at n
    rw [putA, putA_none n]
/-- the slots lent are all different -/
def DisA : List AV → Prop
  | [] => True
  | .pv _ :: r => DisA r
  | .io i :: r => posA r i = none ∧ DisA r
theorem takeA_dis : ∀ {as : List AV} {env env' : List (Option MV)} {ms : List MV}, takeA as env = some (ms, env') → DisA as
  | [], _, _, _, _ => trivial
  | .pv p :: r, env, env', ms, h => by
    rw [takeA] at h
    obtain ⟨b, hb, h⟩ := map_inv h
    show DisA r
    exact takeA_dis (ms := b.1) hb
  | .io i :: r, env, env', ms, h => by
    rw [takeA] at h
    split at h
    · rename_i m hm
      obtain ⟨b, hb, h⟩ := map_inv h
      refine ⟨takeA_free (ms := b.1) hb fun m e => ?_, takeA_dis (ms := b.1) hb⟩
      rw [List.getElem?_set_self (lt_of_get hm)] at e
      cases e
    · cases h
theorem putA_some : ∀ {as : List AV} {ms : List MV} {env : List (Option MV)} {i k : Nat}, DisA as → ms.length = as.length → posA as i = some k → i < env.length → ∃ m, ms[k]? = some m ∧ (putA as ms env)[i]? = some (some m)
  | .io j :: r, [], env, i, k, _, hl, _, _ => by simp at hl
  | .io j :: r, m :: ms, env, i, k, d, hl, h, hi => by
    rw [posA] at h
    split at h
    · rename_i hj
      cases h
      subst hj
      exact ⟨m, rfl, by rw [putA, putA_none d.1, List.getElem?_set_self hi]⟩
    · obtain ⟨n, hn, rfl⟩ := map_inv h
      obtain ⟨m2, h1, h2⟩ := putA_some (env := env.set j (some m)) d.2 (by simpa using hl) hn (by simpa using hi)
      exact ⟨m2, h1, by rw [putA]; exact h2⟩
  | .pv _ :: r, [], env, i, k, _, hl, _, _ => by simp at hl
  | .pv _ :: r, m :: ms, env, i, k, d, hl, h, hi => by
    rw [posA] at h
    obtain ⟨n, hn, rfl⟩ := map_inv h
    obtain ⟨m2, h1, h2⟩ := putA_some (env := env) (show DisA r from d) (by simpa using hl) hn hi
    exact ⟨m2, h1, by rw [putA]; exact h2⟩
/-! ### a def's promise -/
abbrev Fn := List MV → List MV → Option (MV × List MV × List MV)
def spD (K : PySem.W.Frag) (fn : Fn) : Sp := fun vs H Q _ => ∃ g ms sto r ms' sto', g.H = H ∧ Sat K g (vs.map some) ⟨ms.map some, sto⟩ none ∧ fn ms sto = some (r, ms', sto') ∧ ms'.length = ms.length ∧
  ∀ v g', Sat K g' (vs.map some) ⟨ms'.map some, sto'⟩ (some (v, r)) → Ext g g' → Q v g'.H
def callF (fn : Fn) (as : List AV) (s : S) : Option (MV × S) := (takeA as s.env).bind fun t => (fn t.1 s.sto).bind fun r => if r.2.1.length = t.1.length then some (r.1, ⟨putA as r.2.1 t.2, r.2.2⟩) else none
theorem AvA.len {K : PySem.W.Frag} {js : List Addr} {F : Hp} {σ : L2.St} : ∀ {vs : List V} {as : List AV}, AvA K js F σ vs as → vs.length = as.length
  | _, _, .nil => rfl
  | _, _, .pv _ q => by simp [q.len]
  | _, _, .io _ q => by simp [q.len]
theorem AvA.get {K : PySem.W.Frag} {js : List Addr} {F : Hp} {σ : L2.St} : ∀ {vs : List V} {as : List AV} {k : Nat} {v : V}, AvA K js F σ vs as → vs[k]? = some v → (∃ p, as[k]? = some (.pv p) ∧ Rp K js F v p) ∨ ∃ i, as[k]? = some (.io i) ∧ σ[i]? = some (some v)
  | _, _, k, v, .nil, e => by simp at e
  | _, _, 0, v, .pv r _, e => by
    cases e
    exact Or.inl ⟨_, rfl, r⟩
  | _, _, k + 1, v, .pv _ q, e => q.get (k := k) e
  | _, _, 0, v, .io r _, e => by
    cases e
    exact Or.inr ⟨_, rfl, r⟩
  | _, _, k + 1, v, .io _ q, e => q.get (k := k) e
theorem call_core {K : PySem.W.Frag} {fn : Fn} {g1 : Gh} {σ : L2.St} {s1 s2 : S} {vs : List V} {as : List AV} {r : MV} {Q : VK} {E : XK} (h1 : Sat K g1 σ s1 none) (hv : AvA K g1.js g1.F σ vs as) (hf : callF fn as s1 = some (r, s2))
    (k : ∀ v g2, Sat K g2 σ s2 (some (v, r)) → Ext g1 g2 → Q v g2.H) : spD K fn vs g1.H Q E := by
  obtain ⟨t, ht, hf⟩ := bind_inv hf
  obtain ⟨ms, env'⟩ := t
  obtain ⟨rr, hr, hf⟩ := bind_inv hf
  obtain ⟨r0, ms', sto'⟩ := rr
  split at hf
  · rename_i hl
    cases hf
    obtain ⟨l1, l2⟩ := takeA_len ht
    have lv := hv.len
    have dis := takeA_dis ht
    let ρ : Ky → Option Ky := fun k => match k with
      | .L k => match as[k]? with
        | some (.io i) => some (.L i)
        | _ => none
      | .S j => some (.S j)
      | .R => none
    let ρ' : Ky → Option Ky := fun c => match c with
      | .L i => (posA as i).map .L
      | .S j => some (.S j)
      | .R => some .R
    let lent : Ky → Bool := fun c => match c with
      | .L i => (posA as i).isSome
      | .S _ => true
      | .R => false
    have ρL : ∀ k c, ρ (.L k) = some c → ∃ i, as[k]? = some (.io i) ∧ c = .L i := fun k c h => by
      have h : (match as[k]? with | some (.io i) => some (Ky.L i) | _ => none) = some c := h
      split at h
      · rename_i i hi
        cases h
        exact ⟨i, hi, rfl⟩
      · cases h
    have inj : ∀ k k' c, ρ k = some c → ρ k' = some c → k = k' := fun k k' c h h' => by
      cases k with
      | L k =>
        obtain ⟨i, hi, rfl⟩ := ρL k c h
        cases k' with
        | L k' =>
          obtain ⟨i', hi', e⟩ := ρL k' _ h'
          cases e
          have := (takeA_io ht hi).1
          rw [(takeA_io ht hi').1] at this
          cases this
          rfl
        | S j => cases h'
        | R => cases h'
      | S j =>
        cases h
        cases k' with
        | L k' =>
          obtain ⟨i', _, e⟩ := ρL k' _ h'
          cases e
        | S j' =>
          cases h'
          rfl
        | R => cases h'
      | R => cases h
    have sl := h1.o.lend inj
    refine ⟨g1.lend ρ, ms, s1.sto, r0, ms', sto', rfl, ⟨sl.vals fun k => ?_, by simp; omega, fun i m e => ?_, h1.jl⟩, hr, hl, fun v gc hc ec => ?_⟩
    · cases k with
      | S j => exact Or.inl rfl
      | R => exact Or.inl rfl
      | L k =>
        cases ha : as[k]? with
        | none =>
          refine Or.inl ?_
          have e1 : ms[k]? = none := by
            rw [List.getElem?_eq_none_iff] at ha ⊢
            omega
          show ownS g1.js (vs.map some) ⟨ms.map some, s1.sto⟩ none (.L k) = (ρ (.L k)).bind _
          have e2 : ρ (.L k) = none := by
            show (match as[k]? with | some (.io i) => some (Ky.L i) | _ => none) = none
            rw [ha]
          rw [e2]
          simp [ownS, e1]
        | some a =>
          have hk : k < as.length := lt_of_get ha
          have hvk : vs[k]? = some (vs[k]'(by omega)) := List.getElem?_eq_getElem (by omega)
          cases a with
          | pv p =>
            refine Or.inr ⟨?_, fun v m e => ?_⟩
            · show (match ρ (.L k) with | some c => g1.fp c | none => []) = []
              have e2 : ρ (.L k) = none := by
                show (match as[k]? with | some (.io i) => some (Ky.L i) | _ => none) = none
                rw [ha]
              rw [e2]
            · obtain ⟨e1, e2⟩ := ownS_L_inv e
              have e3 := takeA_pv ht ha
              simp [e3] at e1
              simp at e2
              subst e1
              rcases hv.get e2 with ⟨q, hq, rq⟩ | ⟨i, hi, _⟩
              · rw [ha] at hq
                cases hq
                exact ⟨_, rfl, rq⟩
              · rw [ha] at hi
                cases hi
          | io i =>
            refine Or.inl ?_
            obtain ⟨e1, m, e2, e3⟩ := takeA_io ht ha
            have e4 : ρ (.L k) = some (.L i) := by
              show (match as[k]? with | some (.io i) => some (Ky.L i) | _ => none) = _
              rw [ha]
            have e5 : σ[i]? = some (some (vs[k]'(by omega))) := by
              rcases hv.get hvk with ⟨q, hq, _⟩ | ⟨i', hi', hs⟩
              · rw [ha] at hq
                cases hq
              · rw [ha] at hi'
                cases hi'
                exact hs
            show _ = (ρ (.L k)).bind _
            rw [e4]
            show ownS g1.js (vs.map some) ⟨ms.map some, s1.sto⟩ none (.L k) = ownS g1.js σ s1 none (.L i)
            rw [ownS_L (v := vs[k]'(by omega)) (m := m) e2 e5]
            exact ownS_L (by simp [e3]) (by simp [hvk])
    · have e : (ms.map some)[i]? = some (some m) := e
      have hi : i < vs.length := by
        have := lt_of_get e
        rw [List.length_map] at this
        omega
      exact ⟨vs[i], by simp [hi]⟩
    · have hρl : ∀ k c, ρ k = some c → lent c = true := fun k c h => by
        cases k with
        | L k =>
          obtain ⟨i, hi, rfl⟩ := ρL k c h
          show (posA as i).isSome = true
          rw [(takeA_io ht hi).1]
          rfl
        | S j =>
          cases h
          rfl
        | R => cases h
      have hρ' : ∀ c k, ρ' c = some k → lent c = true ∨ ownS g1.js σ s1 none c = none := fun c k h => by
        cases c with
        | L i =>
          obtain ⟨n, hn, rfl⟩ := map_inv h
          refine Or.inl ?_
          show (posA as i).isSome = true
          rw [hn]
          rfl
        | S j => exact Or.inl rfl
        | R => exact Or.inr rfl
      have inj' : ∀ c c' k, ρ' c = some k → ρ' c' = some k → c = c' := fun c c' k h h' => by
        cases c with
        | L i =>
          obtain ⟨n, hn, rfl⟩ := map_inv h
          cases c' with
          | L i' =>
            obtain ⟨n', hn', e⟩ := map_inv h'
            cases e
            have e1 := posA_get hn
            rw [posA_get hn'] at e1
            cases e1
            rfl
          | S j => cases h'
          | R => cases h'
        | S j =>
          cases h
          cases c' with
          | L i' =>
            obtain ⟨n', _, e⟩ := map_inv h'
            cases e
          | S j' =>
            cases h'
            rfl
          | R => cases h'
        | R =>
          cases h
          cases c' with
          | L i' =>
            obtain ⟨n', _, e⟩ := map_inv h'
            cases e
          | S j' => cases h'
          | R => rfl
      obtain ⟨b1, b2⟩ := h1.o.back (lent := lent) (ρ' := ρ') ec hc.o hρl hρ' inj'
      refine k v (gc.back g1 lent ρ') ⟨b1.congr fun c => ?_, ?_, fun i m e => ?_, hc.jl⟩ b2
      · cases c with
        | R => rfl
        | S j => rfl
        | L i =>
          show ownS gc.js σ ⟨putA as ms' env', sto'⟩ (some (v, r0)) (.L i) = backO (ownS gc.js (vs.map some) ⟨ms'.map some, sto'⟩ (some (v, r0))) (ownS g1.js σ s1 none) lent ρ' (.L i)
          cases hp : posA as i with
          | none =>
            have e1 : ρ' (.L i) = none := by
              show (posA as i).map Ky.L = none
              rw [hp]
              rfl
            have e2 : lent (.L i) = false := by
              show (posA as i).isSome = false
              rw [hp]
              rfl
            unfold backO
            rw [e1]
            simp only [e2, Bool.false_eq_true, if_false]
            simp only [ownS]
            rw [putA_none hp, takeA_none ht hp]
          | some n =>
            have ha := posA_get hp
            have e1 : ρ' (.L i) = some (.L n) := by
              show (posA as i).map Ky.L = _
              rw [hp]
              rfl
            obtain ⟨_, m, e2, e3⟩ := takeA_io ht ha
            have hil : i < env'.length := by
              rw [l2]
              exact lt_of_get e2
            obtain ⟨m', e4, e5⟩ := putA_some (ms := ms') (env := env') dis (by have : ms'.length = ms.length := hl; omega) hp hil
            have hnl : n < vs.length := by
              rw [lv]
              exact lt_of_get ha
            have hvk : vs[n]? = some vs[n] := List.getElem?_eq_getElem hnl
            have e6 : σ[i]? = some (some vs[n]) := by
              rcases hv.get hvk with ⟨q, hq, _⟩ | ⟨i', hi', hs⟩
              · rw [ha] at hq
                cases hq
              · rw [ha] at hi'
                cases hi'
                exact hs
            unfold backO
            rw [e1]
            show _ = ownS gc.js (vs.map some) ⟨ms'.map some, sto'⟩ (some (v, r0)) (.L n)
            rw [ownS_L (v := vs[n]) (m := m') (show (⟨putA as ms' env', sto'⟩ : S).env[i]? = _ from e5) e6]
            exact (ownS_L (by simp [e4]) (by simp [hvk])).symm
      · show (putA as ms' env').length = σ.length
        rw [putA_len, l2, h1.len]
      · have e : (putA as ms' env')[i]? = some (some m) := e
        cases hp : posA as i with
        | none =>
          rw [putA_none hp, takeA_none ht hp] at e
          exact h1.has i m e
        | some n =>
          obtain ⟨_, m, e2, _⟩ := takeA_io ht (posA_get hp)
          exact h1.has i m e2
  · cases hf
end DD
/-! E9: defs, calls, methods, making of instances. -/
namespace DD
open PySem L2 GG PySem.Spec PyProof.Rows

/-! ### a def by its body -/
def heldM : Option (Option MV) → Option MV
  | some (some m) => some m
  | _ => none
def valM : MV → Option MV
  | .val p => some (.val p)
  | _ => none
theorem heldM_inv {x : Option (Option MV)} {m : MV} (h : heldM x = some m) : x = some (some m) := by
  unfold heldM at h
  split at h
  · cases h
    rfl
  · cases h
theorem valM_inv {x m : MV} (h : valM x = some m) : x = m ∧ ∃ p, m = .val p := by
  unfold valM at h
  split at h
  · cases h
    exact ⟨rfl, _, rfl⟩
  · cases h
def finM (io : List Nat) (env : List (Option MV)) : Nat → List MV → Option (List MV)
  | _, [] => some []
  | i, m :: ms => (if i ∈ io then heldM env[i]? else valM m).bind fun a => (finM io env (i + 1) ms).map fun r => a :: r
def runF (n N : Nat) (io : List Nat) (body : SF) : Fn := fun ms sto => if ms.length = n then (body ⟨ms.map some ++ List.replicate (N - n) none, sto⟩).bind fun o => match o with
    | .rt r s' => (finM io s'.env 0 ms).map fun ms' => (r, ms', s'.sto)
    | .nx s' => (finM io s'.env 0 ms).map fun ms' => (.val .non, ms', s'.sto)
    | _ => none
  else none
theorem finM_get {io : List Nat} {env : List (Option MV)} : ∀ {ms ms' : List MV} {j : Nat}, finM io env j ms = some ms' → ms'.length = ms.length ∧ ∀ i m', ms'[i]? = some m' →
    (j + i ∈ io ∧ env[j + i]? = some (some m')) ∨ (j + i ∉ io ∧ ms[i]? = some m' ∧ ∃ p, m' = .val p)
  | [], ms', j, h => by
    cases h
    exact ⟨rfl, fun i m' e => by simp at e⟩
  | m :: ms, ms', j, h => by
    rw [finM] at h
    obtain ⟨a, ha, h⟩ := bind_inv h
    obtain ⟨r, hr, rfl⟩ := map_inv h
    obtain ⟨h1, h2⟩ := finM_get hr
    refine ⟨by simp [h1], fun i m' e => ?_⟩
    cases i with
    | zero =>
      cases e
      split at ha
      · rename_i hj
        exact Or.inl ⟨hj, heldM_inv ha⟩
      · rename_i hj
        obtain ⟨rfl, q⟩ := valM_inv ha
        exact Or.inr ⟨hj, rfl, q⟩
    | succ i =>
      have q := h2 i m' e
      have e1 : j + 1 + i = j + (i + 1) := by omega
      rw [e1] at q
      exact q
section
variable {K : PySem.W.Frag}
theorem Sat.start {g : Gh} {vs : List V} {ms sto : List MV} {N : List Str} {n : Nat} (h : Sat K g (vs.map some) ⟨ms.map some, sto⟩ none) (hl : ms.length = n) : Sat K g (L2.start N vs) ⟨ms.map some ++ List.replicate (N.length - n) none, sto⟩ none := by
  have lv : ms.length = vs.length := by
    have := h.len
    simpa using this
  refine ⟨h.o.congr fun k => ?_, ?_, fun i m e => ?_, h.jl⟩
  · cases k with
    | S j => rfl
    | R => rfl
    | L i =>
      by_cases hi : i < ms.length
      · have e1 : (ms.map some ++ List.replicate (N.length - n) none)[i]? = (ms.map some)[i]? := List.getElem?_append_left (by simpa using hi)
        have e2 : (L2.start N vs)[i]? = (vs.map some)[i]? := List.getElem?_append_left (by simp; omega)
        simp only [ownS, e1, e2]
      · have e1 : ∀ m, (ms.map some ++ List.replicate (N.length - n) none)[i]? ≠ some (some m) := fun m e => by
          rw [List.getElem?_append_right (by simp; omega)] at e
          have := List.mem_of_getElem? e
          simp at this
        have e2 : (ms.map some)[i]? = none := List.getElem?_eq_none (by simp; omega)
        have e3 : ownS g.js (L2.start N vs) ⟨ms.map some ++ List.replicate (N.length - n) none, sto⟩ none (.L i) = none := by
          cases q : ownS g.js (L2.start N vs) ⟨ms.map some ++ List.replicate (N.length - n) none, sto⟩ none (.L i) with
          | none => rfl
          | some x => exact absurd (ownS_L_inv q).1 (e1 x.2)
        rw [e3]
        simp only [ownS, e2]
  · simp [L2.start]
    omega
  · have e : (ms.map some ++ List.replicate (N.length - n) none)[i]? = some (some m) := e
    by_cases hi : i < ms.length
    · exact ⟨vs[i]'(by omega), by
        have : (L2.start N vs)[i]? = (vs.map some)[i]? := List.getElem?_append_left (by simp; omega)
        rw [this]
        simp [show i < vs.length by omega]⟩
    · rw [List.getElem?_append_right (by simp; omega)] at e
      have := List.mem_of_getElem? e
      simp at this
theorem Sat.finish {g g' : Gh} {vs : List V} {ms ms' sto : List MV} {N : List Str} {io : List Nat} {σ' : L2.St} {s' : S} {v : V} {r : MV} (h : Sat K g (vs.map some) ⟨ms.map some, sto⟩ none) (h' : Sat K g' σ' s' (some (v, r))) (e : Ext g g')
    (p : Pin io (L2.start N vs) σ') (hf : finM io s'.env 0 ms = some ms') : ∃ g2, g2.H = g'.H ∧ Sat K g2 (vs.map some) ⟨ms'.map some, s'.sto⟩ (some (v, r)) ∧ Ext g g2 := by
  have lv : ms.length = vs.length := by
    have := h.len
    simpa using this
  obtain ⟨hl, hg⟩ := finM_get hf
  let fp' : Ky → List Addr := fun k => match k with
    | .L i => if i ∈ io ∧ i < ms.length then g'.fp (.L i) else []
    | k => g'.fp k
  let own' : Own := fun k => match k with
    | .L i => if i ∈ io ∧ i < ms.length then ownS g'.js σ' s' (some (v, r)) (.L i) else none
    | k => ownS g'.js σ' s' (some (v, r)) k
  have s1 : SatO K { g' with fp := fp' } own' := h'.o.less (fun k v m hk => by
    cases k with
    | L i =>
      have hk : (if i ∈ io ∧ i < ms.length then ownS g'.js σ' s' (some (_, r)) (.L i) else none) = some (v, m) := hk
      split at hk
      · rename_i hc
        exact ⟨hk, if_pos hc⟩
      · cases hk
    | S j => exact ⟨hk, rfl⟩
    | R => exact ⟨hk, rfl⟩) fun k hk => by
    cases k with
    | L i =>
      show (if i ∈ io ∧ i < ms.length then g'.fp (.L i) else []) = []
      have hk : (if i ∈ io ∧ i < ms.length then ownS g'.js σ' s' (some (v, r)) (.L i) else none) = none := hk
      by_cases hc : i ∈ io ∧ i < ms.length
      · rw [if_pos hc] at hk ⊢
        exact h'.o.emp _ hk
      · rw [if_neg hc]
    | S j => exact h'.o.emp _ hk
    | R => exact h'.o.emp _ hk
  refine ⟨{ g' with fp := fp' }, rfl, ⟨s1.vals fun k => ?_, by simp; omega, fun i m hi => ?_, h'.jl⟩, e.trans (Ext.fps fun k a ha => ?_)⟩
  · cases k with
    | S j => exact Or.inl rfl
    | R => exact Or.inl rfl
    | L i =>
      by_cases hc : i ∈ io ∧ i < ms.length
      · refine Or.inl ?_
        have hil : i < ms'.length := by omega
        have hm : ms'[i]? = some ms'[i] := List.getElem?_eq_getElem hil
        have q := hg i _ hm
        rw [Nat.zero_add] at q
        rcases q with ⟨_, q⟩ | ⟨q, _⟩
        · have e2 : (L2.start N vs)[i]? = (vs.map some)[i]? := List.getElem?_append_left (by simp; omega)
          have e3 : σ'[i]? = some (some (vs[i]'(by omega))) := by
            rw [p i hc.1, e2]
            simp [show i < vs.length by omega]
          show ownS g'.js (vs.map some) ⟨ms'.map some, s'.sto⟩ (some (v, r)) (.L i) = (if i ∈ io ∧ i < ms.length then ownS g'.js σ' s' (some (v, r)) (.L i) else none)
          rw [if_pos hc, ownS_L q e3]
          exact ownS_L (by simp [hil]) (by simp [show i < vs.length by omega])
        · exact absurd hc.1 q
      · refine Or.inr ⟨if_neg hc, fun u m hu => ?_⟩
        obtain ⟨e1, e2⟩ := ownS_L_inv hu
        have e1 : (ms'.map some)[i]? = some (some m) := e1
        rw [List.getElem?_map] at e1
        obtain ⟨m2, hm2, e1⟩ := map_inv e1
        cases e1
        have q := hg i m hm2
        rw [Nat.zero_add] at q
        rcases q with ⟨q1, q2⟩ | ⟨_, q1, p, rfl⟩
        · exact absurd ⟨q1, by have := lt_of_get hm2; omega⟩ hc
        · obtain ⟨v2, hv2, rp⟩ := h.val (i := i) (p := p) (by simp [q1])
          rw [e2] at hv2
          cases hv2
          exact ⟨p, rfl, (rp.ext e : Rp K g'.js g'.F u p)⟩
  · have hi : (ms'.map some)[i]? = some (some m) := hi
    have : i < ms'.length := by
      have := lt_of_get hi
      simpa using this
    exact ⟨vs[i]'(by omega), by simp [show i < vs.length by omega]⟩
  · cases k with
    | L i =>
      have ha : a ∈ (if i ∈ io ∧ i < ms.length then g'.fp (.L i) else []) := ha
      split at ha
      · exact ⟨_, ha⟩
      · simp at ha
    | S j => exact ⟨_, ha⟩
    | R => exact ⟨_, ha⟩
end
abbrev FnRG (P : Program) (w : World) (K : PySem.W.Frag) (mg : Str → Option Value) (base : Heap) (k : Nat) (f : Addr) (sp : Sp) : Prop :=
  ∀ (A : Around) (outer : List Env) (s : Shared) (H : Hp) (us : List Value) (vs : List V) (Q : VK) (E : XK), Room k A → NoG A → Env0 P w K mg base A outer s H → Vals vs us → sp vs H Q E →
    codeAny (model P w) A (.call (.ref f) ⟨us, []⟩) (CR CX0 outer P w H s Q E) s
/-- a def's promise, by what it computes: at each level of room -/
abbrev DFn (P : Program) (w : World) (K : PySem.W.Frag) (mg : Str → Option Value) (base : Heap) (k : Nat) (f : Addr) (fd : FuncData) (ps : List Str) (fn : Fn) : Prop := FnG P w K mg base CX0 k f fd ps (spD K fn)
section
variable {P : Program} {w : World} {K : PySem.W.Frag} {mg : Str → Option Value} {base : Heap} {x qual : Str} {st : Stmt} {f : Addr} {fd : FuncData} {N ps : List Str} {k : Nat} {io : List Nat} {fb : SF}
theorem body_spec {X : Cx} {stmts : List Stmt} {vs : List V} {H : Hp} {Q : VK} {E : XK} (hX : X.N = N) (hb : DSs X io stmts fb) {n : Nat} (hsp : spD X.K (runF n N.length io fb) vs H Q E) :
    ∃ t, PSs X stmts t ∧ t { nx := fun _ H' => Q .non H', rt := Q } (L2.start N vs) H := by
  obtain ⟨g, ms, sto, r, ms', sto', rfl, hs, hf, hl, k⟩ := hsp
  unfold runF at hf
  split at hf
  · rename_i hn
    obtain ⟨o, ho, hf⟩ := bind_inv hf
    refine ⟨_, hb, g, _, o, rfl, hs.start hn, ho, ?_⟩
    cases o with
    | rt r0 s' =>
      obtain ⟨ms2, hm, hf⟩ := map_inv hf
      cases hf
      intro v σ' g' h' e p
      obtain ⟨g2, h1, h2, h3⟩ := hs.finish h' e p hm
      show Q v g'.H
      rw [← h1]
      exact k v g2 h2 h3
    | nx s' =>
      obtain ⟨ms2, hm, hf⟩ := map_inv hf
      cases hf
      intro σ' g' h' e p
      obtain ⟨g2, h1, h2, h3⟩ := hs.finish (h'.regVal (v := .non) (p := .non) .non) e p hm
      show Q .non g'.H
      rw [← h1]
      exact k .non g2 h2 h3
    | bk s' => cases hf
    | ct s' => cases hf
  · cases hf
theorem spD_size {n NN : Nat} {fb : SF} {vs : List V} {H : Hp} {Q : VK} {E : XK} (h : spD K (runF n NN io fb) vs H Q E) : vs.length = n := by
  obtain ⟨g, ms, sto, r, ms', sto', _, hs, hf, _⟩ := h
  unfold runF at hf
  split at hf
  · rename_i hn
    have := hs.len
    simp at this
    omega
  · cases hf
theorem fn_den (F : Fun K x qual st f fd) (Sc : FnScope N ps (defScope st))
    (hb : ∀ (cdv : Value) (A : Around) (out : List Env) (s : Shared) (H : Hp) (E : XK), NoG A → Room k (A.deeper (envOfC qual (defScope st) s.heap.objs.size f cdv)) →
      DSs (cxOf CX0 P w K mg base N qual (defScope st) f cdv A out s H E).nox io (defBody st) fb) : DFn P w K mg base (k + 1) f fd ps (runF ps.length N.length io fb) :=
  FnG.ofFun F Sc (fun vs H Q E h => spD_size h) fun cdv A out s H vs Q E hg hr h => body_spec rfl (hb cdv A out s H E hg hr) h
theorem FnG.raw {ps : List Str} {ds : List Value} {dvs : List V} {sp : Sp} (F : FnG P w K mg base CX0 k f fd ps sp) (hb : Binds K fd ps ds) (hd : Vals dvs ds) : FnRG P w K mg base k f (fun vs H Q E => sp (vs ++ dvs) H Q E) :=
  fun A outer s H us vs Q E hr hg e0 r h => by
    have KX : K.In s.heap := e0.mod.kin.keeps fun b o q => (e0.bs b o q).1
    have r2 := Vals.append r hd
    have hl : (us ++ ds).length = ps.length := by
      rw [← r2.length]
      exact F.size _ _ _ _ h
    exact F.go A outer s H ⟨us, []⟩ (us ++ ds) (vs ++ dvs) Q E hr hg e0 (hb s us KX hl) r2 h
theorem DFn.raw {fn : Fn} (F : DFn P w K mg base k f fd ps fn) (hb : Binds K fd ps []) : FnRG P w K mg base k f (spD K fn) := fun A outer s H us vs Q E hr hg e0 r h =>
  FnG.raw F hb .nil A outer s H us vs Q E hr hg e0 r (by show spD K fn (vs ++ []) H Q E; rw [List.append_nil]; exact h)
end

/-! ### the calls -/
section
variable {X : Cx} {k : Nat} {f C : Addr} {sp : Sp} {x m : Str} {p pos apos : Pos} {e o : Expr} {es : List Expr} {ta : TE} {t : TA} {pins : List (Addr × Obj)} {σ : L2.St} {H : Hp} {s : Shared} {Q : VK} {us : List Value} {vs : List V} {E : XK}
theorem run_rg (F : FnRG X.prog X.w X.K X.mg X.base k f sp) (hr : Room k X.A) (hg : NoG X.A) (I : Inv X pins σ H s) (r : Vals vs us) (h : sp vs H Q E) :
    wpAny (model X.prog X.w) X.A (call (.ref f) us) (EP X pins σ Q) X.xe s := by
  refine wpAny_call (codeAny_mono (F X.A X.stack s H us vs Q E hr hg I.env0 r h) fun r s' hq => ?_)
  cases r with
  | error e => exact (show False from hq).elim
  | ok fl =>
    cases fl with
    | ret u => exact Inv.after I hq
    | next => exact hq.elim
    | brk => exact hq.elim
    | cont => exact hq.elim
def tCallR (sp : Sp) (t : TA) : TE := fun σ H Q => t σ H fun vs H1 => sp vs H1 Q (fun _ _ _ => False)
theorem pe_callRG (F : FnRG X.prog X.w X.K X.mg X.base k f sp) (hr : Room k X.A) (hg : NoG X.A) (gl : Gl X x) (hm : X.mg x = some (.ref f)) (hk : PySem.W.keepIn X.K (.ref f) = true) (ha : PA X (e :: es) t)
    (hdb : (x == ("__debug__" : Str)) = false := by decide) (he : starEach (e :: es) X.env = (false, eval e X.env) :: starEach es X.env := by rfl) (hpl : (backTo pos (starEach es X.env)).any (·.1) = false := by rfl) :
    PE X (.Call (.Name x p) (e :: es) [] pos) (tCallR sp t) := by
  refine ⟨fun pins s σ H Q I h => ?_⟩
  refine wpAny_Call_Name_kw (ld_glob I gl hm ?_ hdb)
  refine PySem.W.callWith_K (h₀ := X.base) I.ok.mod.kin hk (thn (ha.run pos pins s σ H _ I h) fun us s1 ⟨vs, H1, I1, r, q⟩ => ⟨I1.kIn, ?_⟩) he hpl
  exact run_rg F hr hg I1 r q
theorem pe_callRG0 (F : FnRG X.prog X.w X.K X.mg X.base k f sp) (hr : Room k X.A) (hg : NoG X.A) (gl : Gl X x) (hm : X.mg x = some (.ref f)) (hk : PySem.W.keepIn X.K (.ref f) = true)
    (hdb : (x == ("__debug__" : Str)) = false := by decide) : PE X (.Call (.Name x p) [] [] pos) (tCallR sp tNil) := by
  refine ⟨fun pins s σ H Q I h => ?_⟩
  refine wpAny_Call_Name_kw (ld_glob I gl hm ?_ hdb)
  exact PySem.W.callWith_K0 I.kIn hk (run_rg (us := []) F hr hg I .nil h)
def tMethG (C : Addr) (m : Str) (sp : Sp) (ta : TE) (t : TA) : TE := fun σ H Q => ta σ H fun x H1 => ∃ a dx fs, x = .ref a ∧ H1 a = some (.ins C dx fs) ∧ fs.lookup m = none ∧ t σ H1 fun vs H2 => sp (x :: vs) H2 Q (fun _ _ _ => False)
theorem pe_methG {pl : Sem Bool} (he : PE X o ta) (c : Cls X.K C) (hm : Meth X.K C m f) (F : FnRG X.prog X.w X.K X.mg X.base k f sp) (hr : Room k X.A) (hg : NoG X.A) (ha : PA X (e :: es) t)
    (hst : starEach (e :: es) X.env = (false, eval e X.env) :: starEach es X.env := by rfl) (hpl : (backTo pos (starEach es X.env)).any (·.1) = false := by rfl)
    (ht : eval (.Call (.Attribute o m apos) (e :: es) [] pos) X.env = (do
      let ov ← eval o X.env
      standAt apos.atName
      let (f, first) ← holding [ov] (getMethod ov m pl)
      callWith pos f first (backTo pos (starEach (e :: es) X.env)) (backToKw pos (keywordEach [] X.env))) := by rfl) :
    PE X (.Call (.Attribute o m apos) (e :: es) [] pos) (tMethG C m sp ta t) := by
  refine ⟨fun pins s σ H Q I h => ?_⟩
  refine PySem.W.methodCall_KW (pl := pl) (thn (he.run pins s σ H _ I h) fun u s1 ⟨x, H1, I1, rx, a, dx, fs, ex, ea, l, q⟩ => ?_) ht
  subst ex
  obtain rfl : u = Value.ref a := rx
  refine getmeth_ok I1 ea c hm l ?_
  refine PySem.W.callWith_K (first := [.ref a]) (h₀ := X.base) I.ok.mod.kin hm.kp (thn (ha.run pos pins s1 σ H1 _ I1 q) fun us s2 ⟨vs, H2, I2, r, q2⟩ => ⟨I2.kIn, ?_⟩) hst hpl
  exact run_rg (us := .ref a :: us) (vs := .ref a :: vs) F hr hg I2 (.cons rfl r) q2
theorem pe_methG0 {pl : Sem Bool} (he : PE X o ta) (c : Cls X.K C) (hm : Meth X.K C m f) (F : FnRG X.prog X.w X.K X.mg X.base k f sp) (hr : Room k X.A) (hg : NoG X.A)
    (ht : eval (.Call (.Attribute o m apos) [] [] pos) X.env = (do
      let ov ← eval o X.env
      standAt apos.atName
      let (f, first) ← holding [ov] (getMethod ov m pl)
      callWith pos f first (backTo pos (starEach [] X.env)) (backToKw pos (keywordEach [] X.env))) := by rfl) :
    PE X (.Call (.Attribute o m apos) [] [] pos) (tMethG C m sp ta tNil) := by
  refine ⟨fun pins s σ H Q I h => ?_⟩
  refine PySem.W.methodCall_KW (pl := pl) (thn (he.run pins s σ H _ I h) fun u s1 ⟨x, H1, I1, rx, a, dx, fs, ex, ea, l, q⟩ => ?_) ht
  subst ex
  obtain rfl : u = Value.ref a := rx
  refine getmeth_ok I1 ea c hm l ?_
  exact PySem.W.callWith_K0 (first := [.ref a]) I1.kIn hm.kp (run_rg (us := [.ref a]) (vs := [.ref a]) F hr hg I1 (.cons rfl .nil) q)
end
section
variable {X : Cx} {k : Nat} {f C : Addr} {x m : Str} {p pos apos : Pos} {e o : Expr} {es : List Expr} {fa : AFn} {fr : DF} {fn : Fn}
def mFn (fn : Fn) (fa : AFn) : OF := fun s => (fa s).bind fun a => callF fn a.1 a.2
theorem tFn_of {K : PySem.W.Frag} {t : TA} (ht : ∀ σ H Q, tA K fa σ H Q → t σ H Q) : ∀ σ H Q, tO K (mFn fn fa) σ H Q → tCallR (spD K fn) t σ H Q := by
  rintro σ H Q ⟨g, s, r, s', rfl, hs, hf, k⟩
  obtain ⟨a, ha, hf⟩ := bind_inv hf
  exact ht _ _ _ ⟨g, s, a.1, a.2, rfl, hs, ha, fun vs g1 h1 e1 r1 => call_core h1 r1 hf fun v g2 h2 e2 => k v g2 h2 (e1.trans e2)⟩
theorem tA_nil {K : PySem.W.Frag} : ∀ σ H Q, tA K aNil σ H Q → tNil σ H Q := by
  rintro σ H Q ⟨g, s, as, s', rfl, hs, hf, k⟩
  cases hf
  exact k [] g hs (Ext.refl g) .nil
theorem do_call (F : FnRG X.prog X.w X.K X.mg X.base k f (spD X.K fn)) (hr : Room k X.A) (hg : NoG X.A) (gl : Gl X x) (hm : X.mg x = some (.ref f)) (hk : PySem.W.keepIn X.K (.ref f) = true) (ha : DA X (e :: es) fa)
    (hdb : (x == ("__debug__" : Str)) = false := by decide) (he : starEach (e :: es) X.env = (false, eval e X.env) :: starEach es X.env := by rfl) (hpl : (backTo pos (starEach es X.env)).any (·.1) = false := by rfl) :
    DO X (.Call (.Name x p) (e :: es) [] pos) (mFn fn fa) := PE.imp (pe_callRG F hr hg gl hm hk ha hdb he hpl) (tFn_of fun _ _ _ h => h)
theorem do_call0 (F : FnRG X.prog X.w X.K X.mg X.base k f (spD X.K fn)) (hr : Room k X.A) (hg : NoG X.A) (gl : Gl X x) (hm : X.mg x = some (.ref f)) (hk : PySem.W.keepIn X.K (.ref f) = true)
    (hdb : (x == ("__debug__" : Str)) = false := by decide) : DO X (.Call (.Name x p) [] [] pos) (mFn fn aNil) := PE.imp (pe_callRG0 F hr hg gl hm hk hdb) (tFn_of tA_nil)
/-- the receiver is of the class, its attributes are not of that name -/
def okObj (C : Addr) (m : Str) : PV → Bool
  | .obj D fs _ => decide (D = C) && !fs.contains m
  | _ => false
theorem okObj_inv {C : Addr} {m : Str} {p : PV} (h : okObj C m p = true) : ∃ fs ps, p = .obj C fs ps ∧ (!fs.contains m) = true := by
  unfold okObj at h
  split at h
  · rw [Bool.and_eq_true] at h
    obtain rfl := of_decide_eq_true h.1
    exact ⟨_, _, rfl, h.2⟩
  · cases h
def mMt (C : Addr) (m : Str) (fn : Fn) (fr : DF) (fa : AFn) : OF := fun s => (fr s).bind fun o => if okObj C m o.1 = true then (fa o.2).bind fun a => callF fn (.pv o.1 :: a.1) a.2 else none
theorem noAttr {C : Addr} {m : Str} {fs : List (Str × V)} (h : !(fs.map (·.1)).contains m) : fs.lookup m = none := by
  induction fs with
  | nil => rfl
  | cons a fs ih =>
    obtain ⟨n, v⟩ := a
    rw [List.lookup_cons]
    simp only [List.map_cons, List.contains_cons, Bool.not_or, Bool.and_eq_true] at h
    have h1 : (m == n) = false := by simpa using h.1
    rw [h1]
    exact ih h.2
theorem tMt_of {K : PySem.W.Frag} {t : TA} (ht : ∀ σ H Q, tA K fa σ H Q → t σ H Q) : ∀ σ H Q, tO K (mMt C m fn fr fa) σ H Q → tMethG C m (spD K fn) (tD K fr) t σ H Q := by
  rintro σ H Q ⟨g, s, r, s', rfl, hs, hf, k⟩
  obtain ⟨o, ho, hf⟩ := bind_inv hf
  obtain ⟨q, s1⟩ := o
  split at hf
  · rename_i hok
    obtain ⟨a, ha, hf⟩ := bind_inv hf
    refine ⟨g, s, q, s1, rfl, hs, ho, fun v g1 h1 e1 r1 => ?_⟩
    obtain ⟨fs, ps, rfl, hm⟩ := okObj_inv hok
    have r1' := r1
    obtain ⟨b, dx, vs0, rfl, b1, rfl, b2⟩ := r1.pk.obj h1
    refine ⟨b, dx, vs0, rfl, b1, noAttr (C := C) hm, ht _ _ _ ⟨g1, s1, a.1, a.2, rfl, h1, ha, fun vs g2 h2 e2 r2 => ?_⟩⟩
    exact call_core h2 (.pv (r1'.ext e2) r2) hf fun v g3 h3 e3 => k v g3 h3 ((e1.trans e2).trans e3)
  · cases hf
theorem do_meth {pl : Sem Bool} (he : DE X o fr) (c : Cls X.K C) (hm : Meth X.K C m f) (F : FnRG X.prog X.w X.K X.mg X.base k f (spD X.K fn)) (hr : Room k X.A) (hg : NoG X.A) (ha : DA X (e :: es) fa)
    (hst : starEach (e :: es) X.env = (false, eval e X.env) :: starEach es X.env := by rfl) (hpl : (backTo pos (starEach es X.env)).any (·.1) = false := by rfl)
    (ht : eval (.Call (.Attribute o m apos) (e :: es) [] pos) X.env = (do
      let ov ← eval o X.env
      standAt apos.atName
      let (f, first) ← holding [ov] (getMethod ov m pl)
      callWith pos f first (backTo pos (starEach (e :: es) X.env)) (backToKw pos (keywordEach [] X.env))) := by rfl) :
    DO X (.Call (.Attribute o m apos) (e :: es) [] pos) (mMt C m fn fr fa) := PE.imp (pe_methG he c hm F hr hg ha hst hpl ht) (tMt_of fun _ _ _ h => h)
theorem do_meth0 {pl : Sem Bool} (he : DE X o fr) (c : Cls X.K C) (hm : Meth X.K C m f) (F : FnRG X.prog X.w X.K X.mg X.base k f (spD X.K fn)) (hr : Room k X.A) (hg : NoG X.A)
    (ht : eval (.Call (.Attribute o m apos) [] [] pos) X.env = (do
      let ov ← eval o X.env
      standAt apos.atName
      let (f, first) ← holding [ov] (getMethod ov m pl)
      callWith pos f first (backTo pos (starEach [] X.env)) (backToKw pos (keywordEach [] X.env))) := by rfl) :
    DO X (.Call (.Attribute o m apos) [] [] pos) (mMt C m fn fr aNil) := PE.imp (pe_methG0 he c hm F hr hg ht) (tMt_of tA_nil)
end
/-! ### keywords -/
section
variable {X : Cx} {kws : List Keyword} {e : Expr} {f : DF} {r : AFn} {nm : Option Str} {kpos : Pos}
theorem PK.imp {X : Cx} {es : List Keyword} {t t' : TA} (h : PK X es t) (i : ∀ σ H Q, t' σ H Q → t σ H Q) : PK X es t' := ⟨fun pos pins s σ H Q I q => h.run pos pins s σ H Q I (i σ H Q q)⟩
abbrev DK (X : Cx) (es : List Keyword) (f : AFn) : Prop := PK X es (tA X.K f)
theorem dk_nil : DK X [] aNil := PK.imp pk_nil tA_nil
theorem dk_cons (ha : DE X e f) (hr : DK X kws r) : DK X (⟨nm, e, kpos⟩ :: kws) (aV f r) := by
  refine PK.imp (pk_cons ha hr) ?_
  rintro σ H Q ⟨g, s, as, s', rfl, hs, hf, k⟩
  obtain ⟨a, ha, hf⟩ := bind_inv hf
  obtain ⟨b, hb, hf⟩ := map_inv hf
  cases hf
  refine ⟨g, s, a.1, a.2, rfl, hs, ha, fun v g1 s1 e1 r1 => ⟨g1, a.2, b.1, b.2, rfl, s1, hb, fun vs g2 s2 e2 r2 => ?_⟩⟩
  exact k (v :: vs) g2 s2 (e1.trans e2) (.pv (r1.ext e2) r2)
theorem dk_io {x : Str} {pos : Pos} {i : Nat} (hN : X.N[i]? = some x) (hv : Vis X.env.scope x) (hr : DK X kws r) (hd : (x == ("__debug__" : Str)) = false := by decide) (hcd : (x == ("__classdict__" : Str)) = false := by decide) : DK X (⟨nm, .Name x pos, kpos⟩ :: kws) (aIo i r) := by
  refine PK.imp (pk_cons (pe_var hN hv hd hcd) hr) ?_
  rintro σ H Q ⟨g, s, as, s', rfl, hs, hf, k⟩
  unfold aIo at hf
  split at hf
  · rename_i m hm
    obtain ⟨b, hb, hf⟩ := map_inv hf
    cases hf
    obtain ⟨v, hv, _⟩ := hs.loc hm
    exact ⟨v, hv, g, s, b.1, b.2, rfl, hs, hb, fun vs g2 s2 e2 r2 => k (v :: vs) g2 s2 e2 (.io hv r2)⟩
  · cases hf
end
theorem AvA.append {K : PySem.W.Frag} {js : List Addr} {F : Hp} {σ : L2.St} : ∀ {vs us : List V} {as bs : List AV}, AvA K js F σ vs as → AvA K js F σ us bs → AvA K js F σ (vs ++ us) (as ++ bs)
  | _, _, _, _, .nil, h => h
  | _, _, _, _, .pv r q, h => .pv r (q.append h)
  | _, _, _, _, .io r q, h => .io r (q.append h)
theorem AvA.ext {K : PySem.W.Frag} {g g' : Gh} {σ : L2.St} (e : Ext g g') : ∀ {vs : List V} {as : List AV}, AvA K g.js g.F σ vs as → AvA K g'.js g'.F σ vs as
  | _, _, .nil => .nil
  | _, _, .pv r q => .pv (r.ext e) (AvA.ext e q)
  | _, _, .io r q => .io r (AvA.ext e q)
theorem AvA.pick {K : PySem.W.Frag} {js : List Addr} {F : Hp} {σ : L2.St} {vs : List V} {as : List AV} (h : AvA K js F σ vs as) : ∀ ix : List Nat, AvA K js F σ (ix.filterMap fun i => vs[i]?) (ix.filterMap fun i => as[i]?)
  | [] => .nil
  | i :: ix => by
    rw [List.filterMap_cons, List.filterMap_cons]
    cases e : vs[i]? with
    | none =>
      have e2 : as[i]? = none := by
        rw [List.getElem?_eq_none_iff] at e ⊢
        rw [← h.len]
        exact e
      rw [e2]
      exact AvA.pick h ix
    | some v =>
      rcases h.get e with ⟨p, e2, r⟩ | ⟨j, e2, r⟩
      · rw [e2]
        exact .pv r (AvA.pick h ix)
      · rw [e2]
        exact .io r (AvA.pick h ix)
section
variable {X : Cx} {k n : Nat} {f : Addr} {fd : FuncData} {ps ks : List Str} {x : Str} {p pos : Pos} {e : Expr} {es : List Expr} {kws : List Keyword} {fa fk : AFn} {fn : Fn} {ix : List Nat}
theorem run_gN {pins : List (Addr × Obj)} {σ : L2.St} {H : Hp} {s : Shared} {Q : VK} {us ws : List Value} {vs zs : List V} (F : DFn X.prog X.w X.K X.mg X.base k f fd ps fn) (hr : Room k X.A) (hg : NoG X.A) (hb : KBn X.K fd ps n ks (pickG ix) (pickG ix))
    (I : Inv X pins σ H s) (r : Vals vs us) (rz : Vals zs ws) (l1 : vs.length = n) (l2 : zs.length = ks.length) (h : spD X.K fn (pickG ix vs zs) H Q (fun _ _ _ => False)) : wpAny (model X.prog X.w) X.A (call (.ref f) us (ks.zip ws)) (EP X pins σ Q) X.xe s := by
  have r2 := hb.rel r rz
  refine wpAny_call (codeAny_mono (F.go X.A X.stack s H ⟨us, ks.zip ws⟩ (pickG ix us ws) (pickG ix vs zs) Q (fun _ _ _ => False) hr hg I.env0 (hb.to s us ws I.kIn (r.length.symm.trans l1) (rz.length.symm.trans l2)) r2 h) fun r s' hq => ?_)
  cases r with
  | error e => exact (show False from hq).elim
  | ok fl =>
    cases fl with
    | ret u => exact Inv.after I hq
    | next => exact hq.elim
    | brk => exact hq.elim
    | cont => exact hq.elim
/-- f(.., k = ..): positional ones, then keywords, each in the parameter's place -/
def mFnK (fn : Fn) (n m : Nat) (ix : List Nat) (fa fk : AFn) : OF := fun s => (fa s).bind fun a => (fk a.2).bind fun b => if a.1.length = n ∧ b.1.length = m then callF fn (ix.filterMap fun i => (a.1 ++ b.1)[i]?) b.2 else none
def tCallNG (n m : Nat) (ix : List Nat) (sp : Sp) (t tk : TA) : TE := fun σ H Q => t σ H fun vs H1 => tk σ H1 fun zs H2 => vs.length = n ∧ zs.length = m ∧ sp (pickG ix vs zs) H2 Q (fun _ _ _ => False)
theorem tFnK_of {K : PySem.W.Frag} {m : Nat} {t tk : TA} (ht : ∀ σ H Q, tA K fa σ H Q → t σ H Q) (htk : ∀ σ H Q, tA K fk σ H Q → tk σ H Q) : ∀ σ H Q, tO K (mFnK fn n m ix fa fk) σ H Q → tCallNG n m ix (spD K fn) t tk σ H Q := by
  rintro σ H Q ⟨g, s, r, s', rfl, hs, hf, k⟩
  obtain ⟨a, ha, hf⟩ := bind_inv hf
  obtain ⟨b, hb, hf⟩ := bind_inv hf
  split at hf
  · rename_i hl
    refine ht _ _ _ ⟨g, s, a.1, a.2, rfl, hs, ha, fun vs g1 h1 e1 r1 => htk _ _ _ ⟨g1, a.2, b.1, b.2, rfl, h1, hb, fun zs g2 h2 e2 r2 => ⟨r1.len.trans hl.1, r2.len.trans hl.2, ?_⟩⟩⟩
    have r3 := ((r1.ext e2).append r2).pick ix
    exact call_core h2 r3 hf fun v g3 h3 e3 => k v g3 h3 ((e1.trans e2).trans e3)
  · cases hf
theorem do_callN (F : DFn X.prog X.w X.K X.mg X.base k f fd ps fn) (hr : Room k X.A) (hg : NoG X.A) (gl : Gl X x) (hm : X.mg x = some (.ref f))
    (hk : PySem.W.keepIn X.K (.ref f) = true) (hb : KBn X.K fd ps n ks (pickG ix) (pickG ix)) (ha : DA X (e :: es) fa) (hkw : DK X kws fk)
    (hall : (backToKw pos (keywordEach kws X.env)).all (·.1.isSome) = true := by rfl)
    (hks : (backToKw pos (keywordEach kws X.env)).filterMap (·.1) = ks := by rfl) (hdb : (x == ("__debug__" : Str)) = false := by decide) (he : starEach (e :: es) X.env = (false, eval e X.env) :: starEach es X.env := by rfl)
    (hpl : ((backTo pos (starEach (e :: es) X.env)).any (·.1) || (backToKw pos (keywordEach kws X.env)).any (·.1.isNone)) = false := by rfl) :
    DO X (.Call (.Name x p) (e :: es) kws pos) (mFnK fn n ks.length ix fa fk) := by
  refine PE.imp (t := tCallNG n ks.length ix (spD X.K fn) (tA X.K fa) (tA X.K fk)) ⟨fun pins s σ H Q I h => ?_⟩ (tFnK_of (fun _ _ _ h => h) fun _ _ _ h => h)
  refine wpAny_Call_Name_kw (ld_glob I gl hm ?_ hdb)
  refine PySem.W.callWith_KW (h₀ := X.base) I.ok.mod.kin hk hall (thn (ha.run pos pins s σ H _ I h) fun us s1 ⟨vs, H1, I1, r, q⟩ => ?_) hpl he
  refine thn (hkw.run pos pins s1 σ H1 _ I1 q) fun ws s2 ⟨zs, H2, I2, rz, l1, l2, q2⟩ => ⟨I2.kIn, ?_⟩
  rw [hks]
  exact run_gN F hr hg hb I2 r rz l1 l2 q2
theorem do_callN0 (F : DFn X.prog X.w X.K X.mg X.base k f fd ps fn) (hr : Room k X.A) (hg : NoG X.A) (gl : Gl X x) (hm : X.mg x = some (.ref f))
    (hk : PySem.W.keepIn X.K (.ref f) = true) (hb : KBn X.K fd ps 0 ks (pickG ix) (pickG ix)) (hkw : DK X kws fk)
    (hall : (backToKw pos (keywordEach kws X.env)).all (·.1.isSome) = true := by rfl)
    (hks : (backToKw pos (keywordEach kws X.env)).filterMap (·.1) = ks := by rfl) (hdb : (x == ("__debug__" : Str)) = false := by decide)
    (hpl : ((backTo pos (starEach [] X.env)).any (·.1) || (backToKw pos (keywordEach kws X.env)).any (·.1.isNone)) = false := by rfl) :
    DO X (.Call (.Name x p) [] kws pos) (mFnK fn 0 ks.length ix aNil fk) := by
  refine PE.imp (t := tCallNG 0 ks.length ix (spD X.K fn) tNil (tA X.K fk)) ⟨fun pins s σ H Q I h => ?_⟩ (tFnK_of tA_nil fun _ _ _ h => h)
  refine wpAny_Call_Name_kw (ld_glob I gl hm ?_ hdb)
  refine PySem.W.callWith_KW0 (h₀ := X.base) I.ok.mod.kin hk hall ?_ hpl
  have h : tA X.K fk σ H fun zs H2 => ([] : List V).length = 0 ∧ zs.length = ks.length ∧ spD X.K fn (pickG ix [] zs) H2 Q (fun _ _ _ => False) := h
  refine thn (hkw.run pos pins s σ H _ I h) fun ws s2 ⟨zs, H2, I2, rz, l1, l2, q2⟩ => ⟨I2.kIn, ?_⟩
  rw [hks]
  exact run_gN (us := []) (vs := []) F hr hg hb I2 .nil rz l1 l2 q2
end
end DD
/-! E10: instances made, properties, star parameters, attributes stored, constants. -/
namespace DD
open PySem L2 GG PySem.Spec PyProof.Rows

/-! ### instances made -/
section
variable {X : Cx} {k : Nat} {f C : Addr} {sp : Sp} {x : Str} {p pos : Pos} {e : Expr} {es : List Expr} {t : TA}
theorem noG_make {A : Around} (h : NoG A) (C : Addr) (us : List Value) (kw : List (Str × Value)) : NoG (A.under (.builtin "type.__call__" ⟨.ref C :: us, kw⟩)) := by
  first | exact h | (unfold NoG at h ⊢; simpa [Around.under, Code.isGuard, guardIds] using h)
theorem run_makeG {pins : List (Addr × Obj)} {σ : L2.St} {H : Hp} {s : Shared} {Q : VK} {us : List Value} {vs : List V} (M : Mk X.K C f) (F : FnRG X.prog X.w X.K X.mg X.base k f sp) (hr : Room (k + 1) X.A) (hg : NoG X.A)
    (I : Inv X pins σ H s) (r : Vals vs us)
    (h : ∀ x dx, H x = none → H dx = none → dx ≠ x → sp (.ref x :: vs) (upd (upd H dx (.own x)) x (.ins C dx [])) (fun v H2 => v = .non ∧ Q (.ref x) H2) (fun _ _ _ => False)) :
    wpAny (model X.prog X.w) X.A (call (.ref C) us) (EP X pins σ Q) X.xe s := by
  have hq := h (s.heap.objs.size + 1) s.heap.objs.size (I.hok.fresh (Nat.le_succ _)) (I.hok.fresh (Nat.le_refl _)) (Nat.ne_of_lt (Nat.lt_succ_self _))
  have I2 := Inv.made (C := C) I
  refine wpAny_call (make_map (f := f) I.kIn M.makes M.init (beq_iff_eq.mp M.fn) (codeAny_mono (F _ X.stack _ _ (Value.ref (s.heap.objs.size + 1) :: us) (V.ref (s.heap.objs.size + 1) :: vs) _ (fun _ _ _ => False) (hr.make C us [])
    (noG_make hg C us []) (I2.env0.make C us []) (.cons rfl r) hq) fun r s' hq' => ?_))
  cases r with
  | error e => exact (show False from hq').elim
  | ok fl =>
    cases fl with
    | ret u =>
      obtain ⟨v, H', I3, rv, ev, q3⟩ := I2.after hq'
      subst ev
      exact ⟨rv, ⟨V.ref (s.heap.objs.size + 1), H', I3, rfl, q3⟩⟩
    | next => exact False.elim hq'
    | brk => exact False.elim hq'
    | cont => exact False.elim hq'
def tMakeG (C : Addr) (sp : Sp) (t : TA) : TE := fun σ H Q => t σ H fun vs H1 => ∀ x dx, H1 x = none → H1 dx = none → dx ≠ x → sp (.ref x :: vs) (upd (upd H1 dx (.own x)) x (.ins C dx [])) (fun v H2 => v = .non ∧ Q (.ref x) H2) (fun _ _ _ => False)
theorem pe_makeG (M : Mk X.K C f) (F : FnRG X.prog X.w X.K X.mg X.base k f sp) (hr : Room (k + 1) X.A) (hg : NoG X.A) (gl : Gl X x) (hm : X.mg x = some (.ref C)) (ha : PA X (e :: es) t)
    (hdb : (x == ("__debug__" : Str)) = false := by decide) (he : starEach (e :: es) X.env = (false, eval e X.env) :: starEach es X.env := by rfl) (hpl : (backTo pos (starEach es X.env)).any (·.1) = false := by rfl) :
    PE X (.Call (.Name x p) (e :: es) [] pos) (tMakeG C sp t) := by
  refine ⟨fun pins s σ H Q I h => ?_⟩
  refine wpAny_Call_Name_kw (ld_glob I gl hm ?_ hdb)
  refine PySem.W.callWith_K (h₀ := X.base) I.ok.mod.kin M.kp (thn (ha.run pos pins s σ H _ I h) fun us s1 ⟨vs, H1, I1, r, q⟩ => ⟨I1.kIn, ?_⟩) he hpl
  exact run_makeG M F hr hg I1 r q
end
section
variable {K : PySem.W.Frag} {g : Gh} {σ : L2.St} {s : S} {v : V} {m : MV}
theorem Sat.pushR (h : Sat K g σ s (some (v, m))) : Sat K { g with fp := setK (setK g.fp .R []) (.L σ.length) (g.fp .R) } (σ ++ [some v]) ⟨s.env ++ [some m], s.sto⟩ none ∧ Ext g { g with fp := setK (setK g.fp .R []) (.L σ.length) (g.fp .R) } := by
  have h1 := h.o.drop (k := .R)
  have h2 := h1.put (k := .L σ.length) (v := v) (m := m) (fp' := g.fp .R) (h.o.rep .R v m rfl) (fun a ha => h.o.hid .R a ha) (fun a ha k' hk hc => by
    have hc : a ∈ setK g.fp .R [] k' := hc
    by_cases z : k' = .R
    · rw [z, setK_same] at hc
      simp at hc
    · rw [setK_ne z] at hc
      exact z (h.o.dis k' .R a hc ha))
  have hl := h.len
  refine ⟨⟨h2.congr fun k => ?_, by simp [hl], fun i m' e => ?_, h.jl⟩, ?_⟩
  · cases k with
    | S j => rw [setK_ne (by intro e; cases e), setK_ne (by intro e; cases e)]; rfl
    | R => rw [setK_ne (by intro e; cases e), setK_same]; rfl
    | L i =>
      by_cases z : i = σ.length
      · subst z
        rw [setK_same]
        exact ownS_L (by simp [← hl]) (by simp)
      · rw [setK_ne (by intro e; cases e; exact z rfl), setK_ne (by intro e; cases e)]
        by_cases hi : i < σ.length
        · simp only [ownS]
          rw [List.getElem?_append_left (by omega), List.getElem?_append_left hi]
        · have e1 : (s.env ++ [some m])[i]? = none := List.getElem?_eq_none (by simp; omega)
          have e2 : s.env[i]? = none := List.getElem?_eq_none (by omega)
          simp only [ownS, e1, e2]
  · have e : (s.env ++ [some m])[i]? = some (some m') := e
    by_cases hi : i < s.env.length
    · rw [List.getElem?_append_left hi] at e
      obtain ⟨u, hu⟩ := h.has i m' e
      exact ⟨u, by rw [List.getElem?_append_left (by omega)]; exact hu⟩
    · have : i = s.env.length := by
        have := lt_of_get e
        simp at this
        omega
      exact ⟨v, by subst this; rw [hl]; simp⟩
  · refine Ext.fps fun k a ha => ?_
    by_cases z : k = .L σ.length
    · rw [z, setK_same] at ha
      exact ⟨.R, ha⟩
    · rw [setK_ne z] at ha
      by_cases z2 : k = .R
      · rw [z2, setK_same] at ha
        simp at ha
      · rw [setK_ne z2] at ha
        exact ⟨k, ha⟩
theorem Sat.popR {u : V} {r : MV} (h : Sat K g (σ ++ [some v]) s (some (u, r))) (e : s.env[σ.length]? = some (some m)) :
    ∃ g2, g2.H = g.H ∧ Sat K g2 σ ⟨s.env.take σ.length, s.sto⟩ (some (v, m)) ∧ Ext g g2 := by
  have hl : s.env.length = σ.length + 1 := by
    have := h.len
    simpa using this
  have hv : (σ ++ [some v])[σ.length]? = some (some v) := by simp
  have e0 := ownS_L (js := g.js) (r := some (u, r)) e hv
  have h0 := h.o.drop (k := .R)
  have h1 := h0.drop (k := .L σ.length)
  have h2 := h1.put (k := .R) (v := v) (m := m) (fp' := g.fp (.L σ.length)) (h.o.rep _ _ _ e0) (fun a ha => h.o.hid _ a ha) (fun a ha k' hk hc => by
    have hc : a ∈ setK (setK g.fp .R []) (.L σ.length) [] k' := hc
    by_cases z : k' = .L σ.length
    · rw [z, setK_same] at hc
      simp at hc
    · rw [setK_ne z, setK_ne hk] at hc
      exact z (h.o.dis k' _ a hc ha))
  refine ⟨{ g with fp := setK (setK (setK g.fp .R []) (.L σ.length) []) .R (g.fp (.L σ.length)) }, rfl, ⟨h2.congr fun k => ?_, by simp [hl], fun i m' e => ?_, h.jl⟩, ?_⟩
  · cases k with
    | S j => rw [setK_ne (by intro e; cases e), setK_ne (by intro e; cases e), setK_ne (by intro e; cases e)]; rfl
    | R => rw [setK_same]; rfl
    | L i =>
      rw [setK_ne (by intro e; cases e)]
      by_cases z : i = σ.length
      · subst z
        rw [setK_same]
        have e1 : (s.env.take σ.length)[σ.length]? = none := List.getElem?_eq_none (by simp; omega)
        simp only [ownS, e1]
      · rw [setK_ne (by intro e; cases e; exact z rfl), setK_ne (by intro e; cases e)]
        by_cases hi : i < σ.length
        · simp only [ownS]
          rw [List.getElem?_take_of_lt hi, List.getElem?_append_left hi]
        · have e1 : (s.env.take σ.length)[i]? = none := List.getElem?_eq_none (by simp; omega)
          have e2 : s.env[i]? = none := List.getElem?_eq_none (by omega)
          simp only [ownS, e1, e2]
  · have e : (s.env.take σ.length)[i]? = some (some m') := e
    have hi : i < σ.length := by
      have := lt_of_get e
      simp at this
      omega
    rw [List.getElem?_take_of_lt hi] at e
    obtain ⟨w, hw⟩ := h.has i m' e
    exact ⟨w, by rw [List.getElem?_append_left hi] at hw; exact hw⟩
  · refine Ext.fps fun k a ha => ?_
    have ha : a ∈ setK (setK (setK g.fp .R []) (.L σ.length) []) .R (g.fp (.L σ.length)) k := ha
    by_cases z : k = .R
    · rw [z, setK_same] at ha
      exact ⟨_, ha⟩
    · rw [setK_ne z] at ha
      by_cases z2 : k = .L σ.length
      · rw [z2, setK_same] at ha
        simp at ha
      · rw [setK_ne z2, setK_ne z] at ha
        exact ⟨k, ha⟩
theorem AvA.push {js : List Addr} {F : Hp} {o : Option V} : ∀ {vs : List V} {as : List AV}, AvA K js F σ vs as → AvA K js F (σ ++ [o]) vs as
  | _, _, .nil => .nil
  | _, _, .pv r q => .pv r (AvA.push q)
  | _, _, .io r q => .io (by rw [List.getElem?_append_left (lt_of_get r)]; exact r) (AvA.push q)
end
def mkOut (r : MV) (e : Option (Option MV)) (s : S) : Option (MV × S) := match r, e with
  | .val .non, some (some m) => some (m, s)
  | _, _ => none
def mMk (C : Addr) (fn : Fn) (fa : AFn) : OF := fun s => (fa s).bind fun a => (callF fn (.io a.2.env.length :: a.1) ⟨a.2.env ++ [some (.mobj C [] [])], a.2.sto⟩).bind fun r => mkOut r.1 r.2.env[a.2.env.length]? ⟨r.2.env.take a.2.env.length, r.2.sto⟩
theorem mkOut_inv {r m : MV} {e : Option (Option MV)} {s s' : S} (h : mkOut r e s = some (m, s')) : r = .val .non ∧ e = some (some m) ∧ s' = s := by
  unfold mkOut at h
  split at h
  · cases h
    exact ⟨rfl, rfl, rfl⟩
  · cases h
theorem tMk_of {K : PySem.W.Frag} {C : Addr} {fn : Fn} {fa : AFn} {t : TA} (ht : ∀ σ H Q, tA K fa σ H Q → t σ H Q) : ∀ σ H Q, tO K (mMk C fn fa) σ H Q → tMakeG C (spD K fn) t σ H Q := by
  rintro σ H Q ⟨g, s, r, s', rfl, hs, hf, k⟩
  obtain ⟨a, ha, hf⟩ := bind_inv hf
  obtain ⟨rr, hc, hf⟩ := bind_inv hf
  obtain ⟨r0, s2⟩ := rr
  refine ht _ _ _ ⟨g, s, a.1, a.2, rfl, hs, ha, fun vs g1 h1 e1 r1 x dx nx ndx nd => ?_⟩
  obtain ⟨rfl, hr0, rfl⟩ := mkOut_inv hf
  · have hlen := h1.len
    have hr0 : s2.env[a.2.env.length]? = some (some r) := hr0
    have q : RpM K g1.js g1.F (upd (upd g1.H dx (.own x)) x (.ins C dx [])) (.ref x) (.mobj C [] []) [x, dx] :=
      RpM.obj (fs := []) upd_same (by rw [upd_ne nd, upd_same]) .nil
    obtain ⟨h2, e2⟩ := h1.newR q (fun b hb => by
      rcases List.mem_cons.mp hb with rfl | hb
      · exact nx
      · rw [List.mem_singleton.mp hb]
        exact ndx) fun b o hb => by
        rw [upd_ne (ne_of_none hb nx), upd_ne (ne_of_none hb ndx)]
        exact hb
    obtain ⟨h3, e3⟩ := h2.pushR
    rw [hlen] at hc hr0
    refine call_core h3 (.io (by simp) ((r1.ext (e2.trans e3)).push)) hc fun v g4 h4 e4 => ?_
    have hv : v = .non := by
      have z := h4.o.rep .R v _ rfl
      generalize g4.fp .R = fp at z
      cases z with
      | val z =>
        cases z
        rfl
    refine ⟨hv, ?_⟩
    obtain ⟨g5, q1, h5, e5⟩ := h4.popR hr0
    rw [← q1]
    rw [← hlen] at h5
    exact k _ g5 h5 ((((e1.trans e2).trans e3).trans e4).trans e5)
theorem do_make {X : Cx} {k : Nat} {f C : Addr} {x : Str} {p pos : Pos} {e : Expr} {es : List Expr} {fn : Fn} {fa : AFn} (M : Mk X.K C f) (F : FnRG X.prog X.w X.K X.mg X.base k f (spD X.K fn)) (hr : Room (k + 1) X.A) (hg : NoG X.A) (gl : Gl X x) (hm : X.mg x = some (.ref C)) (ha : DA X (e :: es) fa)
    (hdb : (x == ("__debug__" : Str)) = false := by decide) (he : starEach (e :: es) X.env = (false, eval e X.env) :: starEach es X.env := by rfl) (hpl : (backTo pos (starEach es X.env)).any (·.1) = false := by rfl) :
    DO X (.Call (.Name x p) (e :: es) [] pos) (mMk C fn fa) := PE.imp (pe_makeG M F hr hg gl hm ha hdb he hpl) (tMk_of fun _ _ _ h => h)

/-! ### attributes stored -/
def putN (f : Str) : List Str → List Str
  | [] => [f]
  | g :: r => if g = f then g :: r else g :: putN f r
def putP (f : Str) (p : PV) : List Str → List PV → List PV
  | [], _ => [p]
  | g :: r, q :: qs => if g = f then p :: qs else q :: putP f p r qs
  | _, [] => [p]
theorem putF_names (f : Str) (v : V) : ∀ fs : List (Str × V), (putF f v fs).map (·.1) = putN f (fs.map (·.1))
  | [] => rfl
  | (g, x) :: r => by
    rw [putF, List.map_cons, putN]
    split
    · rfl
    · rw [List.map_cons, putF_names f v r]
theorem putF_rp {K : PySem.W.Frag} {js : List Addr} {F : Hp} {f : Str} {v : V} {p : PV} (h : Rp K js F v p) : ∀ {fs : List (Str × V)} {ps : List PV}, RpA K js F (fs.map (·.2)) ps → RpA K js F ((putF f v fs).map (·.2)) (putP f p (fs.map (·.1)) ps)
  | [], ps, r => by
    cases r
    exact .one h
  | (g, x) :: fs, ps, r => by
    cases r with
    | cons r q =>
      rw [putF, List.map_cons, putP]
      split
      · exact .cons h q
      · exact .cons r (putF_rp h q)
def sFldSet (C : Addr) (f : Str) (j : Nat) (fv : DF) : SF := fun s => (fv s).bind fun a => match a.2.env[j]? with
  | some (some (.mobj D fs ps)) => if D = C ∧ fs.length < 1000 then some (.nx (a.2.set j (some (.mobj D (putN f fs) (putP f a.1 fs ps))))) else none
  | _ => none
theorem ds_fld {X : Cx} {io : List Nat} {C : Addr} {f x : Str} {j : Nat} {value : Expr} {p2 pos' pos : Pos} {fv : DF} (hN : X.N[j]? = some x) (hv : Vis X.env.scope x) (hC : Cls X.K C) (hn : NoAttr X.K C f) (he : DE X value fv)
    (hd : (x == ("__debug__" : Str)) = false := by decide) (hcd : (x == ("__classdict__" : Str)) = false := by decide)
    (hs : swapsWith value (some (.Attribute (.Name x p2) f pos')) pos.line X.env = pure false := by rfl) : DS X io (.Assign [.Attribute (.Name x p2) f pos'] value pos) (sFldSet C f j fv) := by
  refine PS.imp (ps_fld (pe_var hN hv hd hcd) he hs) ?_
  rintro D σ H ⟨g, s, o, rfl, hs, hf, k⟩
  obtain ⟨a, ha, hf⟩ := bind_inv hf
  split at hf
  · rename_i D2 fs ps hm
    split at hf
    · rename_i hl
      cases hf
      obtain ⟨rfl, hl⟩ := hl
      refine ⟨g, s, a.1, a.2, rfl, hs, ha, fun v g1 h1 e1 r1 => ?_⟩
      obtain ⟨u, hu, r⟩ := h1.loc hm
      generalize hfp : g1.fp (.L j) = fp at r
      cases r with
      | obj b1 b2 b3 =>
        rename_i c dx vfs
        have hd2 : dx ≠ c := by
          rintro rfl
          rw [b1] at b2
          cases b2
        refine ⟨_, hu, c, D2, dx, vfs, rfl, b1, hC, hn, by simpa using hl, ?_⟩
        have h2 := h1.mut (v := .ref c) (m' := .mobj D2 ((putF f v vfs).map (·.1)) (putP f a.1 (vfs.map (·.1)) ps)) (fp := [c, dx]) (H' := upd g1.H c (.ins D2 dx (putF f v vfs))) hm hu
          (.obj upd_same (by rw [upd_ne hd2]; exact b2) (putF_rp r1 b3)) (fun b hb => Or.inl (by rw [hfp]; exact hb)) (fun b o hb ho => by
            rw [upd_ne]
            · exact ho
            · rintro rfl
              rw [hfp] at hb
              exact hb List.mem_cons_self) fun b hb => upd_dom hb
        rw [putF_names] at h2
        exact (k σ _ h2.1 (e1.trans h2.2) Pin.refl :)
    · cases hf
  · cases hf

/-! ### properties -/
section
variable {X : Cx} {k : Nat} {C p g a dx : Addr} {fs : List (Str × V)} {f : Str} {sp : Sp} {e : Expr} {pos : Pos} {ta : TE}
theorem getprop_okG {pins : List (Addr × Obj)} {σ : L2.St} {H : Hp} {s : Shared} {Q : VK} {b : Bool} {E' : Value → Shared → Prop} (I : Inv X pins σ H s) (ea : H a = some (.ins C dx fs)) (c : Cls X.K C) (hp : PropOf X.K C f p g)
    (F : FnRG X.prog X.w X.K X.mg X.base k g sp) (hr : Room (k + 1) X.A) (hg : NoG X.A) (h : sp [.ref a] H Q (fun _ _ _ => False)) :
    wpAny (model X.prog X.w) X.A (getAttr (.ref a) f b) (EP X pins σ Q) E' s := by
  obtain ⟨mA, O, _, _, _, _⟩ := ins_get I.hok ea
  obtain ⟨od, J, _⟩ := O.look
  obtain ⟨rest, hrec⟩ := hp.rec_
  have I1 := I.tok (s.toks + 1)
  have hc : (PySem.W.clsIn X.K C).isSome = true := by
    obtain ⟨cd, hc, _⟩ := PySem.W.any_some c.hd
    rw [hc]
    rfl
  refine PySem.W.get_bind I.kIn J (PySem.W.plainGet_of (c.get f)).1 (PySem.W.findObj_data hc hp.at_ hp.get hp.tak) (PySem.W.plainGet_of (c.get f)).2 (wpAny_call (PySem.W.prop_get (s := { s with toks := s.toks + 1 }) I.kIn hrec ?_))
  refine codeAny_mono (F X.A.in1 X.stack { s with toks := s.toks + 1 } H [.ref a] [.ref a] Q (fun _ _ _ => False) hr.in1 hg I1.env0.in1 (.cons rfl .nil) h) fun r s' hq => ?_
  cases r with
  | error er => exact (show False from hq).elim
  | ok fl =>
    cases fl with
    | ret u =>
      obtain ⟨v, H', I3, rv, q3⟩ := I1.after hq
      show wpAny _ _ (handedOut u) _ _ _
      rw [PySem.W.handedOut_of (handed_of rv)]
      exact wpAny_pure ⟨v, H', I3, rv, q3⟩
    | next => exact False.elim hq
    | brk => exact False.elim hq
    | cont => exact False.elim hq
def tPropG (C : Addr) (sp : Sp) (ta : TE) : TE := fun σ H Q => ta σ H fun x H1 => ∃ a dx fs, x = .ref a ∧ H1 a = some (.ins C dx fs) ∧ sp [.ref a] H1 Q (fun _ _ _ => False)
theorem pe_propG (he : PE X e ta) (c : Cls X.K C) (hp : PropOf X.K C f p g) (F : FnRG X.prog X.w X.K X.mg X.base k g sp) (hr : Room (k + 1) X.A) (hg : NoG X.A)
    (hab : attributeBase e f X.env (eval e X.env) = eval e X.env) : PE X (.Attribute e f pos) (tPropG C sp ta) := by
  refine ⟨fun pins s σ H Q I h => ?_⟩
  refine attr_of hab (thn (he.run pins s σ H _ I h) fun u s1 ⟨x, H1, I1, rx, a, dx, fs, ex, ea, q⟩ => ?_)
  subst ex
  obtain rfl : u = Value.ref a := rx
  exact getprop_okG I1 ea c hp F hr hg q
def isOf (C : Addr) : PV → Bool
  | .obj D _ _ => decide (D = C)
  | _ => false
theorem isOf_inv {C : Addr} {p : PV} (h : isOf C p = true) : ∃ fs ps, p = .obj C fs ps := by
  unfold isOf at h
  split at h
  · obtain rfl := of_decide_eq_true h
    exact ⟨_, _, rfl⟩
  · cases h
def mPr (C : Addr) (fn : Fn) (fr : DF) : OF := fun s => (fr s).bind fun o => if isOf C o.1 = true then callF fn [.pv o.1] o.2 else none
theorem do_prop {fn : Fn} {fr : DF} (he : DE X e fr) (c : Cls X.K C) (hp : ∃ p, PropOf X.K C f p g) (F : FnRG X.prog X.w X.K X.mg X.base k g (spD X.K fn)) (hr : Room (k + 1) X.A) (hg : NoG X.A)
    (hab : attributeBase e f X.env (eval e X.env) = eval e X.env := by rfl) : DO X (.Attribute e f pos) (mPr C fn fr) := by
  obtain ⟨p, hp⟩ := hp
  refine PE.imp (pe_propG he c hp F hr hg hab) ?_
  rintro σ H Q ⟨g, s, r, s', rfl, hs, hf, k⟩
  obtain ⟨o, ho, hf⟩ := bind_inv hf
  obtain ⟨q, s1⟩ := o
  split at hf
  · rename_i hok
    refine ⟨g, s, q, s1, rfl, hs, ho, fun v g1 h1 e1 r1 => ?_⟩
    obtain ⟨fs, ps, rfl⟩ := isOf_inv hok
    have r1' := r1
    obtain ⟨b, dx, vs0, rfl, b1, rfl, b2⟩ := r1.pk.obj h1
    exact ⟨b, dx, vs0, rfl, b1, call_core h1 (.pv r1' .nil) hf fun v g3 h3 e3 => k v g3 h3 (e1.trans e3)⟩
  · cases hf
end
/-! ### constants of classes, of the module -/
theorem de_cls {X : Cx} {x : Str} {C : Addr} {pos : Pos} (gl : Gl X x) (hm : X.mg x = some (.ref C)) (hdb : (x == ("__debug__" : Str)) = false := by decide) : DE X (.Name x pos) (dC (.gl C)) :=
  de_const (pe_glob (v := .ref C) gl hm rfl hdb) fun _ _ _ => .gl C
theorem de_cval {X : Cx} {e : Expr} {f : Str} {pos : Pos} {C : Addr} {i : Int} (he : PE X e (tC (.ref C))) (hc : ∃ mc u, ClX.CRead X.K C mc ∧ ClX.CVal X.K C mc f (.int i) u) (hb : attributeBase e f X.env (eval e X.env) = eval e X.env := by rfl) : DE X (.Attribute e f pos) (dC (.int i)) := by
  refine PE.imp (ClX.pe_cval he hb) ?_
  rintro σ H Q ⟨g, s, q, s', rfl, hs, hf, k⟩
  cases hf
  obtain ⟨mc, u, h1, h2⟩ := hc
  exact ⟨C, mc, .int i, u, rfl, h1, h2, k _ g hs (Ext.refl g) (.int i)⟩
/-! ### star parameters -/
def valsM : List MV → Option (List PV)
  | [] => some []
  | .val p :: r => (valsM r).map fun ps => p :: ps
  | _ => none
/-- f(a, .., *v): what stands behind n parameters, in a tuple -/
def starF (n : Nat) (fn : Fn) : Fn := fun ms sto => if n ≤ ms.length ∧ ms.length ≤ 100000 then (valsM (ms.drop n)).bind fun ps => (fn (ms.take n ++ [MV.val (.tup ps)]) sto).bind fun r => match r.2.1[n]? with
    | some (.val _) => if r.2.1.length = n + 1 then some (r.1, r.2.1.take n ++ ms.drop n, r.2.2) else none
    | _ => none
  else none
theorem valsM_get : ∀ {ms : List MV} {ps : List PV}, valsM ms = some ps → ms.length = ps.length ∧ ∀ (i : Nat) (m : MV), ms[i]? = some m → ∃ p : PV, ps[i]? = some p ∧ m = MV.val p
  | [], ps, h => by
    cases h
    exact ⟨rfl, fun i m e => by simp at e⟩
  | .val p :: r, ps, h => by
    rw [valsM] at h
    obtain ⟨qs, hq, rfl⟩ := map_inv h
    obtain ⟨h1, h2⟩ := valsM_get hq
    refine ⟨by simp [h1], fun i m e => ?_⟩
    cases i with
    | zero =>
      cases e
      exact ⟨p, rfl, rfl⟩
    | succ i => exact h2 i m e
  | .mlst _ :: r, ps, h => by cases h
  | .mdct _ _ :: r, ps, h => by cases h
  | .mobj _ _ _ :: r, ps, h => by cases h
theorem rpa_of {K : PySem.W.Frag} {js : List Addr} {F : Hp} : ∀ {vs : List V} {ps : List PV}, vs.length = ps.length → (∀ (i : Nat) (v : V), vs[i]? = some v → ∃ p, ps[i]? = some p ∧ Rp K js F v p) → RpA K js F vs ps
  | [], [], _, _ => .nil
  | [], _ :: _, h, _ => by simp at h
  | _ :: _, [], h, _ => by simp at h
  | v :: vs, p :: ps, h, f => by
    obtain ⟨q, hq, r⟩ := f 0 v rfl
    cases hq
    exact .cons r (rpa_of (by simpa using h) fun i u e => f (i + 1) u e)
theorem spD_star {K : PySem.W.Frag} {n : Nat} {fn : Fn} {vs : List V} {H : Hp} {Q : VK} {E : XK} (h : spD K (starF n fn) vs H Q E) :
    ∃ ws rest, vs = ws ++ rest ∧ ws.length = n ∧ rest.length ≤ sizeLine ∧ ∀ q, H q = none → spD K fn (ws ++ [V.ref q]) (upd H q (.tup rest)) Q E := by
  obtain ⟨g, ms, sto, r, ms', sto', rfl, hs, hf, hl, k⟩ := h
  have lv : ms.length = vs.length := by
    have := hs.len
    simpa using this
  unfold starF at hf
  split at hf
  · rename_i hn
    obtain ⟨ps, hp, hf⟩ := bind_inv hf
    obtain ⟨rr, hr, hf⟩ := bind_inv hf
    obtain ⟨r0, ms0, sto0⟩ := rr
    split at hf
    · rename_i pz hz
      split at hf
      rotate_left
      · cases hf
      rename_i hl0
      cases hf
      obtain ⟨v1, v2⟩ := valsM_get hp
      refine ⟨vs.take n, vs.drop n, (List.take_append_drop n vs).symm, by simp; omega, sz_ok (by simp; omega), fun q nq => ?_⟩
      -- the rest stands frozen
      have hval : ∀ (i : Nat) (v : V), n ≤ i → vs[i]? = some v → ∃ p, ms[i]? = some (.val p) ∧ ps[i - n]? = some p ∧ Rp K g.js g.F v p := fun i v hi e => by
        have him : i < ms.length := by
          rw [lv]
          exact lt_of_get e
        have e2 : (ms.drop n)[i - n]? = some ms[i] := by
          rw [List.getElem?_drop, show n + (i - n) = i by omega, List.getElem?_eq_getElem him]
        obtain ⟨p, h1, h2⟩ := v2 _ _ e2
        have e3 : ms[i]? = some (.val p) := by rw [List.getElem?_eq_getElem him, h2]
        obtain ⟨u, hu, rp⟩ := hs.val (i := i) (p := p) (by simp [e3])
        have : u = v := by
          simp [e] at hu
          exact hu.symm
        exact ⟨p, e3, h1, this ▸ rp⟩
      have hR : RpA K g.js g.F (vs.drop n) ps := rpa_of (by simp at v1 ⊢; omega) fun i v e => by
        rw [List.getElem?_drop] at e
        obtain ⟨p, _, h2, h3⟩ := hval (n + i) v (by omega) e
        rw [show n + i - n = i by omega] at h2
        exact ⟨p, h2, h3⟩
      have eN := Ext.newF (o := .tup (vs.drop n)) hs.o nq
      have hN := hs.newF (o := .tup (vs.drop n)) nq
      have hT : Rp K g.js (g.newF q (.tup (vs.drop n))).F (.ref q) (.tup ps) := .tup (Or.inl (Or.inl upd_same)) (hR.ext eN)
      have fpz : ∀ i, n ≤ i → g.fp (.L i) = [] := fun i hi => hs.o.fpVal fun v m e => by
        obtain ⟨e1, e2⟩ := ownS_L_inv e
        have e2 : (vs.map some)[i]? = some (some v) := e2
        rw [List.getElem?_map] at e2
        obtain ⟨v', hv', e2⟩ := map_inv e2
        cases e2
        obtain ⟨p, h1, _, _⟩ := hval i v hi hv'
        have e1 : (ms.map some)[i]? = some (some m) := e1
        rw [List.getElem?_map, h1] at e1
        cases e1
        exact ⟨p, rfl⟩
      have wl : (vs.take n).length = n := by simp; omega
      have ml : (ms.take n).length = n := by simp; omega
      refine ⟨g.newF q (.tup (vs.drop n)), ms.take n ++ [MV.val (.tup ps)], sto, r0, ms0, sto0, rfl, ⟨hN.o.vals fun kk => ?_, by simp; omega, fun i m e => ?_, hN.jl⟩, hr, ?_, fun v g' h' e' => ?_⟩
      · cases kk with
        | S j => exact Or.inl rfl
        | R => exact Or.inl rfl
        | L i =>
          by_cases hi : i < n
          · refine Or.inl ?_
            simp only [ownS]
            have e1 : ((ms.take n ++ [MV.val (.tup ps)]).map some)[i]? = (ms.map some)[i]? := by
              rw [List.getElem?_map, List.getElem?_map, List.getElem?_append_left (by omega), List.getElem?_take_of_lt hi]
            have e2 : ((vs.take n ++ [V.ref q]).map some)[i]? = (vs.map some)[i]? := by
              rw [List.getElem?_map, List.getElem?_map, List.getElem?_append_left (by omega), List.getElem?_take_of_lt hi]
            rw [e1, e2]
          · refine Or.inr ⟨fpz i (by omega), fun u m e => ?_⟩
            obtain ⟨e1, e2⟩ := ownS_L_inv e
            have e1 : ((ms.take n ++ [MV.val (.tup ps)]).map some)[i]? = some (some m) := e1
            have e2 : ((vs.take n ++ [V.ref q]).map some)[i]? = some (some u) := e2
            rw [List.getElem?_map, List.getElem?_append_right (by omega), ml] at e1
            rw [List.getElem?_map, List.getElem?_append_right (by omega), wl] at e2
            have hz : i - n = 0 := by
              obtain ⟨m2, hm2, _⟩ := map_inv e1
              have := lt_of_get hm2
              simp at this
              exact this
            rw [hz] at e1 e2
            cases e1
            cases e2
            exact ⟨_, rfl, hT⟩
      · have e : ((ms.take n ++ [MV.val (.tup ps)]).map some)[i]? = some (some m) := e
        have hi : i < (vs.take n ++ [V.ref q]).length := by
          have := lt_of_get e
          simp at this ⊢
          omega
        exact ⟨(vs.take n ++ [V.ref q])[i], by rw [List.getElem?_map, List.getElem?_eq_getElem hi]; rfl⟩
      · have hl0 : ms0.length = n + 1 := hl0
        simp [hl0]
        omega
      · have hl0 : ms0.length = n + 1 := hl0
        refine k v g' ⟨h'.o.vals fun kk => ?_, by simp; omega, fun i m e => ?_, h'.jl⟩ (eN.trans e')
        · cases kk with
          | S j => exact Or.inl rfl
          | R => exact Or.inl rfl
          | L i =>
            by_cases hi : i < n
            · refine Or.inl ?_
              simp only [ownS]
              have e1 : ((ms0.take n ++ ms.drop n).map some)[i]? = (ms0.map some)[i]? := by
                rw [List.getElem?_map, List.getElem?_map, List.getElem?_append_left (by simp; omega), List.getElem?_take_of_lt hi]
              have e2 : ((vs.take n ++ [V.ref q]).map some)[i]? = (vs.map some)[i]? := by
                rw [List.getElem?_map, List.getElem?_map, List.getElem?_append_left (by omega), List.getElem?_take_of_lt hi]
              rw [e1, e2]
            · refine Or.inr ⟨h'.o.fpVal fun u m e => ?_, fun u m e => ?_⟩
              · obtain ⟨e1, _⟩ := ownS_L_inv e
                have e1 : (ms0.map some)[i]? = some (some m) := e1
                rw [List.getElem?_map] at e1
                obtain ⟨m2, hm2, e1⟩ := map_inv e1
                cases e1
                have : i = n := by
                  have := lt_of_get hm2
                  omega
                subst this
                have hz : ms0[i]? = some (.val pz) := hz
                rw [hz] at hm2
                cases hm2
                exact ⟨_, rfl⟩
              · obtain ⟨e1, e2⟩ := ownS_L_inv e
                have e1 : ((ms0.take n ++ ms.drop n).map some)[i]? = some (some m) := e1
                have e2 : (vs.map some)[i]? = some (some u) := e2
                rw [List.getElem?_map] at e2
                obtain ⟨v', hv', e2⟩ := map_inv e2
                cases e2
                obtain ⟨p, h1, _, h3⟩ := hval i u (by omega) hv'
                have tl : (ms0.take n).length = n := by simp; omega
                rw [List.getElem?_map, List.getElem?_append_right (by omega), tl, List.getElem?_drop, show n + (i - n) = i by omega, h1] at e1
                cases e1
                exact ⟨p, rfl, (h3.ext eN).ext e'⟩
        · have e : ((ms0.take n ++ ms.drop n).map some)[i]? = some (some m) := e
          have hi : i < vs.length := by
            have := lt_of_get e
            simp at this
            omega
          exact ⟨vs[i], by simp [hi]⟩
    · cases hf
  · cases hf
end DD
/-! E11: defs with a star parameter; methods that look; repr's room. -/
namespace DD
open PySem L2 GG PySem.Spec PyProof.Rows
theorem fn_starG {P : Program} {w : World} {K : PySem.W.Frag} {mg : Str → Option Value} {base : Heap} {x qual p v : Str} {st : Stmt} {f : Addr} {fd : FuncData} {N : List Str} {k : Nat} {io : List Nat} {fb : SF}
    (F : Fun K x qual st f fd) (Sc : FnScope N [p, v] (defScope st))
    (b : ∀ us rest : List Value, us.length = [p].length → bindArgs fd ⟨us ++ rest, []⟩ = (newTuple rest >>= fun t => pure ([p].zip us ++ [(v, t)])))
    (hb : ∀ (cdv : Value) (A : Around) (out : List Env) (s : Shared) (H : Hp) (E : XK), NoG A → Room k (A.deeper (envOfC qual (defScope st) s.heap.objs.size f cdv)) →
      DSs (cxOf CX0 P w K mg base N qual (defScope st) f cdv A out s H E).nox io (defBody st) fb) : FnRG P w K mg base (k + 1) f (spD K (starF 1 (runF 2 N.length io fb))) := by
  obtain ⟨oc, od, kV, doc, pm, an, cdv, ct, osl, e, lk, hcd⟩ := F.ex
  subst e
  intro A outer s H us vs Q E hr hg e0 r hsp
  obtain ⟨ws, rest, ev, hl, hz, hq⟩ := spD_star hsp
  subst ev
  obtain ⟨u1, u2, eu, r1, r2⟩ := StX.vals_split r
  subst eu
  have hn : H s.heap.objs.size = Option.none := e0.hok.fresh (Nat.le_refl _)
  have hl1 : u1.length = [p].length := by rw [← r1.length]; exact hl
  have hl2 : u2.length ≤ sizeLine := by rw [← r2.length]; exact hz
  refine StX.run_bnd lk hcd Sc hr e0 (G := fun xs H2 => ∃ q, H q = Option.none ∧ xs = ws ++ [V.ref q] ∧ H2 = upd H q (.tup rest)) (fun A' Ex Q' h => ?_) fun s2 H2 xs ⟨q, hp, ex, eH⟩ hr' => ?_
  · rw [b u1 u2 hl1]
    refine wpAny_bind (wpAny_newTuple (wpAny_pure ?_) hl2)
    have new : ObjOk P w (upd H s.heap.objs.size (.tup rest)) (s.heap.push ({ cls := .type "tuple", data := .seq u2.toArray } : Obj)) s.heap.objs.size (.tup rest) := ⟨hz, u2, r2, ⟨_, Heap.get?_push_size _ rfl, rfl, _, rfl⟩⟩
    have un := StX.un_laid (fs := frs outer) (s := s) (o := ({ cls := .type "tuple", data := .seq u2.toArray } : Obj)) (u := .tup rest) hn
    have z := h _ _ (ws ++ [V.ref s.heap.objs.size]) (u1 ++ [Value.ref s.heap.objs.size]) (StX.env0_laid e0 new) un rfl (fun _ _ z => z) (r1.append (.cons rfl .nil))
      (by rw [List.length_append, hl] <;> rfl) ⟨_, hn, rfl, rfl⟩
    obtain ⟨a, rfl⟩ : ∃ a, u1 = [a] := List.length_eq_one_iff.mp hl1
    exact z
  · subst ex eH
    obtain ⟨t, ht, hq2⟩ := body_spec (Q := Q) (E := E) rfl (hb cdv A outer s2 (upd H q (.tup rest)) E hg hr') (hq q hp)
    exact ⟨t, ht.nox, hq2⟩
end DD
/-! E12: chains, index, list(range(..)), sorted(set(..)), constants. -/
namespace DD
open PySem L2 GG PySem.Spec PyProof.Rows

def dChain (fo fo' : PV → PV → Option PV) (fa fb fc : PF) : DF := fun s => (fa s).bind fun a => (fb a.2).bind fun b => (a.1 b.2).bind fun p => (b.1 b.2).bind fun q => (fo p q).bind fun z => match z with
  | .bl true => (fc b.2).bind fun c => (b.1 c.2).bind fun q' => (c.1 c.2).bind fun w => (fo' q' w).map fun y => (y, c.2)
  | .bl false => some (.bl false, b.2)
  | _ => none
section
variable {X : Cx} {a b c e : Expr} {pos : Pos} {fa fb fc : PF} {op op' : CmpOp} {fo fo' : PV → PV → Option PV}
theorem chain_of (ho : OpD X (compareOp op) fo) (ho' : OpD X (compareOp op') fo') : ∃ r r', OpR X (compareOp op) r ∧ OpR X (compareOp op') r' ∧
    ∀ σ H Q, tD X.K (dChain fo fo' fa fb fc) σ H Q → tChain r r' (tP X.K fa) (tP X.K fb) (tP X.K fc) σ H Q := by
  obtain ⟨r, h1, h2⟩ := ho
  obtain ⟨r', h1', h2'⟩ := ho'
  refine ⟨r, r', h1, h1', ?_⟩
  rintro σ H Q ⟨g, s, z, s', rfl, hs, hf, k⟩
  obtain ⟨ra, ea, hf⟩ := bind_inv hf
  obtain ⟨rb, eb, hf⟩ := bind_inv hf
  obtain ⟨p, ep, hf⟩ := bind_inv hf
  obtain ⟨q, eq, hf⟩ := bind_inv hf
  obtain ⟨z0, ez, hf⟩ := bind_inv hf
  refine ⟨g, s, ra.1, ra.2, rfl, hs, ea, fun x g1 s1 e1 r1 => ⟨g1, ra.2, rb.1, rb.2, rfl, s1, eb, fun y g2 s2 e2 r2 => ?_⟩⟩
  refine h2 g2 σ _ x y p q _ _ s2 (r1 g2 _ p s2 e2 ep) (r2 g2 _ q s2 (Ext.refl _) eq) ez fun v g3 s3 e3 r3 => ?_
  split at hf
  · cases r3
    obtain ⟨rc, ec, hf⟩ := bind_inv hf
    obtain ⟨q', eq', hf⟩ := bind_inv hf
    obtain ⟨w, ew, hf⟩ := bind_inv hf
    obtain ⟨y', ey, hf⟩ := map_inv hf
    cases hf
    refine ⟨true, rfl, ?_⟩
    rw [if_pos rfl]
    refine ⟨g3, rb.2, rc.1, rc.2, rfl, s3, ec, fun u g4 s4 e4 r4 => ?_⟩
    exact h2' g4 σ _ y u q' w _ _ s4 (r2 g4 _ q' s4 (e3.trans e4) eq') (r4 g4 _ w s4 (Ext.refl _) ew) ey fun v g5 s5 e5 r5 => k v g5 s5 ((((e1.trans e2).trans e3).trans e4).trans e5) r5
  · cases r3
    cases hf
    refine ⟨false, rfl, ?_⟩
    rw [if_neg (by decide)]
    exact k _ g3 s3 ((e1.trans e2).trans e3) (.bl false)
  · cases hf
theorem de_chain (ho : OpD X (compareOp op) fo) (ho' : OpD X (compareOp op') fo') (ha : DP X a fa) (hb : DP X b fb) (hc : DP X c fc)
    (hm : lastMarks [op, op'] [b, c] = false := by with_unfolding_all rfl) : DE X (.Compare a [op, op'] [b, c] pos) (dChain fo fo' fa fb fc) := by
  obtain ⟨r, r', h1, h2, h3⟩ := chain_of (fa := fa) (fb := fb) (fc := fc) ho ho'
  exact PE.imp (pe_chain h1 h2 ha hb hc hm) h3
theorem dt_chain (ho : OpD X (compareOp op) fo) (ho' : OpD X (compareOp op') fo') (ha : DP X a fa) (hb : DP X b fb) (hc : DP X c fc)
    (hm : lastMarks [op, op'] [b, c] = false := by with_unfolding_all rfl) : DT X (.Compare a [op, op'] [b, c] pos) (tOf (dChain fo fo' fa fb fc)) := by
  obtain ⟨r, r', h1, h2, h3⟩ := chain_of (fa := fa) (fb := fb) (fc := fc) ho ho'
  refine PT.imp (pt_chain h1 h2 ha hb hc hm) ?_
  rintro σ H Q h
  exact h3 σ H _ (tB_of (fun s b s' => tOf_inv) σ H Q h)
end
/-! ### methods that look -/
def PV.isLst : PV → Bool
  | .lst _ => true
  | _ => false
def dMl (fo : PV → List PV → Option PV) (fr : PF) (f : QFn) : DF := fun s => (fr s).bind fun o => (o.1 o.2).bind fun p0 => if p0.isLst = true then (f o.2).bind fun a => (o.1 a.2).bind fun p => (rdAll a.1 a.2).bind fun qs => (fo p qs).map fun z => (z, a.2) else none
theorem de_ml {X : Cx} {o e : Expr} {es : List Expr} {name : Str} {id : String} {apos cpos : Pos} {fo : PV → List PV → Option PV} {fr : PF} {f : QFn} (pa : PlainAttrs "list") (slot : Slot "list" name id) (hty : typeOf (.builtin id) = pure (.type "method_descriptor"))
    (hm : ∃ r, MtR X id r ∧ ∀ (g : Gh) (σ : L2.St) (s : S) (x : V) (p : PV) (as : List V) (qs : List PV) (z : PV) (Q : VK), Sat X.K g σ s none → Pk X.K g x p → PkA X.K g as qs → fo p qs = some z →
      (∀ v g', Sat X.K g' σ s none → Ext g g' → Rp X.K g'.js g'.F v z → Q v g'.H) → r x as g.H Q)
    (ho : DP X o fr) (ha : DQ X (e :: es) f)
    (hbase : attributeBase o name X.env (eval o X.env) = eval o X.env := by rfl)
    (hfew : ((backTo cpos (starEach (e :: es) X.env)).all (fun x => !x.1) && (backToKw cpos (keywordEach [] X.env)).all (fun x => x.1.isSome)
      && decide ((e :: es).length + ([] : List Keyword).length + (if ([] : List Keyword).isEmpty then 0 else 1) < 30)) = true := by rfl)
    (hline : (apos.endLine == cpos.line) = true := by rfl) (hs : starEach (e :: es) X.env = (false, eval e X.env) :: starEach es X.env := by rfl) (hplain : (backTo cpos (starEach es X.env)).any (·.1) = false := by rfl) :
    DE X (.Call (.Attribute o name apos) (e :: es) [] cpos) (dMl fo fr f) := by
  obtain ⟨r, h1, h2⟩ := hm
  refine PE.imp (pe_bm pa slot hty h1 ho ha hbase hfew hline hs hplain) ?_
  rintro σ H Q ⟨g, s, z, s', rfl, hs, hf, k⟩
  obtain ⟨oo, eo, hf⟩ := bind_inv hf
  obtain ⟨p0, ep0, hf⟩ := bind_inv hf
  split at hf
  · rename_i hl
    obtain ⟨a, ea, hf⟩ := bind_inv hf
    obtain ⟨p, ep, hf⟩ := bind_inv hf
    obtain ⟨qs, eq, hf⟩ := bind_inv hf
    obtain ⟨z', ez, hf⟩ := map_inv hf
    cases hf
    refine ⟨g, s, oo.1, oo.2, rfl, hs, eo, fun x g1 s1 e1 r1 => ⟨?_, g1, oo.2, a.1, a.2, rfl, s1, ea, fun vs g2 s2 e2 r2 => ?_⟩⟩
    · have q := r1 g1 _ p0 s1 (Ext.refl _) ep0
      cases p0 <;> try cases hl
      obtain ⟨l, us, rfl, h, _⟩ := q.lst s1
      exact Or.inl ⟨rfl, us, Or.inl (Or.inl h)⟩
    · exact h2 g2 σ _ x p vs qs _ Q s2 (r1 g2 _ p s2 e2 ep) (r2 g2 _ qs s2 (Ext.refl _) eq) ez fun v g3 s3 e3 r3 => k v g3 s3 ((e1.trans e2).trans e3) r3
  · cases hf
/-- the first place of an equal one -/
def idxP (d : PyData) : List PyData → Nat → Option Nat
  | [], _ => none
  | z :: r, i => if PyData.eqv z d = true then some i else idxP d r (i + 1)
theorem idxP_inv {d : PyData} : ∀ {ds : List PyData} {i j : Nat}, idxP d ds i = some j → ∃ m z, j = i + m ∧ ds[m]? = some z ∧ PyData.eqv z d = true ∧ ∀ (n : Nat) (z' : PyData), n < m → ds[n]? = some z' → PyData.eqv z' d = false
  | [], _, _, h => by cases h
  | z :: r, i, j, h => by
    rw [idxP] at h
    split at h
    · rename_i hz
      cases h
      exact ⟨0, z, rfl, rfl, hz, fun n _ hn => by omega⟩
    · rename_i hz
      obtain ⟨m, z2, rfl, h2, h3, h4⟩ := idxP_inv h
      refine ⟨m + 1, z2, by omega, h2, h3, fun n z' hn e => ?_⟩
      cases n with
      | zero =>
        cases e
        simpa using hz
      | succ n => exact h4 n z' (by omega) e
def lIndex (p : PV) (qs : List PV) : Option PV := match p.dat, qs with
  | some (.list ds), [q] => q.dat.bind fun d => if SeqAt.shaped (.list ds) = true ∧ SeqAt.shaped d = true then (idxP d ds 0).map fun j => .int (j : Nat) else none
  | _, _ => none
theorem lIndexD {X : Cx} (hu : X.A.units + 65 < cLine) : ∃ r, MtR X "list.index" r ∧ ∀ (g : Gh) (σ : L2.St) (s : S) (x : V) (p : PV) (as : List V) (qs : List PV) (z : PV) (Q : VK), Sat X.K g σ s none → Pk X.K g x p → PkA X.K g as qs → lIndex p qs = some z →
      (∀ v g', Sat X.K g' σ s none → Ext g g' → Rp X.K g'.js g'.F v z → Q v g'.H) → r x as g.H Q := ⟨_, mt_indexD hu, fun g σ s x p as qs z Q hs hx ha hf k => by
  unfold lIndex at hf
  split at hf
  · rename_i ds q hd
    obtain ⟨d, hq, hf⟩ := bind_inv hf
    split at hf
    · rename_i hh
      obtain ⟨j, hj, rfl⟩ := map_inv hf
      obtain ⟨y, rfl, hy⟩ := ha.one
      obtain ⟨m, z2, e1, h2, h3, h4⟩ := idxP_inv hj
      have hxd := (hx.inH hs).dp hd
      have : ∃ a, x = .ref a := by
        cases hxd
        exact ⟨_, rfl⟩
      obtain ⟨a, rfl⟩ := this
      have e1 : j = m := by omega
      subst e1
      exact ⟨a, y, d, ds, j, z2, rfl, rfl, hxd, (hy.inH hs).dp hq, hh.1, hh.2, h2, h3, h4, k _ g hs (Ext.refl g) (.int _)⟩
    · cases hf
  · cases hf⟩
/-! ### list(range(..)) -/
def rgOk (a b : Int) : Bool := decide (-100000 ≤ a ∧ a ≤ 100000 ∧ -100000 ≤ b ∧ b ≤ 100000)
def mRg1 (f : DF) : OF := fun s => (f s).bind fun a => match a.1 with
  | .int n => if rgOk 0 n = true then some (.mlst (rngP 0 n.toNat), a.2) else none
  | _ => none
def mRg2 (f f2 : DF) : OF := fun s => (f s).bind fun a => (f2 a.2).bind fun b => match a.1, b.1 with
  | .int i, .int j => if rgOk i j = true then some (.mlst (rngP i (j - i).toNat), b.2) else none
  | _, _ => none
theorem rng_rp {K : PySem.W.Frag} {js : List Addr} {F : Hp} {a b : Int} : RpA K js F (rgV a b) (rngP a (b - a).toNat) := by
  unfold rgV rngP
  generalize List.range (b - a).toNat = l
  induction l with
  | nil => exact .nil
  | cons x l ih => exact .cons (.int _) ih
section
variable {X : Cx} {a b : Expr} {p pos p2 pos2 : Pos} {f f2 : DF}
theorem do_listRg1 (hc : X.calm = true) (hg : Gl X "list") (hm : X.mg "list" = none) (hg2 : Gl X "range") (hm2 : X.mg "range" = none) (ha : DE X a f) (na : starEach [a] X.env = (false, eval a X.env) :: starEach [] X.env := by rfl)
    (nb : starEach [.Call (.Name "range" p2) [a] [] pos2] X.env = (false, eval (.Call (.Name "range" p2) [a] [] pos2) X.env) :: starEach [] X.env := by rfl) : DO X (.Call (.Name "list" p) [.Call (.Name "range" p2) [a] [] pos2] [] pos) (mRg1 f) := by
  refine PE.imp (pe_listRg hc hg hm (prg_1 hg2 hm2 ha na) nb) ?_
  rintro σ H Q ⟨g, s, z, s', rfl, hs, hf, k⟩
  obtain ⟨x, hx, hf⟩ := bind_inv hf
  obtain ⟨q, s1⟩ := x
  refine ⟨g, s, q, s1, rfl, hs, hx, fun v g1 h1 e1 r1 => ?_⟩
  split at hf
  · rename_i n hq
    cases hq
    split at hf
    · rename_i hok
      cases hf
      cases r1
      have ok : -100000 ≤ (0 : Int) ∧ (0 : Int) ≤ 100000 ∧ -100000 ≤ n ∧ n ≤ 100000 := of_decide_eq_true hok
      refine ⟨n, rfl, ⟨by omega, by omega, by omega, by omega, by omega⟩, new_lstO h1 ?_ fun v g2 h2 e2 => k v g2 h2 (e1.trans e2)⟩
      have := rng_rp (K := X.K) (js := g1.js) (F := g1.F) (a := 0) (b := n)
      rwa [Int.sub_zero] at this
    · cases hf
  · cases hf
theorem do_listRg2 (hc : X.calm = true) (hg : Gl X "list") (hm : X.mg "list" = none) (hg2 : Gl X "range") (hm2 : X.mg "range" = none) (ha : DE X a f) (hb : DE X b f2) (na : starEach [a, b] X.env = (false, eval a X.env) :: starEach [b] X.env := by rfl)
    (n2 : starEach [b] X.env = (false, eval b X.env) :: starEach [] X.env := by rfl) (hp : (backTo pos2 (starEach [b] X.env)).any (·.1) = false := by rfl)
    (nb : starEach [.Call (.Name "range" p2) [a, b] [] pos2] X.env = (false, eval (.Call (.Name "range" p2) [a, b] [] pos2) X.env) :: starEach [] X.env := by rfl) : DO X (.Call (.Name "list" p) [.Call (.Name "range" p2) [a, b] [] pos2] [] pos) (mRg2 f f2) := by
  refine PE.imp (pe_listRg hc hg hm (prg_2 hg2 hm2 ha hb na n2 hp) nb) ?_
  rintro σ H Q ⟨g, s, z, s', rfl, hs, hf, k⟩
  obtain ⟨x, hx, hf⟩ := bind_inv hf
  obtain ⟨y, hy, hf⟩ := bind_inv hf
  obtain ⟨q, s1⟩ := x
  obtain ⟨q2, s2⟩ := y
  refine ⟨g, s, q, s1, rfl, hs, hx, fun v g1 h1 e1 r1 => ⟨g1, s1, q2, s2, rfl, h1, hy, fun u g2 h2 e2 r2 => ?_⟩⟩
  split at hf
  · rename_i i j hq hq2
    cases hq
    cases hq2
    split at hf
    · rename_i hok
      cases hf
      cases r1
      cases r2
      have ok : -100000 ≤ i ∧ i ≤ 100000 ∧ -100000 ≤ j ∧ j ≤ 100000 := of_decide_eq_true hok
      exact ⟨i, j, rfl, rfl, ⟨by omega, by omega, by omega, by omega, by omega⟩, new_lstO h2 rng_rp fun v g3 h3 e3 => k v g3 h3 ((e1.trans e2).trans e3)⟩
    · cases hf
  · cases hf
end
/-! ### constants of the module -/
theorem de_gInt {X : Cx} {x : Str} {pos : Pos} {i : Int} (hg : Gl X x) (hm : ∃ t, X.mg x = some (.int i t)) (hd : (x == ("__debug__" : Str)) = false := by decide) : DE X (.Name x pos) (dC (.int i)) := de_const (GG.pe_gInt hg hm hd) fun _ _ _ => .int i
theorem de_gStr {X : Cx} {x z : Str} {pos : Pos} (hg : Gl X x) (hm : ∃ t, X.mg x = some (.str z t)) (hd : (x == ("__debug__" : Str)) = false := by decide) : DE X (.Name x pos) (dC (.str z)) := de_const (GG.pe_gStr hg hm hd) fun _ _ _ => .str z
theorem de_gTy {X : Cx} {x : Str} {n : String} {pos : Pos} (hg : Gl X x) (hm : X.mg x = none) (hv : bootBuiltins x = some (.type n)) (hn : x ≠ "__name__" := by decide) (hd : (x == ("__debug__" : Str)) = false := by decide) : DE X (.Name x pos) (dC (.ty n)) :=
  de_const (pe_bltn (v := .ty n) hg hm hv rfl hn hd) fun _ _ _ => .ty n
end DD
/-! E13: the rules with their side conditions filled; several owned things at once. -/
namespace DD
open PySem L2 GG PySem.Spec PyProof.Rows
section
variable {X : Cx} {x : Str} {pos p2 pos' apos cpos : Pos} {io : List Nat} {es : List Expr} {kws : List Keyword} {r : AFn} {nm : Option Str} {kpos : Pos} {e : Expr} {fd : DF} {fa : AFn}
theorem dn (i : Nat) (hN : X.N[i]? = some x := by rfl) (hv : Vis X.env.scope x := by first | exact Or.inl rfl | exact Or.inr (Or.inl rfl) | exact Or.inr (Or.inr rfl)) (hd : (x == ("__debug__" : Str)) = false := by decide) (hcd : (x == ("__classdict__" : Str)) = false := by decide) :
    DE X (.Name x pos) (dVal i) := de_name hN hv hd hcd
theorem pn (i : Nat) (hN : X.N[i]? = some x := by rfl) (hv : Vis X.env.scope x := by first | exact Or.inl rfl | exact Or.inr (Or.inl rfl) | exact Or.inr (Or.inr rfl)) (hd : (x == ("__debug__" : Str)) = false := by decide) (hcd : (x == ("__classdict__" : Str)) = false := by decide) :
    DP X (.Name x pos) (pLate i) := dp_name hN hv hd hcd
theorem rn (i : Nat) (hN : X.N[i]? = some x := by rfl) (hv : Vis X.env.scope x := by first | exact Or.inl rfl | exact Or.inr (Or.inl rfl) | exact Or.inr (Or.inr rfl)) (hd : (x == ("__debug__" : Str)) = false := by decide) (hcd : (x == ("__classdict__" : Str)) = false := by decide) :
    DS X io (.Return (some (.Name x p2)) pos) (sRetNm i) := ds_retNm hN hv hd hcd
theorem an (i : Nat) (hr : DA X es r) (hN : X.N[i]? = some x := by rfl) (hv : Vis X.env.scope x := by first | exact Or.inl rfl | exact Or.inr (Or.inl rfl) | exact Or.inr (Or.inr rfl)) (hd : (x == ("__debug__" : Str)) = false := by decide) (hcd : (x == ("__classdict__" : Str)) = false := by decide)
    (hs : starEach (.Name x pos :: es) X.env = (false, eval (.Name x pos) X.env) :: starEach es X.env := by rfl) : DA X (.Name x pos :: es) (aIo i r) := da_io hN hv hr hd hcd hs
theorem kn (i : Nat) (hr : DK X kws r) (hN : X.N[i]? = some x := by rfl) (hv : Vis X.env.scope x := by first | exact Or.inl rfl | exact Or.inr (Or.inl rfl) | exact Or.inr (Or.inr rfl)) (hd : (x == ("__debug__" : Str)) = false := by decide) (hcd : (x == ("__classdict__" : Str)) = false := by decide) :
    DK X (⟨nm, .Name x pos, kpos⟩ :: kws) (aIo i r) := dk_io hN hv hr hd hcd
theorem gx (j : Nat) {i : Expr} {fi : DF} (hi : DE X i fi) (hN : X.N[j]? = some x := by rfl) (hv : Vis X.env.scope x := by first | exact Or.inl rfl | exact Or.inr (Or.inl rfl) | exact Or.inr (Or.inr rfl)) (hd : (x == ("__debug__" : Str)) = false := by decide) (hcd : (x == ("__classdict__" : Str)) = false := by decide)
    (ha : ∀ v, assign (.Subscript (.Name x p2) i pos) X.env v = (do
      let ov ← holding [v] (eval (.Name x p2) X.env)
      let iv ← holding [v, ov] (eval i X.env)
      standAt pos
      holding [v, ov, iv] (setItem ov iv v)
      release [v, ov, iv] []) := by intro _; rfl) : DG X [] (.Subscript (.Name x p2) i pos) (gIx j fi) := dg_ix hN hv hi hd hcd ha
theorem fs (j : Nat) {C : Addr} {f : Str} {value : Expr} {fv : DF} (hC : Cls X.K C) (hn : NoAttr X.K C f) (he : DE X value fv) (hN : X.N[j]? = some x := by rfl) (hv : Vis X.env.scope x := by first | exact Or.inl rfl | exact Or.inr (Or.inl rfl) | exact Or.inr (Or.inr rfl))
    (hd : (x == ("__debug__" : Str)) = false := by decide) (hcd : (x == ("__classdict__" : Str)) = false := by decide)
    (hs : swapsWith value (some (.Attribute (.Name x p2) f pos')) pos.line X.env = pure false := by rfl) : DS X io (.Assign [.Attribute (.Name x p2) f pos'] value pos) (sFldSet C f j fv) := ds_fld hN hv hC hn he hd hcd hs
theorem mt (j : Nat) {name : Str} {id : String} {fo : List PV → List PV → Option (PV × List PV)} {p : Pos} (pa : PlainAttrs "list") (slot : Slot "list" name id) (hty : typeOf (.builtin id) = pure (.type "method_descriptor")) (hm : MtL X id fo) (ha : DA X (e :: es) fa)
    (hN : X.N[j]? = some x := by rfl) (hv : Vis X.env.scope x := by first | exact Or.inl rfl | exact Or.inr (Or.inl rfl) | exact Or.inr (Or.inr rfl))
    (hd : (x == ("__debug__" : Str)) = false := by decide) (hcd : (x == ("__classdict__" : Str)) = false := by decide)
    (hbase : attributeBase (.Name x p) name X.env (eval (.Name x p) X.env) = eval (.Name x p) X.env := by rfl)
    (hfew : ((backTo cpos (starEach (e :: es) X.env)).all (fun x => !x.1) && (backToKw cpos (keywordEach [] X.env)).all (fun x => x.1.isSome)
      && decide ((e :: es).length + ([] : List Keyword).length + (if ([] : List Keyword).isEmpty then 0 else 1) < 30)) = true := by rfl)
    (hline : (apos.endLine == cpos.line) = true := by rfl) (hs : starEach (e :: es) X.env = (false, eval e X.env) :: starEach es X.env := by rfl) (hplain : (backTo cpos (starEach es X.env)).any (·.1) = false := by rfl) :
    DE X (.Call (.Attribute (.Name x p) name apos) (e :: es) [] cpos) (dMt j fo fa) := de_mt pa slot hty hm hN hv ha hd hcd hbase hfew hline hs hplain
theorem mt0 (j : Nat) {name : Str} {id : String} {fo : List PV → List PV → Option (PV × List PV)} {p : Pos} (pa : PlainAttrs "list") (slot : Slot "list" name id) (hty : typeOf (.builtin id) = pure (.type "method_descriptor")) (hm : MtL X id fo)
    (hN : X.N[j]? = some x := by rfl) (hv : Vis X.env.scope x := by first | exact Or.inl rfl | exact Or.inr (Or.inl rfl) | exact Or.inr (Or.inr rfl))
    (hd : (x == ("__debug__" : Str)) = false := by decide) (hcd : (x == ("__classdict__" : Str)) = false := by decide)
    (hbase : attributeBase (.Name x p) name X.env (eval (.Name x p) X.env) = eval (.Name x p) X.env := by rfl) (hline : (apos.endLine == cpos.line) = true := by rfl) :
    DE X (.Call (.Attribute (.Name x p) name apos) [] [] cpos) (dMt j fo aNil) := de_mt0 pa slot hty hm hN hv hd hcd hbase hline
end
/-! a def by its body, the lengths told apart -/
section
variable {P : Program} {w : World} {K : PySem.W.Frag} {mg : Str → Option Value} {base : Heap} {x qual p v : Str} {st : Stmt} {f : Addr} {fd : FuncData} {N ps : List Str} {k n NN : Nat} {io : List Nat} {fb : SF}
theorem fn_denN (F : Fun K x qual st f fd) (Sc : FnScope N ps (defScope st)) (hn : ps.length = n) (hN : N.length = NN)
    (hb : ∀ (cdv : Value) (A : Around) (out : List Env) (s : Shared) (H : Hp) (E : XK), NoG A → Room k (A.deeper (envOfC qual (defScope st) s.heap.objs.size f cdv)) →
      DSs (cxOf CX0 P w K mg base N qual (defScope st) f cdv A out s H E).nox io (defBody st) fb) : DFn P w K mg base (k + 1) f fd ps (runF n NN io fb) := by
  subst hn hN
  exact fn_den F Sc hb
theorem fn_starN (F : Fun K x qual st f fd) (Sc : FnScope N [p, v] (defScope st))
    (b : ∀ us rest : List Value, us.length = [p].length → bindArgs fd ⟨us ++ rest, []⟩ = (newTuple rest >>= fun t => pure ([p].zip us ++ [(v, t)]))) (hN : N.length = NN)
    (hb : ∀ (cdv : Value) (A : Around) (out : List Env) (s : Shared) (H : Hp) (E : XK), NoG A → Room k (A.deeper (envOfC qual (defScope st) s.heap.objs.size f cdv)) →
      DSs (cxOf CX0 P w K mg base N qual (defScope st) f cdv A out s H E).nox io (defBody st) fb) : FnRG P w K mg base (k + 1) f (spD K (starF 1 (runF 2 NN io fb))) := by
  subst hN
  exact fn_starG F Sc b hb
end
section
variable {X : Cx} {x : Str} {pos p2 pos' apos cpos : Pos} {io : List Nat} {es : List Expr} {kws : List Keyword} {r : AFn} {nm : Option Str} {kpos : Pos} {e : Expr} {fd : DF} {fa : AFn}
/-- a value as something owned -/
def mV (f : DF) : OF := fun s => (f s).map fun a => (.val a.1, a.2)
theorem do_val (h : DE X e fd) : DO X e (mV fd) := by
  refine PE.imp h ?_
  rintro σ H Q ⟨g, s, m, s', rfl, hs, hf, k⟩
  obtain ⟨a, ha, hf⟩ := map_inv hf
  cases hf
  exact ⟨g, s, a.1, a.2, rfl, hs, ha, fun v g1 h1 e1 r1 => k v g1 (h1.regVal r1) e1⟩
end
/-! ### two owned things -/
/-- what is in the register hidden: nobody tells of its objects -/
theorem Sat.hide {K : PySem.W.Frag} {g : Gh} {σ : L2.St} {s : S} {v : V} {m : MV} (h : Sat K g σ s (some (v, m))) :
    ∃ g2, g2.H = g.H ∧ g2.F = g.F ∧ g2.js = g.js ∧ Sat K g2 σ s none ∧ Ext g g2 ∧ (∀ a ∈ g.fp .R, (∀ k, a ∉ g2.fp k) ∧ g2.F a = none ∧ g2.H a ≠ none) := by
  have h1 := h.o.drop (k := .R)
  refine ⟨{ g with fp := setK g.fp .R [] }, rfl, rfl, rfl, ⟨h1.congr fun k => ?_, h.len, h.has, h.jl⟩, Ext.drop, fun a ha => ⟨fun k hk => ?_, h.o.hid .R a ha, h.o.at_ ha⟩⟩
  · cases k <;> rfl
  · have hk : a ∈ setK g.fp .R [] k := hk
    by_cases z : k = .R
    · rw [z, setK_same] at hk
      simp at hk
    · rw [setK_ne z] at hk
      exact z (h.o.dis k .R a hk ha)
theorem hid_ext {g g' : Gh} (e : Ext g g') {fp : List Addr} (h : ∀ a ∈ fp, (∀ k, a ∉ g.fp k) ∧ g.F a = none ∧ g.H a ≠ none) : (∀ a ∈ fp, (∀ k, a ∉ g'.fp k) ∧ g'.F a = none ∧ g'.H a ≠ none) ∧ ∀ a o, a ∈ fp → g.H a = some o → g'.H a = some o := by
  refine ⟨fun a ha => ?_, fun a o ha ho => e.H a o ho (h a ha).1⟩
  obtain ⟨h1, h2, h3⟩ := h a ha
  refine ⟨fun k hk => ?_, ?_, fun z => h3 (e.dom a z)⟩
  · rcases e.fp k a hk with ⟨k', h'⟩ | h'
    · exact h1 k' h'
    · exact h3 h'
  · cases q : g'.F a with
    | none => rfl
    | some o =>
      rcases e.fr a (by rw [q]; simp) with h | ⟨k', h'⟩ | h'
      · exact absurd h2 h
      · exact absurd h' (h1 k')
      · exact absurd h' h3
/-- what was hidden put into a slot -/
theorem Sat.unhide {K : PySem.W.Frag} {g : Gh} {σ : L2.St} {s : S} {r : Option (V × MV)} {i : Nat} {v : V} {m : MV} {fp : List Addr} (h : Sat K g σ s r) (hi : i < s.env.length) (q : RpM K g.js g.F g.H v m fp) (hh : ∀ a ∈ fp, (∀ k, a ∉ g.fp k) ∧ g.F a = none ∧ g.H a ≠ none) :
    Sat K { g with fp := setK g.fp (.L i) fp } (σ.set i (some v)) (s.set i (some m)) r := by
  refine ⟨?_, by simp [S.set, h.len], has_set (o := none) h hi, h.jl⟩
  rw [show ({ g with fp := setK g.fp (.L i) fp } : Gh).js = g.js from rfl, ownS_set hi h.len]
  exact h.o.put q (fun a ha => (hh a ha).2.1) fun a ha k _ => (hh a ha).1 k
def sParO (i j : Nat) (fa fb : OF) : SF := fun s => (fa s).bind fun a => (fb a.2).bind fun b => if i < b.2.env.length ∧ j < b.2.env.length then some (.nx ((b.2.set i (some a.1)).set j (some b.1))) else none
theorem ds_parO {X : Cx} {io : List Nat} {i j : Nat} {x y : Str} {a b : Expr} {px py pt pos : Pos} {kt k2 pt2} {fa fb : OF} (hc : X.calm = true) (hN : X.N.Nodup) (hi : X.N[i]? = some x) (hj : X.N[j]? = some y) (hij : i ≠ j)
    (hx : X.env.scope.names.lookup x = some .local) (hy : X.env.scope.names.lookup y = some .local) (ha : DO X a fa) (hb : DO X b fb)
    (hw : swappedStores [.Tuple [.Name x px, .Name y py] kt pt] (.Tuple [a, b] k2 pt2) X.env = pure (some [x, y]))
    (hd : i ∉ io ∧ j ∉ io := by decide) (h1 : starEach (a :: [b]) X.env = (false, eval a X.env) :: starEach [b] X.env := by rfl) (h2 : starEach (b :: []) X.env = (false, eval b X.env) :: starEach [] X.env := by rfl)
    (hs : swapsWithSole [.Tuple [.Name x px, .Name y py] kt pt] (.Tuple [a, b] k2 pt2) pos.line X.env = pure false := by rfl) :
    DS X io (.Assign [.Tuple [.Name x px, .Name y py] kt pt] (.Tuple [a, b] k2 pt2) pos) (sParO i j fa fb) := by
  refine PS.imp (ps_par hc hN hi hj hij hx hy (pa_cons ha (pa_cons hb pa_nil h2) h1) hw hs) ?_
  rintro D σ H ⟨g, s, o, rfl, hs, hf, k⟩
  obtain ⟨ra, ea, hf⟩ := bind_inv hf
  obtain ⟨rb, eb, hf⟩ := bind_inv hf
  split at hf
  · rename_i hl
    cases hf
    refine ⟨g, s, ra.1, ra.2, rfl, hs, ea, fun v g1 h1 e1 => ?_⟩
    obtain ⟨g2, q1, q2, q3, h2, e2, hid⟩ := h1.hide
    have r1 := h1.o.rep .R v ra.1 rfl
    rw [← q1]
    refine ⟨g2, ra.2, rb.1, rb.2, rfl, h2, eb, fun u g3 h3 e3 => ?_⟩
    obtain ⟨hid3, keep3⟩ := hid_ext e3 hid
    have r3 : RpM X.K g3.js g3.F g3.H v ra.1 (g1.fp .R) := by
      refine r1.keep (fun a o h => e3.F a o (by rw [q2]; exact h)) (by rw [← q3]; exact e3.js) fun a o ha ho => keep3 a o ha (by rw [q1]; exact ho)
    have h4 := h3.unhide (i := i) hl.1 r3 hid3
    obtain ⟨h5, e5⟩ := h4.setR (i := j) (by rw [set_len]; exact hl.2)
    refine ⟨v, u, rfl, k _ { g3 with fp := setK (setK (setK g3.fp (.L i) (g1.fp .R)) .R []) (.L j) ((setK g3.fp (.L i) (g1.fp .R)) .R) } h5 ?_ ((Pin.set hd.1).trans (Pin.set hd.2))⟩
    have e123 := (e1.trans e2).trans e3
    refine ⟨e123.F, e123.H, fun kk a ha => ?_, e123.fr, e123.dom, e123.js⟩
    have up : ∀ kk a, a ∈ setK g3.fp (.L i) (g1.fp .R) kk → (∃ k', a ∈ g.fp k') ∨ g.H a = none := fun kk a ha => by
      by_cases z : kk = .L i
      · rw [z, setK_same] at ha
        exact e1.fp .R a ha
      · rw [setK_ne z] at ha
        exact e123.fp kk a ha
    have ha : a ∈ setK (setK (setK g3.fp (.L i) (g1.fp .R)) .R []) (.L j) ((setK g3.fp (.L i) (g1.fp .R)) .R) kk := ha
    by_cases z : kk = .L j
    · rw [z, setK_same] at ha
      exact up _ a ha
    · rw [setK_ne z] at ha
      by_cases z2 : kk = .R
      · rw [z2, setK_same] at ha
        simp at ha
      · rw [setK_ne z2] at ha
        exact up kk a ha
  · cases hf
/-! ### sorted(set(..)) of ints -/
def insU (x : Int) : List Int → List Int
  | [] => [x]
  | y :: r => if x < y then x :: y :: r else if x = y then y :: r else y :: insU x r
def sortU (ns : List Int) : List Int := ns.foldr insU []
theorem insU_mem {x k : Int} : ∀ {l : List Int}, k ∈ insU x l ↔ k = x ∨ k ∈ l
  | [] => by simp [insU]
  | y :: r => by
    rw [insU]
    split
    · simp
    · split
      · rename_i h
        subst h
        simp
      · have := insU_mem (x := x) (k := k) (l := r)
        simp only [List.mem_cons, this]
        constructor
        · rintro (h | h | h)
          · exact Or.inr (Or.inl h)
          · exact Or.inl h
          · exact Or.inr (Or.inr h)
        · rintro (h | h | h)
          · exact Or.inr (Or.inl h)
          · exact Or.inl h
          · exact Or.inr (Or.inr h)
theorem insU_asc {x : Int} : ∀ {l : List Int}, l.Pairwise (· < ·) → (insU x l).Pairwise (· < ·)
  | [], _ => by simp [insU]
  | y :: r, h => by
    obtain ⟨h1, h2⟩ := List.pairwise_cons.mp h
    rw [insU]
    split
    · rename_i hx
      refine List.pairwise_cons.mpr ⟨fun z hz => ?_, h⟩
      rcases List.mem_cons.mp hz with rfl | hz
      · exact hx
      · exact Int.lt_trans hx (h1 z hz)
    · split
      · exact h
      · rename_i hx hy
        refine List.pairwise_cons.mpr ⟨fun z hz => ?_, insU_asc h2⟩
        rcases insU_mem.mp hz with rfl | hz
        · omega
        · exact h1 z hz
theorem sortU_mem {k : Int} : ∀ {l : List Int}, k ∈ sortU l ↔ k ∈ l
  | [] => by simp [sortU]
  | y :: r => by
    have := sortU_mem (k := k) (l := r)
    unfold sortU at this ⊢
    rw [List.foldr_cons, insU_mem, this, List.mem_cons]
theorem sortU_asc : ∀ {l : List Int}, (sortU l).Pairwise (· < ·)
  | [] => .nil
  | y :: r => insU_asc (sortU_asc (l := r))
theorem asc_eq : ∀ {a b : List Int}, a.Pairwise (· < ·) → b.Pairwise (· < ·) → (∀ k, k ∈ a ↔ k ∈ b) → a = b
  | [], [], _, _, _ => rfl
  | [], y :: b, _, _, h => by
    have := (h y).mpr List.mem_cons_self
    simp at this
  | x :: a, [], _, _, h => by
    have := (h x).mp List.mem_cons_self
    simp at this
  | x :: a, y :: b, ha, hb, h => by
    obtain ⟨a1, a2⟩ := List.pairwise_cons.mp ha
    obtain ⟨b1, b2⟩ := List.pairwise_cons.mp hb
    have hxy : x = y := by
      rcases List.mem_cons.mp ((h x).mp List.mem_cons_self) with e | e
      · exact e
      · rcases List.mem_cons.mp ((h y).mpr List.mem_cons_self) with e' | e'
        · exact e'.symm
        · have := b1 x e
          have := a1 y e'
          omega
    subst hxy
    congr 1
    refine asc_eq a2 b2 fun k => ⟨fun hk => ?_, fun hk => ?_⟩
    · rcases List.mem_cons.mp ((h k).mp (List.mem_cons_of_mem _ hk)) with e | e
      · have := a1 k hk
        omega
      · exact e
    · rcases List.mem_cons.mp ((h k).mpr (List.mem_cons_of_mem _ hk)) with e | e
      · have := b1 k hk
        omega
      · exact e
def mSortU (f : DF) : OF := fun s => (f s).bind fun a => match a.1 with
  | .lst ps => (PV.ints ps).bind fun ns => if ns.length < 64 then some (.mlst ((sortU ns).map .int), a.2) else none
  | _ => none
theorem ints_of {K : PySem.W.Frag} {js : List Addr} {F : Hp} : ∀ ns : List Int, RpA K js F (ns.map V.int) (ns.map PV.int)
  | [] => .nil
  | n :: ns => .cons (.int n) (ints_of ns)
theorem do_sortU {X : Cx} {e : Expr} {f : DF} {p p2 pos pos2 : Pos} (hc : X.calm = true) (hg : Gl X "sorted") (hm : X.mg "sorted" = none) (hg2 : Gl X "set") (hm2 : X.mg "set" = none) (he : DE X e f)
    (h1 : starEach [e] X.env = (false, eval e X.env) :: starEach [] X.env := by rfl) (h2 : starEach [.Call (.Name "set" p2) [e] [] pos2] X.env = (false, eval (.Call (.Name "set" p2) [e] [] pos2) X.env) :: starEach [] X.env := by rfl) :
    DO X (.Call (.Name "sorted" p) [.Call (.Name "set" p2) [e] [] pos2] [] pos) (mSortU f) := by
  have q1 : PE X (.Call (.Name "set" p2) [e] [] pos2) (tCB (GG.rSetLI X.K X.w) (tCons (tD X.K f) tNil)) := pe_callTy (GG.cr_setLI hc) hg2 hm2 (by decide +kernel) (pa_cons he pa_nil h1) (by decide) (by decide) h1 rfl
  refine PE.imp (pe_callB (L2.cr_sortedSet hc) hg hm (by decide +kernel) (pa_cons q1 pa_nil h2) (by decide) (by decide) h2 rfl) ?_
  rintro σ H Q ⟨g, s, z, s', rfl, hs, hf, k⟩
  obtain ⟨x, hx, hf⟩ := bind_inv hf
  obtain ⟨q, s1⟩ := x
  refine ⟨g, s, q, s1, rfl, hs, hx, fun v g1 h1 e1 r1 => ?_⟩
  split at hf
  · rename_i ps hq
    cases hq
    obtain ⟨ns, hn, hf⟩ := bind_inv hf
    split at hf
    · rename_i hl
      cases hf
      cases r1 with
      | lst a1 a2 =>
        obtain rfl := ints_rp a2 hn
        refine ⟨_, ns, rfl, Or.inl (Or.inl (h1.o.sub _ _ a1)), by omega, fun p c np hc2 => ⟨p, _, c, rfl, upd_same, by omega, fun ns' p' asc mem len np' => ?_⟩⟩
        have hns : ns' = sortU ns := asc_eq asc sortU_asc fun k => by rw [mem k, sortU_mem]; simp
        subst hns
        -- the set stands frozen beside
        have e2 := Ext.newF (o := SetO X.w p (fun j => decide (j ∈ ns)) c) h1.o np
        have h2 := h1.newF (o := SetO X.w p (fun j => decide (j ∈ ns)) c) np
        exact new_lstO h2 (ints_of _) (fun v g3 h3 e3 => k v g3 h3 ((e1.trans e2).trans e3)) p' np'
    · cases hf
  · cases hf
end DD
/-! E14: a call that is lent a thing made for it. -/
namespace DD
open PySem L2 GG PySem.Spec PyProof.Rows
section
variable {K : PySem.W.Frag} {g : Gh} {σ : L2.St} {s : S} {v : V} {m : MV}
/-- what was pushed goes -/
theorem Sat.popD {u : V} {r : MV} (h : Sat K g (σ ++ [some v]) s (some (u, r))) :
    ∃ g2, g2.H = g.H ∧ Sat K g2 σ ⟨s.env.take σ.length, s.sto⟩ (some (u, r)) ∧ Ext g g2 := by
  have hl : s.env.length = σ.length + 1 := by
    have := h.len
    simpa using this
  have h1 := h.o.drop (k := .L σ.length)
  refine ⟨{ g with fp := setK g.fp (.L σ.length) [] }, rfl, ⟨h1.congr fun k => ?_, by simp [hl], fun i m' e => ?_, h.jl⟩, ?_⟩
  · cases k with
    | S j => rw [setK_ne (by intro e; cases e)]; rfl
    | R => rw [setK_ne (by intro e; cases e)]; rfl
    | L i =>
      by_cases z : i = σ.length
      · subst z
        rw [setK_same]
        have e1 : (s.env.take σ.length)[σ.length]? = none := List.getElem?_eq_none (by simp; omega)
        simp only [ownS, e1]
      · rw [setK_ne (by intro e; cases e; exact z rfl)]
        by_cases hi : i < σ.length
        · simp only [ownS]
          rw [List.getElem?_take_of_lt hi, List.getElem?_append_left hi]
        · have e1 : (s.env.take σ.length)[i]? = none := List.getElem?_eq_none (by simp; omega)
          have e2 : s.env[i]? = none := List.getElem?_eq_none (by omega)
          simp only [ownS, e1, e2]
  · have e : (s.env.take σ.length)[i]? = some (some m') := e
    have hi : i < σ.length := by
      have := lt_of_get e
      simp at this
      omega
    rw [List.getElem?_take_of_lt hi] at e
    obtain ⟨w, hw⟩ := h.has i m' e
    exact ⟨w, by rw [List.getElem?_append_left hi] at hw; exact hw⟩
  · refine Ext.fps fun k a ha => ?_
    have ha : a ∈ setK g.fp (.L σ.length) [] k := ha
    by_cases z : k = .L σ.length
    · rw [z, setK_same] at ha
      simp at ha
    · rw [setK_ne z] at ha
      exact ⟨k, ha⟩
end
def mFnT (fn : Fn) (fo : OF) : OF := fun s => (fo s).bind fun a => (callF fn [.io a.2.env.length] ⟨a.2.env ++ [some a.1], a.2.sto⟩).bind fun r => some (r.1, ⟨r.2.env.take a.2.env.length, r.2.sto⟩)
theorem tFnT_of {K : PySem.W.Frag} {fn : Fn} {fo : OF} : ∀ σ H Q, tO K (mFnT fn fo) σ H Q → tCallR (spD K fn) (tCons (tO K fo) tNil) σ H Q := by
  rintro σ H Q ⟨g, s, r, s', rfl, hs, hf, k⟩
  obtain ⟨a, ha, hf⟩ := bind_inv hf
  obtain ⟨rr, hc, hf⟩ := bind_inv hf
  obtain ⟨r0, s2⟩ := rr
  cases hf
  refine ⟨g, s, a.1, a.2, rfl, hs, ha, fun v g1 h1 e1 => ?_⟩
  have hlen := h1.len
  obtain ⟨h3, e3⟩ := h1.pushR
  rw [hlen] at hc k
  have hv : AvA K g1.js g1.F (σ ++ [some v]) [v] [.io σ.length] := .io (by simp) .nil
  have z : spD K fn [v] g1.H Q (fun _ _ _ => False) := (call_core (K := K) (fn := fn) (Q := Q) (E := fun _ _ _ => False) h3 hv hc (fun w g4 h4 e4 => by
    obtain ⟨g5, q1, h5, e5⟩ := h4.popD
    rw [← q1]
    exact k w g5 h5 (((e1.trans e3).trans e4).trans e5)) :)
  exact z
theorem do_callT {X : Cx} {k : Nat} {f : Addr} {x : Str} {p pos : Pos} {e : Expr} {fn : Fn} {fo : OF} (F : FnRG X.prog X.w X.K X.mg X.base k f (spD X.K fn)) (hr : Room k X.A) (hg : NoG X.A) (gl : Gl X x) (hm : X.mg x = some (.ref f)) (hk : PySem.W.keepIn X.K (.ref f) = true) (he : DO X e fo)
    (hdb : (x == ("__debug__" : Str)) = false := by decide) (hs : starEach [e] X.env = (false, eval e X.env) :: starEach [] X.env := by rfl) (hpl : (backTo pos (starEach [] X.env)).any (·.1) = false := by rfl) :
    DO X (.Call (.Name x p) [e] [] pos) (mFnT fn fo) := PE.imp (pe_callRG F hr hg gl hm hk (pa_cons he pa_nil hs) hdb hs hpl) tFnT_of
end DD
/-! Ap: the readings at a state (printed by tools/ap.py). -/
namespace DD
open PySem L2 GG PySem.Spec PyProof.Rows
theorem dVal_ap (i : Nat) (s : S) : dVal i s = (match s.env[i]? with
  | some (some (.val p)) => some (p, s)
  | some (some m) => some (m.frz, s.set i (some (.val m.frz)))
  | _ => none) := rfl
theorem dC_ap (p : PV) (s : S) : dC p s = (some (p, s)) := rfl
theorem pLate_ap (i : Nat) (s : S) : pLate i s = (match s.env[i]? with
  | some (some _) => some (fun s' => match s'.env[i]? with
    | some (some m) => some m.frz
    | _ => none, s)
  | _ => none) := rfl
theorem dFrz_ap (f : OF) (s : S) : dFrz f s = ((f s).map fun a => (a.1.frz, a.2)) := rfl
theorem pNow_ap (f : DF) (s : S) : pNow f s = ((f s).map fun a => (fun _ => some a.1, a.2)) := rfl
theorem dOp_ap (fo : PV → PV → Option PV) (fa fb : PF) (s : S) : dOp fo fa fb s = ((fa s).bind fun a => (fb a.2).bind fun b => (a.1 b.2).bind fun p => (b.1 b.2).bind fun q => (fo p q).map fun z => (z, b.2)) := rfl
theorem dUn_ap (fo : PV → Option PV) (fa : PF) (s : S) : dUn fo fa s = ((fa s).bind fun a => (a.1 a.2).bind fun p => (fo p).map fun z => (z, a.2)) := rfl
theorem tCmp_ap (fo : PV → PV → Option PV) (fa fb : PF) (s : S) : tCmp fo fa fb s = ((dOp fo fa fb s).bind fun a => match a.1 with
  | .bl b => some (b, a.2)
  | _ => none) := rfl
theorem tOf_ap (f : DF) (s : S) : tOf f s = ((f s).bind fun a => match a.1 with
  | .bl b => some (b, a.2)
  | _ => none) := rfl
theorem tAnd_ap (fa fb : TF) (s : S) : tAnd fa fb s = ((fa s).bind fun a => if a.1 = true then fb a.2 else some (false, a.2)) := rfl
theorem tOr_ap (fa fb : TF) (s : S) : tOr fa fb s = ((fa s).bind fun a => if a.1 = true then some (true, a.2) else fb a.2) := rfl
theorem tNot_ap (fa : TF) (s : S) : tNot fa s = ((fa s).map fun a => (!a.1, a.2)) := rfl
theorem dAnd_ap (fa fb : DF) (s : S) : dAnd fa fb s = ((fa s).bind fun a => match a.1 with
  | .bl true => fb a.2
  | .bl false => some (.bl false, a.2)
  | _ => none) := rfl
theorem dOr_ap (fa fb : DF) (s : S) : dOr fa fb s = ((fa s).bind fun a => match a.1 with
  | .bl true => some (.bl true, a.2)
  | .bl false => fb a.2
  | _ => none) := rfl
theorem dNot_ap (fa : DF) (s : S) : dNot fa s = ((fa s).bind fun a => match a.1 with
  | .bl b => some (.bl !b, a.2)
  | _ => none) := rfl
theorem dIf_ap (fc : TF) (fa fb : DF) (s : S) : dIf fc fa fb s = ((fc s).bind fun c => if c.1 = true then fa c.2 else fb c.2) := rfl
theorem mOp_ap (fo : PV → PV → Option MV) (fa fb : PF) (s : S) : mOp fo fa fb s = ((fa s).bind fun a => (fb a.2).bind fun b => (a.1 b.2).bind fun p => (b.1 b.2).bind fun q => (fo p q).map fun z => (z, b.2)) := rfl
theorem aNil_ap (s : S) : aNil  s = (some ([], s)) := rfl
theorem aV_ap (f : DF) (r : AFn) (s : S) : aV f r s = ((f s).bind fun a => (r a.2).map fun b => (.pv a.1 :: b.1, b.2)) := rfl
theorem aIo_ap (i : Nat) (r : AFn) (s : S) : aIo i r s = (match s.env[i]? with
  | some (some _) => (r s).map fun b => (.io i :: b.1, b.2)
  | _ => none) := rfl
theorem dTup_ap (f : AFn) (s : S) : dTup f s = ((f s).bind fun a => (AV.pvs a.1).bind fun ps => if ps.length ≤ 100000 then some (.tup ps, a.2) else none) := rfl
theorem mLst_ap (f : AFn) (s : S) : mLst f s = ((f s).bind fun a => (AV.pvs a.1).bind fun ps => if ps.length ≤ 100000 then some (.mlst ps, a.2) else none) := rfl
theorem qNil_ap (s : S) : qNil  s = (some ([], s)) := rfl
theorem qC_ap (f : PF) (r : QFn) (s : S) : qC f r s = ((f s).bind fun a => (r a.2).map fun b => (a.1 :: b.1, b.2)) := rfl
theorem dCall_ap (fo : List PV → Option PV) (f : QFn) (s : S) : dCall fo f s = ((f s).bind fun a => (rdAll a.1 a.2).bind fun ps => (fo ps).map fun z => (z, a.2)) := rfl
theorem mCall_ap (fo : List PV → Option MV) (f : QFn) (s : S) : mCall fo f s = ((f s).bind fun a => (rdAll a.1 a.2).bind fun ps => (fo ps).map fun z => (z, a.2)) := rfl
theorem lNone_ap (s : S) : lNone  s = (some (none, s)) := rfl
theorem lSome_ap (f : DF) (s : S) : lSome f s = ((f s).bind fun a => match a.1 with
  | .int i => some (some i, a.2)
  | _ => none) := rfl
theorem dSlT_ap (fa : PF) (fl fh : LF) (s : S) : dSlT fa fl fh s = ((fa s).bind fun a => (fl a.2).bind fun l => (fh l.2).bind fun h => match a.1 h.2 with
  | some (.tup ps) => some (.tup ((ps.drop (HT.sIx ps.length 0 l.1)).take (HT.sIx ps.length ps.length h.1 - HT.sIx ps.length 0 l.1)), h.2)
  | _ => none) := rfl
theorem mSlL_ap (fa : PF) (fl fh : LF) (s : S) : mSlL fa fl fh s = ((fa s).bind fun a => (fl a.2).bind fun l => (fh l.2).bind fun h => match a.1 h.2 with
  | some (.lst ps) => some (.mlst ((ps.drop (HT.sIx ps.length 0 l.1)).take (HT.sIx ps.length ps.length h.1 - HT.sIx ps.length 0 l.1)), h.2)
  | _ => none) := rfl
theorem dFld_ap (C : Addr) (f : Str) (fa : PF) (s : S) : dFld C f fa s = ((fa s).bind fun a => (a.1 a.2).bind fun p => (oFld C f p).map fun z => (z, a.2)) := rfl
theorem gNm_ap (i : Nat) (p : PV) (s : S) : gNm i p s = (if i < s.env.length then some (s.set i (some (.val p))) else none) := rfl
theorem gsNil_ap (ps : List PV) (s : S) : gsNil  ps s = (match ps with
  | [] => some s
  | _ => none) := rfl
theorem gsC_ap (f : GF) (r : GsF) (ps : List PV) (s : S) : gsC f r ps s = (match ps with
  | p :: qs => (f p s).bind fun s1 => r qs s1
  | _ => none) := rfl
theorem gTp_ap (n : Nat) (f : GsF) (p : PV) (s : S) : gTp n f p s = (match p with
  | .tup ps => if ps.length = n then f ps s else none
  | _ => none) := rfl
theorem gIx_ap (j : Nat) (fi : DF) (p : PV) (s : S) : gIx j fi p s = (match s.env[j]? with
  | some (some _) => (fi s).bind fun a => match a.1, a.2.env[j]? with
    | .int i, some (some (.mlst ps)) => (ixN ps.length i).map fun k => a.2.set j (some (.mlst (ps.set k p)))
    | _, _ => none
  | _ => none) := rfl
theorem sNx_ap (s : S) : sNx  s = (some (.nx s)) := rfl
theorem sSeq_ap (f g : SF) (s : S) : sSeq f g s = ((f s).bind fun o => match o with
  | .nx s' => g s'
  | o => some o) := rfl
theorem sEx_ap (f : DF) (s : S) : sEx f s = ((f s).map fun a => .nx a.2) := rfl
theorem sAsg_ap (f : DF) (g : GF) (s : S) : sAsg f g s = ((f s).bind fun a => (g a.1 a.2).map .nx) := rfl
theorem sSetO_ap (i : Nat) (f : OF) (s : S) : sSetO i f s = ((f s).bind fun a => if i < a.2.env.length then some (.nx (a.2.set i (some a.1))) else none) := rfl
theorem sRet_ap (f : DF) (s : S) : sRet f s = ((f s).map fun a => .rt (.val a.1) a.2) := rfl
theorem sRetO_ap (f : OF) (s : S) : sRetO f s = ((f s).map fun a => .rt a.1 a.2) := rfl
theorem sRetNm_ap (i : Nat) (s : S) : sRetNm i s = (match s.env[i]? with
  | some (some m) => some (.rt m (s.set i none))
  | _ => none) := rfl
theorem sRetN_ap (s : S) : sRetN  s = (some (.rt (.val .non) s)) := rfl
theorem sIf_ap (c : TF) (f g : SF) (s : S) : sIf c f g s = ((c s).bind fun b => if b.1 = true then f b.2 else g b.2) := rfl
theorem sNever_ap (s : S) : sNever  s = (none) := rfl
theorem sBk_ap (s : S) : sBk  s = (some (.bk s)) := rfl
theorem sCt_ap (s : S) : sCt  s = (some (.ct s)) := rfl
theorem gSet2_ap (i j : Nat) (ps : List PV) (s : S) : gSet2 i j ps s = (match ps with
  | [p, q] => if i < s.env.length ∧ j < s.env.length then some ((s.set i (some (.val p))).set j (some (.val q))) else none
  | _ => none) := rfl
theorem gSet3_ap (i j l : Nat) (ps : List PV) (s : S) : gSet3 i j l ps s = (match ps with
  | [p, q, r] => if i < s.env.length ∧ j < s.env.length ∧ l < s.env.length then some (((s.set i (some (.val p))).set j (some (.val q))).set l (some (.val r))) else none
  | _ => none) := rfl
theorem sPar_ap (f : AFn) (gs : GsF) (s : S) : sPar f gs s = ((f s).bind fun a => (AV.pvs a.1).bind fun ps => (gs ps a.2).map .nx) := rfl
theorem iL_ap (f : DF) (s : S) : iL f s = ((f s).bind fun a => match a.1 with
  | .lst ps => some (ps, a.2)
  | .lsk ps => some (ps, a.2)
  | _ => none) := rfl
theorem iT_ap (f : DF) (s : S) : iT f s = ((f s).bind fun a => match a.1 with
  | .tup ps => some (ps, a.2)
  | _ => none) := rfl
theorem iR1_ap (f : AFn) (s : S) : iR1 f s = ((f s).bind fun a => match AV.pvs a.1 with
  | some [.int j] => if -4611686018427387904 ≤ j ∧ j < 4611686018427387904 then some (rngP 0 j.toNat, a.2) else none
  | _ => none) := rfl
theorem iR2_ap (f : AFn) (s : S) : iR2 f s = ((f s).bind fun a => match AV.pvs a.1 with
  | some [.int i, .int j] => if -4611686018427387904 ≤ i ∧ i < 4611686018427387904 ∧ -4611686018427387904 ≤ j ∧ j < 4611686018427387904 then some (rngP i (j - i).toNat, a.2) else none
  | _ => none) := rfl
theorem iEnL_ap (f : AFn) (s : S) : iEnL f s = ((f s).bind fun a => match AV.pvs a.1 with
  | some [.lst ps] => some (enP ps, a.2)
  | _ => none) := rfl
theorem iEnT_ap (f : AFn) (s : S) : iEnT f s = ((f s).bind fun a => match AV.pvs a.1 with
  | some [.tup ps] => some (enP ps, a.2)
  | _ => none) := rfl
theorem iZp_ap (f : AFn) (s : S) : iZp f s = ((f s).bind fun a => match AV.pvs a.1 with
  | some [.lst ps, .lst qs] => some (zipP ps qs, a.2)
  | _ => none) := rfl
theorem iA_ap (f : DF) (s : S) : iA f s = ((f s).bind fun a => a.1.items.map fun ps => (ps, a.2)) := rfl
theorem iEnA_ap (f : AFn) (s : S) : iEnA f s = ((f s).bind fun a => match AV.pvs a.1 with
  | some [.lst ps] => some (enP ps, a.2)
  | some [.tup ps] => some (enP ps, a.2)
  | _ => none) := rfl
theorem sFor_ap (fi : IF) (ft : GF) (fb : SF) (s : S) : sFor fi ft fb s = ((fi s).bind fun a => forS ft fb a.1 a.2) := rfl
theorem mLc_ap (fi : IF) (ft : GF) (tt : TF) (fe : DF) (vs : List Nat) (s : S) : mLc fi ft tt fe vs s = ((fi s).bind fun a => if valAt a.2.env vs = true then (lcS ft tt fe vs a.1 [] (a.2.wipe vs)).map fun r => (.mlst r.1, r.2.rest a.2 vs) else none) := rfl
theorem tTrue_ap (s : S) : tTrue  s = (some (true, s)) := rfl
theorem runF_ap (n N : Nat) (io : List Nat) (body : SF) (ms : List MV) (sto : List MV) : runF n N io body ms sto = (if ms.length = n then (body ⟨ms.map some ++ List.replicate (N - n) none, sto⟩).bind fun o => match o with
    | .rt r s' => (finM io s'.env 0 ms).map fun ms' => (r, ms', s'.sto)
    | .nx s' => (finM io s'.env 0 ms).map fun ms' => (.val .non, ms', s'.sto)
    | _ => none
  else none) := rfl
theorem mFn_ap (fn : Fn) (fa : AFn) (s : S) : mFn fn fa s = ((fa s).bind fun a => callF fn a.1 a.2) := rfl
theorem mMt_ap (C : Addr) (m : Str) (fn : Fn) (fr : DF) (fa : AFn) (s : S) : mMt C m fn fr fa s = ((fr s).bind fun o => if okObj C m o.1 = true then (fa o.2).bind fun a => callF fn (.pv o.1 :: a.1) a.2 else none) := rfl
theorem mFnK_ap (fn : Fn) (n m : Nat) (ix : List Nat) (fa fk : AFn) (s : S) : mFnK fn n m ix fa fk s = ((fa s).bind fun a => (fk a.2).bind fun b => if a.1.length = n ∧ b.1.length = m then callF fn (ix.filterMap fun i => (a.1 ++ b.1)[i]?) b.2 else none) := rfl
theorem mMk_ap (C : Addr) (fn : Fn) (fa : AFn) (s : S) : mMk C fn fa s = ((fa s).bind fun a => (callF fn (.io a.2.env.length :: a.1) ⟨a.2.env ++ [some (.mobj C [] [])], a.2.sto⟩).bind fun r => mkOut r.1 r.2.env[a.2.env.length]? ⟨r.2.env.take a.2.env.length, r.2.sto⟩) := rfl
theorem sFldSet_ap (C : Addr) (f : Str) (j : Nat) (fv : DF) (s : S) : sFldSet C f j fv s = ((fv s).bind fun a => match a.2.env[j]? with
  | some (some (.mobj D fs ps)) => if D = C ∧ fs.length < 1000 then some (.nx (a.2.set j (some (.mobj D (putN f fs) (putP f a.1 fs ps))))) else none
  | _ => none) := rfl
theorem mPr_ap (C : Addr) (fn : Fn) (fr : DF) (s : S) : mPr C fn fr s = ((fr s).bind fun o => if isOf C o.1 = true then callF fn [.pv o.1] o.2 else none) := rfl
theorem starF_ap (n : Nat) (fn : Fn) (ms : List MV) (sto : List MV) : starF n fn ms sto = (if n ≤ ms.length ∧ ms.length ≤ 100000 then (valsM (ms.drop n)).bind fun ps => (fn (ms.take n ++ [MV.val (.tup ps)]) sto).bind fun r => match r.2.1[n]? with
    | some (.val _) => if r.2.1.length = n + 1 then some (r.1, r.2.1.take n ++ ms.drop n, r.2.2) else none
    | _ => none
  else none) := rfl
theorem dChain_ap (fo fo' : PV → PV → Option PV) (fa fb fc : PF) (s : S) : dChain fo fo' fa fb fc s = ((fa s).bind fun a => (fb a.2).bind fun b => (a.1 b.2).bind fun p => (b.1 b.2).bind fun q => (fo p q).bind fun z => match z with
  | .bl true => (fc b.2).bind fun c => (b.1 c.2).bind fun q' => (c.1 c.2).bind fun w => (fo' q' w).map fun y => (y, c.2)
  | .bl false => some (.bl false, b.2)
  | _ => none) := rfl
theorem dMl_ap (fo : PV → List PV → Option PV) (fr : PF) (f : QFn) (s : S) : dMl fo fr f s = ((fr s).bind fun o => (o.1 o.2).bind fun p0 => if p0.isLst = true then (f o.2).bind fun a => (o.1 a.2).bind fun p => (rdAll a.1 a.2).bind fun qs => (fo p qs).map fun z => (z, a.2) else none) := rfl
theorem mRg1_ap (f : DF) (s : S) : mRg1 f s = ((f s).bind fun a => match a.1 with
  | .int n => if rgOk 0 n = true then some (.mlst (rngP 0 n.toNat), a.2) else none
  | _ => none) := rfl
theorem mRg2_ap (f f2 : DF) (s : S) : mRg2 f f2 s = ((f s).bind fun a => (f2 a.2).bind fun b => match a.1, b.1 with
  | .int i, .int j => if rgOk i j = true then some (.mlst (rngP i (j - i).toNat), b.2) else none
  | _, _ => none) := rfl
theorem mV_ap (f : DF) (s : S) : mV f s = ((f s).map fun a => (.val a.1, a.2)) := rfl
theorem sParO_ap (i j : Nat) (fa fb : OF) (s : S) : sParO i j fa fb s = ((fa s).bind fun a => (fb a.2).bind fun b => if i < b.2.env.length ∧ j < b.2.env.length then some (.nx ((b.2.set i (some a.1)).set j (some b.1))) else none) := rfl
theorem mSortU_ap (f : DF) (s : S) : mSortU f s = ((f s).bind fun a => match a.1 with
  | .lst ps => (PV.ints ps).bind fun ns => if ns.length < 64 then some (.mlst ((sortU ns).map .int), a.2) else none
  | _ => none) := rfl
end DD
/-! L1: reckoning with what defs compute: loops, comprehensions, equality of data. -/
namespace DD
open PySem L2 GG
/-! ### loops -/
theorem forS_ind {ft : GF} {fb : SF} {ps : List PV} (P : Nat → S → Prop) : ∀ {s : S}, P 0 s → (∀ (i : Nat) (p : PV) (s : S), ps[i]? = some p → P i s → ∃ s1 s2, ft p s = some s1 ∧ (fb s1 = some (.nx s2) ∨ fb s1 = some (.ct s2)) ∧ P (i + 1) s2) →
    ∃ s', forS ft fb ps s = some (.nx s') ∧ P ps.length s' := by
  induction ps generalizing P with
  | nil => exact fun {s} h0 _ => ⟨s, rfl, h0⟩
  | cons p ps ih =>
    intro s h0 hs
    obtain ⟨s1, s2, e1, e2, h1⟩ := hs 0 p s rfl h0
    obtain ⟨s', e3, h3⟩ := ih (fun i => P (i + 1)) h1 fun i q s e h => hs (i + 1) q s e h
    refine ⟨s', ?_, h3⟩
    rw [forS, e1]
    rcases e2 with e2 | e2 <;> simp [e2, e3]
/-- over items told -/
theorem forS_it {α : Type} {ft : GF} {fb : SF} {xs : List α} {enc : α → PV} (P : Nat → S → Prop) {s : S} (h0 : P 0 s) (hs : ∀ (i : Nat) (x : α) (s : S), xs[i]? = some x → P i s → ∃ s1 s2, ft (enc x) s = some s1 ∧ (fb s1 = some (.nx s2) ∨ fb s1 = some (.ct s2)) ∧ P (i + 1) s2) :
    ∃ s', forS ft fb (xs.map enc) s = some (.nx s') ∧ P xs.length s' := by
  obtain ⟨s', h1, h2⟩ := forS_ind (ps := xs.map enc) P h0 fun i p s e h => by
    rw [List.getElem?_map] at e
    obtain ⟨x, hx, rfl⟩ := map_inv e
    exact hs i x s hx h
  exact ⟨s', h1, by simpa using h2⟩
/-- a loop that computes: the state behind each turn is told -/
theorem forS_eq {α : Type} {ft : GF} {fb : SF} {xs : List α} {enc : α → PV} {β : Type} (st : β → S) (f : β → α → β) (hs : ∀ (x : α) (b : β), x ∈ xs → ∃ s1, ft (enc x) (st b) = some s1 ∧ (fb s1 = some (.nx (st (f b x))) ∨ fb s1 = some (.ct (st (f b x))))) :
    ∀ b, forS ft fb (xs.map enc) (st b) = some (.nx (st (xs.foldl f b))) := by
  induction xs with
  | nil => exact fun _ => rfl
  | cons x xs ih =>
    intro b
    obtain ⟨s1, e1, e2⟩ := hs x b List.mem_cons_self
    have := ih (fun y b h => hs y b (List.mem_cons_of_mem _ h)) (f b x)
    rw [List.map_cons, forS, e1]
    rcases e2 with e2 | e2 <;> simp [e2, this]
/-! ### comprehensions -/
theorem lcS_ind {ft : GF} {tt : TF} {fe : DF} {vs : List Nat} {ps : List PV} (P : Nat → List PV → S → Prop) : ∀ {acc : List PV} {s : S}, acc.length + ps.length < 100000 → P 0 acc s →
    (∀ (i : Nat) (p : PV) (acc : List PV) (s : S), ps[i]? = some p → P i acc s → ∃ s1 b s2, ft p s = some s1 ∧ tt s1 = some (b, s2) ∧
      (b = true → ∃ q s3, fe s2 = some (q, s3) ∧ valAt s3.env vs = true ∧ P (i + 1) (acc ++ [q]) (s3.wipe vs)) ∧ (b = false → valAt s2.env vs = true ∧ P (i + 1) acc (s2.wipe vs))) →
    ∃ acc' s', lcS ft tt fe vs ps acc s = some (acc', s') ∧ P ps.length acc' s' ∧ acc'.length ≤ acc.length + ps.length := by
  induction ps generalizing P with
  | nil => exact fun {acc s} _ h0 _ => ⟨acc, s, rfl, h0, by simp⟩
  | cons p ps ih =>
    intro acc s hl h0 hs
    simp only [List.length_cons] at hl
    obtain ⟨s1, b, s2, e1, e2, e3, e4⟩ := hs 0 p acc s rfl h0
    rw [lcS, e1, Option.bind_some, e2, Option.bind_some]
    cases b with
    | true =>
      obtain ⟨q, s3, e5, e6, h1⟩ := e3 rfl
      obtain ⟨acc', s', e7, h2, h3⟩ := ih (fun i => P (i + 1)) (acc := acc ++ [q]) (s := s3.wipe vs) (by simp; omega) h1 fun i q a s e h => hs (i + 1) q a s e h
      refine ⟨acc', s', ?_, h2, by simp at h3 ⊢; omega⟩
      simp only [if_true, e5, Option.bind_some]
      rw [if_pos ⟨by omega, e6⟩]
      exact e7
    | false =>
      obtain ⟨e6, h1⟩ := e4 rfl
      obtain ⟨acc', s', e7, h2, h3⟩ := ih (fun i => P (i + 1)) (acc := acc) (s := s2.wipe vs) (by omega) h1 fun i q a s e h => hs (i + 1) q a s e h
      refine ⟨acc', s', ?_, h2, by simp; omega⟩
      simp only [Bool.false_eq_true, if_false]
      rw [if_pos e6]
      exact e7
/-- a comprehension that leaves the state as it is -/
theorem lcS_pick {α : Type} {ft : GF} {tt : TF} {fe : DF} {vs : List Nat} {xs : List α} {enc : α → PV} {s : S} (f : α → Option PV)
    (hs : ∀ x ∈ xs, ∃ s1 b s2, ft (enc x) s = some s1 ∧ tt s1 = some (b, s2) ∧ (b = true → ∃ q s3, f x = some q ∧ fe s2 = some (q, s3) ∧ valAt s3.env vs = true ∧ s3.wipe vs = s) ∧ (b = false → f x = none ∧ valAt s2.env vs = true ∧ s2.wipe vs = s)) :
    ∀ acc : List PV, acc.length + xs.length < 100000 → lcS ft tt fe vs (xs.map enc) acc s = some (acc ++ xs.filterMap f, s) := by
  induction xs with
  | nil => exact fun acc _ => by simp [lcS]
  | cons x xs ih =>
    intro acc hl
    simp only [List.length_cons] at hl
    obtain ⟨s1, b, s2, e1, e2, e3, e4⟩ := hs x List.mem_cons_self
    have ih := ih fun y h => hs y (List.mem_cons_of_mem _ h)
    rw [List.map_cons, lcS, e1, Option.bind_some, e2, Option.bind_some]
    cases b with
    | true =>
      obtain ⟨q, s3, e5, e6, e7, e8⟩ := e3 rfl
      simp only [if_true, e6, Option.bind_some]
      rw [if_pos ⟨by omega, e7⟩, e8, ih _ (by simp; omega), List.filterMap_cons, e5]
      simp
    | false =>
      obtain ⟨e5, e7, e8⟩ := e4 rfl
      simp only [Bool.false_eq_true, if_false]
      rw [if_pos e7, e8, ih _ (by omega), List.filterMap_cons, e5]
theorem lcS_map {α : Type} {ft : GF} {fe : DF} {vs : List Nat} {xs : List α} {enc : α → PV} {s : S} (f : α → PV)
    (hs : ∀ x ∈ xs, ∃ s1 s3, ft (enc x) s = some s1 ∧ fe s1 = some (f x, s3) ∧ valAt s3.env vs = true ∧ s3.wipe vs = s) (hl : xs.length < 100000) :
    lcS ft tTrue fe vs (xs.map enc) [] s = some (xs.map f, s) := by
  have := lcS_pick (tt := tTrue) (fe := fe) (ft := ft) (vs := vs) (xs := xs) (enc := enc) (s := s) (fun x => some (f x)) (fun x hx => by
    obtain ⟨s1, s3, e1, e2, e3, e4⟩ := hs x hx
    exact ⟨s1, true, s1, e1, rfl, fun _ => ⟨_, s3, rfl, e2, e3, e4⟩, fun h => by cases h⟩) [] (by simpa using hl)
  simpa using this
/-! ### texts -/
theorem chars_inj : ∀ {a b : List Char}, a.map Char.toNat = b.map Char.toNat → a = b
  | [], [], _ => rfl
  | [], _ :: _, h => by simp at h
  | _ :: _, [], h => by simp at h
  | x :: a, y :: b, h => by
    rw [List.map_cons, List.map_cons, List.cons.injEq] at h
    have hx : x = y := Char.ext (UInt32.toNat_inj.mp h.1)
    rw [hx, chars_inj h.2]
theorem ofStr_inj {a b : String} (h : Str.ofString a = Str.ofString b) : a = b := by
  rw [Str.ofString_eq_toList, Str.ofString_eq_toList] at h
  have h1 := congrArg (fun s : Str => s.cps.toList) h
  exact String.toList_inj.mp (chars_inj (by simpa using h1))
theorem ofStr_beq {a b : String} : (Str.ofString a == Str.ofString b) = decide (a = b) := by
  by_cases h : a = b
  · simp [h]
  · have : Str.ofString a ≠ Str.ofString b := fun e => h (ofStr_inj e)
    simp [h, this]
theorem ofStr_eq {a b : String} : (Str.ofString a = Str.ofString b) = (a = b) := by
  by_cases h : a = b
  · simp [h]
  · have : Str.ofString a ≠ Str.ofString b := fun e => h (ofStr_inj e)
    simp [h, this]
/-! ### ints as data -/
def PV.is (ns : List Int) : List PV := ns.map .int
theorem datA_ints : ∀ ns : List Int, PV.datA (ns.map .int) = some (ns.map .int)
  | [] => rfl
  | n :: ns => by
    rw [List.map_cons, PV.datA, datA_ints ns]
    rfl
theorem flats_ints : ∀ ns : List Int, PV.flats (ns.map .int) = some (ns.map .int)
  | [] => rfl
  | n :: ns => by
    rw [List.map_cons, PV.flats, flats_ints ns]
    rfl
theorem bls_bools : ∀ bs : List Bool, PV.bls (bs.map .bl) = some bs
  | [] => rfl
  | n :: ns => by
    rw [List.map_cons, PV.bls, bls_bools ns]
    rfl
theorem ints_ints : ∀ ns : List Int, PV.ints (ns.map .int) = some ns
  | [] => rfl
  | n :: ns => by
    rw [List.map_cons, PV.ints, ints_ints ns]
    rfl
theorem eqP_int {a b : Int} : eqP (.int a) (.int b) = some (decide (a = b)) := by
  have h : PyData.eqv (.int a) (.int b) = decide (a = b) := by simp [PyData.eqv]; rfl
  simp only [eqP, PV.dat]
  rw [h]
  rfl
theorem eqP_bl {a b : Bool} : eqP (.bl a) (.bl b) = some (decide (a = b)) := by
  cases a <;> cases b <;> rfl
theorem eqP_tup {a b : List Int} : eqP (.tup (a.map .int)) (.tup (b.map .int)) = some (decide (a = b)) := by
  simp only [eqP, PV.dat, datA_ints, Option.map_some]
  rw [if_pos ⟨dI_tup a, dI_tup b⟩, PyData.eqv]
  exact congrArg some (dI_eqv a b)
theorem eqP_lst {a b : List Int} : eqP (.lst (a.map .int)) (.lst (b.map .int)) = some (decide (a = b)) := by
  simp only [eqP, PV.dat, datA_ints, Option.map_some]
  rw [if_pos ⟨dI_list a, dI_list b⟩, PyData.eqv]
  exact congrArg some (dI_eqv a b)
theorem any_ints {c : Int} : ∀ ns : List Int, ((ns.map PyData.int).any fun z => PyData.eqv z (.int c)) = decide (c ∈ ns)
  | [] => by simp
  | n :: ns => by
    rw [List.map_cons, List.any_cons, any_ints ns]
    have h : PyData.eqv (.int n) (.int c) = decide (n = c) := by simp [PyData.eqv]; rfl
    rw [h, Bool.eq_iff_iff]
    simp only [Bool.or_eq_true, decide_eq_true_eq, List.mem_cons]
    exact ⟨fun z => z.imp Eq.symm id, fun z => z.imp Eq.symm id⟩
theorem inP_ints {c : Int} {ns : List Int} : inP (.int c) (.lst (ns.map .int)) = some (decide (c ∈ ns)) := by
  simp only [inP, PV.dat, datA_ints, Option.map_some]
  rw [if_pos ⟨rfl, dI_list ns⟩, any_ints]
theorem inF_tup {c : Int} {ns : List Int} : inF (.int c) (.tup (ns.map .int)) = some (decide (c ∈ ns)) := by
  simp only [inF, PV.flat, PV.items, Option.bind_some, flats_ints]
  rw [inV_ints]
theorem inF_lst {c : Int} {ns : List Int} : inF (.int c) (.lst (ns.map .int)) = some (decide (c ∈ ns)) := by
  simp only [inF, PV.flat, PV.items, Option.bind_some, flats_ints]
  rw [inV_ints]
theorem idxP_ints {c : Int} : ∀ (ns : List Int) (i : Nat), c ∈ ns → idxP (.int c) (ns.map .int) i = some (i + ns.idxOf c)
  | [], _, h => by simp at h
  | n :: ns, i, h => by
    have e : PyData.eqv (.int n) (.int c) = decide (n = c) := by simp [PyData.eqv]; rfl
    rw [List.map_cons, idxP, e]
    by_cases hn : n = c
    · simp [hn]
    · have h2 : c ∈ ns := by
        rcases List.mem_cons.mp h with h | h
        · exact absurd h.symm hn
        · exact h
      rw [if_neg (by simpa using hn), idxP_ints ns (i + 1) h2, List.idxOf_cons]
      have : (n == c) = false := by simpa using hn
      rw [this]
      simp
      omega
theorem lIndex_ints {c : Int} {ns : List Int} (h : c ∈ ns) : lIndex (.lst (ns.map .int)) [.int c] = some (.int (ns.idxOf c : Nat)) := by
  simp only [lIndex, PV.dat, datA_ints, Option.map_some, Option.bind_some]
  rw [if_pos ⟨dI_list ns, rfl⟩, idxP_ints ns 0 h]
  simp
end DD
/-! L3: step by step through what a def computes. -/
namespace DD
open PySem L2 GG
variable {α : Type}
theorem mFnT_ap (fn : Fn) (fo : OF) (s : S) : mFnT fn fo s = ((fo s).bind fun a => (callF fn [.io a.2.env.length] ⟨a.2.env ++ [some a.1], a.2.sto⟩).bind fun r => some (r.1, ⟨r.2.env.take a.2.env.length, r.2.sto⟩)) := rfl
theorem oIxA_c {p : PV} {i : Int} : oIxA p (.int i) = p.items.bind fun ps => atI ps i := by
  unfold oIxA
  cases p.items <;> rfl
theorem oI_c {f : Int → Int → PV} {i j : Int} : oI f (.int i) (.int j) = some (f i j) := rfl
theorem oIc_c {c : Int → Int → Bool} {f : Int → Int → PV} {i j : Int} : oIc c f (.int i) (.int j) = if c i j = true then some (f i j) else none := rfl
theorem lAppend_c {ps : List PV} {q : PV} : lAppend ps [q] = if ps.length < 100000 then some (.non, ps ++ [q]) else none := rfl
theorem mkOut_c {m : MV} {s : S} : mkOut (.val .non) (some (some m)) s = some (m, s) := rfl
theorem atI_map {β γ : Type} (f : β → γ) {xs : List β} {i : Int} : atI (xs.map f) i = (atI xs i).map f := by
  unfold atI
  rw [List.length_map]
  cases ixN xs.length i with
  | none => rfl
  | some k => simp
theorem atI_nn {β : Type} {xs : List β} {i : Int} (h0 : 0 ≤ i) : atI xs i = xs[i.toNat]? := by
  unfold atI
  unfold ixN
  rw [if_pos h0]
  by_cases h : i < xs.length
  · rw [if_pos h]
    rfl
  · rw [if_neg h]
    exact (List.getElem?_eq_none (by omega)).symm
theorem getElem?_nat {β : Type} {xs : List β} {k : Nat} : atI xs (k : Int) = xs[k]? := by rw [atI_nn (by omega)]; rfl
theorem seq_nx {a b : SF} {s s1 : S} {r : Option Out} (h : a s = some (.nx s1)) (k : b s1 = r) : sSeq a b s = r := by
  rw [sSeq_ap, h]
  exact k
theorem seq_rt {a b : SF} {s s1 : S} {m : MV} (h : a s = some (.rt m s1)) : sSeq a b s = some (.rt m s1) := by
  rw [sSeq_ap, h]
  rfl
/-- one turn of a loop -/
def turn (ft : GF) (fb : SF) (p : PV) (s : S) : Option S := (ft p s).bind fun s1 => (fb s1).bind fun o => match o with
  | .nx s2 => some s2
  | .ct s2 => some s2
  | _ => none
theorem turn_ap {ft : GF} {fb : SF} {p : PV} {s : S} : turn ft fb p s = (ft p s).bind fun s1 => (fb s1).bind fun o => match o with
  | .nx s2 => some s2
  | .ct s2 => some s2
  | _ => none := rfl
theorem turn_inv {ft : GF} {fb : SF} {p : PV} {s s2 : S} (h : turn ft fb p s = some s2) : ∃ s1, ft p s = some s1 ∧ (fb s1 = some (.nx s2) ∨ fb s1 = some (.ct s2)) := by
  obtain ⟨s1, h1, h⟩ := bind_inv h
  obtain ⟨o, h2, h⟩ := bind_inv h
  refine ⟨s1, h1, ?_⟩
  cases o <;> cases h
  · exact .inl h2
  · exact .inr h2
/-- a loop, whose turns keep P -/
theorem for_ex {fi : IF} {ft : GF} {fb : SF} {s s0 : S} {xs : List α} {enc : α → PV} (P : Nat → S → Prop) (hi : fi s = some (xs.map enc, s0)) (h0 : P 0 s0)
    (hs : ∀ (i : Nat) (x : α) (s : S), xs[i]? = some x → P i s → ∃ s2, turn ft fb (enc x) s = some s2 ∧ P (i + 1) s2) : ∃ s', sFor fi ft fb s = some (.nx s') ∧ P xs.length s' := by
  rw [sFor_ap, hi]
  refine forS_it P h0 fun i x s h1 h2 => ?_
  obtain ⟨s2, h3, h4⟩ := hs i x s h1 h2
  obtain ⟨s1, h5, h6⟩ := turn_inv h3
  exact ⟨s1, s2, h5, h6, h4⟩
theorem for_bind {γ : Type} {fi : IF} {ft : GF} {fb : SF} {s s0 : S} {k : Out → Option γ} {r : Option γ} (xs : List α) (enc : α → PV) (P : Nat → S → Prop) (hi : fi s = some (xs.map enc, s0)) (h0 : P 0 s0)
    (hs : ∀ (i : Nat) (x : α) (s : S), xs[i]? = some x → P i s → ∃ s2, turn ft fb (enc x) s = some s2 ∧ P (i + 1) s2) (hd : ∀ s', P xs.length s' → k (.nx s') = r) : (sFor fi ft fb s).bind k = r := by
  obtain ⟨s', h1, h2⟩ := for_ex P hi h0 hs
  rw [h1]
  exact hd s' h2
/-- a loop within a turn, or anything that is left behind it -/
theorem for_bindE {γ : Type} {fi : IF} {ft : GF} {fb : SF} {s s0 : S} {k : Out → Option γ} {R : γ → Prop} (xs : List α) (enc : α → PV) (P : Nat → S → Prop) (hi : fi s = some (xs.map enc, s0)) (h0 : P 0 s0)
    (hs : ∀ (i : Nat) (x : α) (s : S), xs[i]? = some x → P i s → ∃ s2, turn ft fb (enc x) s = some s2 ∧ P (i + 1) s2) (hd : ∀ s', P xs.length s' → ∃ r, k (.nx s') = some r ∧ R r) : ∃ r, (sFor fi ft fb s).bind k = some r ∧ R r := by
  obtain ⟨s', h1, h2⟩ := for_ex P hi h0 hs
  rw [h1]
  exact hd s' h2
theorem take_succ {β : Type} {xs : List β} {i : Nat} {x : β} (h : xs[i]? = some x) : xs.take (i + 1) = xs.take i ++ [x] := by
  rw [List.take_succ, h]
  rfl
/-- one turn of a comprehension -/
def lcT (ft : GF) (tt : TF) (fe : DF) (vs : List Nat) (p : PV) (s : S) : Option (Option PV × S) := (ft p s).bind fun s1 => (tt s1).bind fun b => if b.1 = true then (fe b.2).bind fun q => if valAt q.2.env vs = true then some (some q.1, q.2.wipe vs) else none
  else if valAt b.2.env vs = true then some (none, b.2.wipe vs) else none
theorem lcT_ap {ft : GF} {tt : TF} {fe : DF} {vs : List Nat} {p : PV} {s : S} : lcT ft tt fe vs p s = (ft p s).bind fun s1 => (tt s1).bind fun b => if b.1 = true then (fe b.2).bind fun q => if valAt q.2.env vs = true then some (some q.1, q.2.wipe vs) else none
  else if valAt b.2.env vs = true then some (none, b.2.wipe vs) else none := rfl
theorem lcT_inv {ft : GF} {tt : TF} {fe : DF} {vs : List Nat} {p : PV} {s s' : S} {r : Option PV} (h : lcT ft tt fe vs p s = some (r, s')) :
    ∃ s1 b s2, ft p s = some s1 ∧ tt s1 = some (b, s2) ∧ (b = true → ∃ q s3, r = some q ∧ fe s2 = some (q, s3) ∧ valAt s3.env vs = true ∧ s3.wipe vs = s') ∧ (b = false → r = none ∧ valAt s2.env vs = true ∧ s2.wipe vs = s') := by
  obtain ⟨s1, h1, h⟩ := bind_inv h
  obtain ⟨⟨b, s2⟩, h2, h⟩ := bind_inv h
  refine ⟨s1, b, s2, h1, h2, ?_, ?_⟩
  · rintro rfl
    rw [if_pos rfl] at h
    obtain ⟨⟨q, s3⟩, h3, h⟩ := bind_inv h
    split at h
    · rename_i hv
      cases h
      exact ⟨q, s3, rfl, h3, hv, rfl⟩
    · cases h
  · rintro rfl
    rw [if_neg (by simp)] at h
    split at h
    · rename_i hv
      cases h
      exact ⟨rfl, hv, rfl⟩
    · cases h
/-- a comprehension that leaves the state as it is -/
theorem lc_pick {fi : IF} {ft : GF} {tt : TF} {fe : DF} {vs : List Nat} {s s1 : S} (xs : List α) (enc : α → PV) (f : α → Option PV) (hi : fi s = some (xs.map enc, s1)) (hv : valAt s1.env vs = true) (hl : xs.length < 100000)
    (hs : ∀ x ∈ xs, lcT ft tt fe vs (enc x) (s1.wipe vs) = some (f x, s1.wipe vs)) :
    mLc fi ft tt fe vs s = some (.mlst (xs.filterMap f), (s1.wipe vs).rest s1 vs) := by
  rw [mLc_ap, hi, Option.bind_some]
  rw [if_pos hv, lcS_pick f (fun x hx => lcT_inv (hs x hx)) [] (by simpa using hl)]
  rfl
theorem lc_map {fi : IF} {ft : GF} {tt : TF} {fe : DF} {vs : List Nat} {s s1 : S} (xs : List α) (enc : α → PV) (f : α → PV) (hi : fi s = some (xs.map enc, s1)) (hv : valAt s1.env vs = true) (hl : xs.length < 100000)
    (hs : ∀ x ∈ xs, lcT ft tt fe vs (enc x) (s1.wipe vs) = some (some (f x), s1.wipe vs)) :
    mLc fi ft tt fe vs s = some (.mlst (xs.map f), (s1.wipe vs).rest s1 vs) := by
  rw [lc_pick xs enc (fun x => some (f x)) hi hv hl hs, List.filterMap_eq_map']
theorem all_tt {β : Type} {l : List β} : (l.all fun _ => true) = true := by simp
theorem atI_0 {β : Type} {x : β} {xs : List β} : atI (x :: xs) 0 = some x := by
  rw [atI_nn (by decide)]
  rfl
theorem atI_1 {β : Type} {x y : β} {xs : List β} : atI (x :: y :: xs) 1 = some y := by
  rw [atI_nn (by decide)]
  rfl
theorem ixN_ok {n : Nat} {i : Int} (h0 : 0 ≤ i) (h1 : i < n) : ixN n i = some i.toNat := by
  unfold ixN
  rw [if_pos h0, if_pos h1]
theorem rngP_0 {n : Nat} : rngP 0 n = (List.range n).map fun k : Nat => PV.int (k : Int) := by
  unfold rngP
  simp
theorem rngP_a {a : Int} {n : Nat} : rngP a n = ((List.range n).map fun k : Nat => a + (k : Int)).map .int := by
  unfold rngP
  rw [List.map_map]
  rfl
theorem bls_map {β : Type} {f : β → Bool} : ∀ {xs : List β}, PV.bls (xs.map fun x => .bl (f x)) = some (xs.map f)
  | [] => rfl
  | x :: xs => by
    rw [List.map_cons, PV.bls, bls_map]
    rfl
theorem enP_ints {cs : List Int} : enP (cs.map .int) = cs.zipIdx.map fun b => PV.tup [.int b.2, .int b.1] := by
  unfold enP
  rw [List.zipIdx_map, List.map_map]
  rfl
theorem inF_items {c : Int} {p : PV} {hs : List Int} (h : p.items = some (hs.map .int)) : inF (.int c) p = some (decide (c ∈ hs)) := by
  simp only [inF, PV.flat, h, Option.bind_some, flats_ints]
  rw [inV_ints]
theorem valsM_ints : ∀ hs : List Int, valsM (hs.map fun i => .val (.int i)) = some (hs.map .int)
  | [] => rfl
  | h :: hs => by
    rw [List.map_cons, valsM, valsM_ints hs]
    rfl
theorem star_ints {fn : Fn} {q : PV} {hs : List Int} {r : MV} {sto sto' : List MV} (h : fn [.val q, .val (.tup (hs.map .int))] sto = some (r, [.val q, .val (.tup (hs.map .int))], sto')) (hl : hs.length ≤ 1000) :
    starF 1 fn (.val q :: hs.map fun i => .val (.int i)) sto = some (r, .val q :: hs.map fun i => .val (.int i), sto') := by
  unfold starF
  rw [if_pos ⟨by simp, by simp; omega⟩, List.drop_one, List.tail_cons, valsM_ints, Option.bind_some]
  show (fn [.val q, .val (.tup (hs.map .int))] sto).bind _ = _
  rw [h]
  rfl
theorem datA_lists : ∀ css : List (List Int), PV.datA (css.map fun cs => .lst (cs.map .int)) = some (dLL css)
  | [] => rfl
  | cs :: css => by
    rw [List.map_cons, PV.datA, datA_lists css]
    simp only [PV.dat, datA_ints, Option.map_some]
    rfl
theorem eqP_lsts {a b : List (List Int)} : eqP (.lst (a.map fun cs => .lst (cs.map .int))) (.lst (b.map fun cs => .lst (cs.map .int))) = some (decide (a = b)) := by
  simp only [eqP, PV.dat, datA_lists, Option.map_some]
  rw [if_pos ⟨dLL_list a, dLL_list b⟩, PyData.eqv]
  exact congrArg some (dLL_eqv a b)
theorem eqP_lst0 {a : List Int} : eqP (.lst (a.map .int)) (.lst []) = some (decide (a = [])) := eqP_lst (b := [])
theorem reprT : bRepr [.bl true] = some (.str "True") := by
  have h : (PyData.bool true).showable = true ∧ (PyData.bool true).hasDict = false ∧ (PyData.bool true).depth ≤ 60 ∧ (PyData.bool true).shown.length ≤ 100000 := by decide +kernel
  have e : shownI (.bool true) = Str.ofString "True" := by decide +kernel
  simp only [bRepr, PV.dat]
  rw [if_pos h, e]
theorem reprF : bRepr [.bl false] = some (.str "False") := by
  have h : (PyData.bool false).showable = true ∧ (PyData.bool false).hasDict = false ∧ (PyData.bool false).depth ≤ 60 ∧ (PyData.bool false).shown.length ≤ 100000 := by decide +kernel
  have e : shownI (.bool false) = Str.ofString "False" := by decide +kernel
  simp only [bRepr, PV.dat]
  rw [if_pos h, e]
theorem eqP_TT : eqP (.str "True") (.str "True") = some true := by decide +kernel
theorem eqP_FF : eqP (.str "False") (.str "False") = some true := by decide +kernel
end DD
namespace K17
open PySem L2 GG
def top (i : Nat) : Stmt := PySem.Challenge.pw_cutshows_k17_whole_boxes_of_two_sides.main.body.getD i (.Pass ⟨0, 0, 0, 0⟩)
abbrev s_is_integer : Stmt := top 2
theorem sc_is_integer : FnScope ["value"] ["value"] (defScope s_is_integer) := ⟨rfl, rfl, rfl, by decide +kernel, rfl, by decide +kernel, by decide +kernel⟩
abbrev s_is_list : Stmt := top 3
theorem sc_is_list : FnScope ["value"] ["value"] (defScope s_is_list) := ⟨rfl, rfl, rfl, by decide +kernel, rfl, by decide +kernel, by decide +kernel⟩
abbrev s_normal : Stmt := top 13
theorem sc_normal : FnScope ["marks", "known", "mark"] ["marks"] (defScope s_normal) := ⟨rfl, rfl, rfl, by decide +kernel, rfl, by decide +kernel, by decide +kernel⟩
abbrev s_are_classes : Stmt := top 14
theorem sc_are_classes : FnScope ["value", "number"] ["value"] (defScope s_are_classes) := ⟨rfl, rfl, rfl, by decide +kernel, rfl, by decide +kernel, by decide +kernel⟩
abbrev s_Partition_init : Stmt := inClass (top 18) 1
theorem sc_Partition_init : FnScope ["self", "classes"] ["self", "classes"] (defScope s_Partition_init) := ⟨rfl, rfl, rfl, by decide +kernel, rfl, by decide +kernel, by decide +kernel⟩
abbrev s_Partition_classes : Stmt := inClass (top 18) 4
theorem sc_Partition_classes : FnScope ["self"] ["self"] (defScope s_Partition_classes) := ⟨rfl, rfl, rfl, by decide +kernel, rfl, by decide +kernel, by decide +kernel⟩
abbrev s_Partition_want_holders : Stmt := inClass (top 18) 5
theorem sc_Partition_want_holders : FnScope ["self", "holders", "holder"] ["self", "holders"] (defScope s_Partition_want_holders) := ⟨rfl, rfl, rfl, by decide +kernel, rfl, by decide +kernel, by decide +kernel⟩
abbrev s_Partition_is_alike : Stmt := inClass (top 18) 7
theorem sc_Partition_is_alike : FnScope ["self", "holders", "marks", "holder", "mark"] ["self", "holders"] (defScope s_Partition_is_alike) := ⟨rfl, rfl, rfl, by decide +kernel, rfl, by decide +kernel, by decide +kernel⟩
abbrev s_Partition_groups : Stmt := inClass (top 18) 8
theorem sc_Partition_groups : FnScope ["self", "marks", "least", "holder", "mark", "first"] ["self"] (defScope s_Partition_groups) := ⟨rfl, rfl, rfl, by decide +kernel, rfl, by decide +kernel, by decide +kernel⟩
abbrev s_Partition_gone : Stmt := inClass (top 18) 9
theorem sc_Partition_gone : FnScope ["self", "holder", "mark"] ["self"] (defScope s_Partition_gone) := ⟨rfl, rfl, rfl, by decide +kernel, rfl, by decide +kernel, by decide +kernel⟩
abbrev s_Partition_with_mark : Stmt := inClass (top 18) 10
theorem sc_Partition_with_mark : FnScope ["self", "holders", "mark", "marks", "holder", "own"] ["self", "holders", "mark"] (defScope s_Partition_with_mark) := ⟨rfl, rfl, rfl, by decide +kernel, rfl, by decide +kernel, by decide +kernel⟩
abbrev s_Partition_copied : Stmt := inClass (top 18) 11
theorem sc_Partition_copied : FnScope ["self", "target", "source"] ["self", "target", "source"] (defScope s_Partition_copied) := ⟨rfl, rfl, rfl, by decide +kernel, rfl, by decide +kernel, by decide +kernel⟩
abbrev s_Partition_fresh : Stmt := inClass (top 18) 12
theorem sc_Partition_fresh : FnScope ["self", "targets"] ["self", "targets"] (defScope s_Partition_fresh) := ⟨rfl, rfl, rfl, by decide +kernel, rfl, by decide +kernel, by decide +kernel⟩
abbrev s_Partition_without : Stmt := inClass (top 18) 13
theorem sc_Partition_without : FnScope ["self", "holders"] ["self", "holders"] (defScope s_Partition_without) := ⟨rfl, rfl, rfl, by decide +kernel, rfl, by decide +kernel, by decide +kernel⟩
abbrev s_l_pot : Stmt := top 20
theorem sc_l_pot : FnScope ["_law_script", "_law_k", "_law_cell"] ["_law_script", "_law_k"] (defScope s_l_pot) := ⟨rfl, rfl, rfl, by decide +kernel, rfl, by decide +kernel, by decide +kernel⟩
abbrev s_l_draw : Stmt := top 21
theorem sc_l_draw : FnScope ["_law_pot_here", "_law_lot", "_law_digit"] ["_law_pot_here", "_law_lot"] (defScope s_l_draw) := ⟨rfl, rfl, rfl, by decide +kernel, rfl, by decide +kernel, by decide +kernel⟩
abbrev s_l_numbers : Stmt := top 23
theorem sc_l_numbers : FnScope ["_law_marks", "_law_known", "_law_found", "_law_mark"] ["_law_marks"] (defScope s_l_numbers) := ⟨rfl, rfl, rfl, by decide +kernel, rfl, by decide +kernel, by decide +kernel⟩
abbrev s_l_moved : Stmt := top 24
theorem sc_l_moved : FnScope ["_law_pot_here", "_law_lot", "_law_boxes", "_law_made", "_law_top", "_law_way", "_law_one", "_law_two", "_law_side", "_law_later"] ["_law_pot_here", "_law_lot", "_law_boxes", "_law_made", "_law_top"] (defScope s_l_moved) := ⟨rfl, rfl, rfl, by decide +kernel, rfl, by decide +kernel, by decide +kernel⟩
abbrev s_l_is_shown : Stmt := top 25
theorem sc_l_is_shown : FnScope ["_law_boxes", "_law_made", "_law_k", "_law_own", "_law_n", "_law_near", "_law_known", "_law_groups"] ["_law_boxes", "_law_made"] (defScope s_l_is_shown) := ⟨rfl, rfl, rfl, by decide +kernel, rfl, by decide +kernel, by decide +kernel⟩
abbrev s_l_end_right : Stmt := top 26
theorem sc_l_end_right : FnScope ["_law_lot", "_law_boxes", "_law_made", "_law_side", "_law_left", "_law_k", "_law_stays", "_law_n"] ["_law_lot", "_law_boxes", "_law_made", "_law_side"] (defScope s_l_end_right) := ⟨rfl, rfl, rfl, by decide +kernel, rfl, by decide +kernel, by decide +kernel⟩
abbrev s_l_right : Stmt := top 27
theorem sc_l_right : FnScope ["_law_pot_here", "_law_lot", "_law_boxes", "_law_made", "_law_turn", "_law_side"] ["_law_pot_here"] (defScope s_l_right) := ⟨rfl, rfl, rfl, by decide +kernel, rfl, by decide +kernel, by decide +kernel⟩
abbrev s_law : Stmt := top 28
theorem sc_law : FnScope ["_law_script", "_law_k"] ["_law_script"] (defScope s_law) := ⟨rfl, rfl, rfl, by decide +kernel, rfl, by decide +kernel, by decide +kernel⟩
structure Txt (K : PySem.W.Frag) (mg : Str → Option Value) (ca fa : Nat → Addr) (fd : Nat → FuncData) : Prop where
  cl_Partition : ClassAt K mg "Partition" (ca 0)
  mk_Partition : Mk K (ca 0) (fa 4)
  no_Partition_own_classes : NoAttr K (ca 0) "own_classes"
  cc_Partition_MOST_HOLDERS : ∃ mc u, ClX.CRead K (ca 0) mc ∧ ClX.CVal K (ca 0) mc "MOST_HOLDERS" (.int 8) u
  d_is_integer : DefAt K mg "is_integer" s_is_integer ["value"] (fa 0) (fd 0)
  d_is_list : DefAt K mg "is_list" s_is_list ["value"] (fa 1) (fd 1)
  d_normal : DefAt K mg "normal" s_normal ["marks"] (fa 2) (fd 2)
  d_are_classes : DefAt K mg "are_classes" s_are_classes ["value"] (fa 3) (fd 3)
  d_Partition_init : MethAt K (ca 0) "__init__" "Partition.__init__" s_Partition_init ["self", "classes"] (fa 4) (fd 4)
  d_Partition_classes : PropAt K (ca 0) "classes" "Partition.classes" s_Partition_classes (fa 5) (fd 5)
  d_Partition_want_holders : MethAt K (ca 0) "want_holders" "Partition.want_holders" s_Partition_want_holders ["self", "holders"] (fa 6) (fd 6)
  d_Partition_is_alike : StarAt K (ca 0) "is_alike" "Partition.is_alike" s_Partition_is_alike "self" "holders" (fa 7) (fd 7)
  d_Partition_groups : MethAt K (ca 0) "groups" "Partition.groups" s_Partition_groups ["self"] (fa 8) (fd 8)
  d_Partition_gone : MethAt K (ca 0) "gone" "Partition.gone" s_Partition_gone ["self"] (fa 9) (fd 9)
  d_Partition_with_mark : MethAt K (ca 0) "with_mark" "Partition.with_mark" s_Partition_with_mark ["self", "holders", "mark"] (fa 10) (fd 10)
  d_Partition_copied : MethAt K (ca 0) "copied" "Partition.copied" s_Partition_copied ["self", "target", "source"] (fa 11) (fd 11)
  d_Partition_fresh : StarAt K (ca 0) "fresh" "Partition.fresh" s_Partition_fresh "self" "targets" (fa 12) (fd 12)
  d_Partition_without : StarAt K (ca 0) "without" "Partition.without" s_Partition_without "self" "holders" (fa 13) (fd 13)
  d_l_pot : DefAt K mg "_law_pot" s_l_pot ["_law_script", "_law_k"] (fa 14) (fd 14)
  d_l_draw : DefAt K mg "_law_draw" s_l_draw ["_law_pot_here", "_law_lot"] (fa 15) (fd 15)
  d_l_numbers : DefAt K mg "_law_numbers" s_l_numbers ["_law_marks"] (fa 16) (fd 16)
  d_l_moved : DefAt K mg "_law_moved" s_l_moved ["_law_pot_here", "_law_lot", "_law_boxes", "_law_made", "_law_top"] (fa 17) (fd 17)
  d_l_is_shown : DefAt K mg "_law_is_shown" s_l_is_shown ["_law_boxes", "_law_made"] (fa 18) (fd 18)
  d_l_end_right : DefAt K mg "_law_end_right" s_l_end_right ["_law_lot", "_law_boxes", "_law_made", "_law_side"] (fa 19) (fd 19)
  d_l_right : DefAt K mg "_law_right" s_l_right ["_law_pot_here"] (fa 20) (fd 20)
  d_law : DefAt K mg "law" s_law ["_law_script"] (fa 21) (fd 21)
  c_GONE : ∃ t, mg "GONE" = some (.int (-1) t)
  b_abs : mg "abs" = none
  b_all : mg "all" = none
  b_any : mg "any" = none
  b_bool : mg "bool" = none
  b_divmod : mg "divmod" = none
  b_enumerate : mg "enumerate" = none
  b_int : mg "int" = none
  b_isinstance : mg "isinstance" = none
  b_len : mg "len" = none
  b_list : mg "list" = none
  b_max : mg "max" = none
  b_min : mg "min" = none
  b_range : mg "range" = none
  b_repr : mg "repr" = none
  b_set : mg "set" = none
  b_sorted : mg "sorted" = none
  b_tuple : mg "tuple" = none
theorem all_mk {K : PySem.W.Frag} {h : Heap} {mg : Str → Option Value} (X : K.In h) (G : h.Ns mainGlobals mg)
    {f0 f1 f2 f3 f4 f5 f6 f7 f8 f9 f10 f11 f12 f13 f14 f15 f16 f17 f18 f19 f20 f21 : Addr}
    {oc0 : Value} {od0 : Option Addr} {sl0 : Array (Option Value)} {kV0 dc0 pm0 cd0 ct0 : Value} {an0 : Option Addr}
    {oc1 : Value} {od1 : Option Addr} {sl1 : Array (Option Value)} {kV1 dc1 pm1 cd1 ct1 : Value} {an1 : Option Addr}
    {oc2 : Value} {od2 : Option Addr} {sl2 : Array (Option Value)} {kV2 dc2 pm2 cd2 ct2 : Value} {an2 : Option Addr}
    {oc3 : Value} {od3 : Option Addr} {sl3 : Array (Option Value)} {kV3 dc3 pm3 cd3 ct3 : Value} {an3 : Option Addr}
    {oc4 : Value} {od4 : Option Addr} {sl4 : Array (Option Value)} {kV4 dc4 pm4 cd4 ct4 : Value} {an4 : Option Addr}
    {oc5 : Value} {od5 : Option Addr} {sl5 : Array (Option Value)} {kV5 dc5 pm5 cd5 ct5 : Value} {an5 : Option Addr}
    {oc6 : Value} {od6 : Option Addr} {sl6 : Array (Option Value)} {kV6 dc6 pm6 cd6 ct6 : Value} {an6 : Option Addr}
    {oc7 : Value} {od7 : Option Addr} {sl7 : Array (Option Value)} {kV7 dc7 pm7 cd7 ct7 : Value} {an7 : Option Addr}
    {oc8 : Value} {od8 : Option Addr} {sl8 : Array (Option Value)} {kV8 dc8 pm8 cd8 ct8 : Value} {an8 : Option Addr}
    {oc9 : Value} {od9 : Option Addr} {sl9 : Array (Option Value)} {kV9 dc9 pm9 cd9 ct9 : Value} {an9 : Option Addr}
    {oc10 : Value} {od10 : Option Addr} {sl10 : Array (Option Value)} {kV10 dc10 pm10 cd10 ct10 : Value} {an10 : Option Addr}
    {oc11 : Value} {od11 : Option Addr} {sl11 : Array (Option Value)} {kV11 dc11 pm11 cd11 ct11 : Value} {an11 : Option Addr}
    {oc12 : Value} {od12 : Option Addr} {sl12 : Array (Option Value)} {kV12 dc12 pm12 cd12 ct12 : Value} {an12 : Option Addr}
    {oc13 : Value} {od13 : Option Addr} {sl13 : Array (Option Value)} {kV13 dc13 pm13 cd13 ct13 : Value} {an13 : Option Addr}
    {oc14 : Value} {od14 : Option Addr} {sl14 : Array (Option Value)} {kV14 dc14 pm14 cd14 ct14 : Value} {an14 : Option Addr}
    {oc15 : Value} {od15 : Option Addr} {sl15 : Array (Option Value)} {kV15 dc15 pm15 cd15 ct15 : Value} {an15 : Option Addr}
    {oc16 : Value} {od16 : Option Addr} {sl16 : Array (Option Value)} {kV16 dc16 pm16 cd16 ct16 : Value} {an16 : Option Addr}
    {oc17 : Value} {od17 : Option Addr} {sl17 : Array (Option Value)} {kV17 dc17 pm17 cd17 ct17 : Value} {an17 : Option Addr}
    {oc18 : Value} {od18 : Option Addr} {sl18 : Array (Option Value)} {kV18 dc18 pm18 cd18 ct18 : Value} {an18 : Option Addr}
    {oc19 : Value} {od19 : Option Addr} {sl19 : Array (Option Value)} {kV19 dc19 pm19 cd19 ct19 : Value} {an19 : Option Addr}
    {oc20 : Value} {od20 : Option Addr} {sl20 : Array (Option Value)} {kV20 dc20 pm20 cd20 ct20 : Value} {an20 : Option Addr}
    {oc21 : Value} {od21 : Option Addr} {sl21 : Array (Option Value)} {kV21 dc21 pm21 cd21 ct21 : Value} {an21 : Option Addr}
    {C0 : Addr} (aC0 : PySem.W.nsIn K mainGlobals "Partition" = some (some (.ref C0)))
    (pg0 : PySem.W.plainGet K C0 Str.empty = true) (hd0 : PySem.W.hasDictIn K C0 = true) (po0 : PySem.W.plainOver K C0 = true) (sa0 : PySem.W.findIn K (.ref C0) "__setattr__" = some (some (.builtin "object.__setattr__"))) (km0 : PySem.W.makesIn K C0 = true) (kc0 : PySem.W.keepIn K (.ref C0) = true)
    (n0_own_classes : PySem.W.findIn K (.ref C0) "own_classes" = some none)
    {tc0_MOST_HOLDERS : Tok} (cr0_MOST_HOLDERS : PySem.W.readsIn K C0 (.type "type") = true) (cg0_MOST_HOLDERS : PySem.W.specialIn K (.ref C0) "__getattribute__" = some (some (.builtin "type.__getattribute__"))) (cv0_MOST_HOLDERS : PySem.W.findCls K (.ref C0) (.type "type") "MOST_HOLDERS" = some (.val (.int 8 tc0_MOST_HOLDERS)))
    (a0 : PySem.W.nsIn K mainGlobals "is_integer" = some (some (.ref f0)))
    (l0 : K.lookup f0 = some ⟨oc0, od0, .func (PySem.W.fnOf "is_integer" "is_integer" (defArgs s_is_integer) (defBody s_is_integer) (defScope s_is_integer) .none kV0 dc0 pm0 an0 cd0 ct0), sl0⟩)
    (c0 : PySem.W.codeIn K cd0 "is_integer" = true) (k0 : PySem.W.keepIn K (.ref f0) = true)
    (a1 : PySem.W.nsIn K mainGlobals "is_list" = some (some (.ref f1)))
    (l1 : K.lookup f1 = some ⟨oc1, od1, .func (PySem.W.fnOf "is_list" "is_list" (defArgs s_is_list) (defBody s_is_list) (defScope s_is_list) .none kV1 dc1 pm1 an1 cd1 ct1), sl1⟩)
    (c1 : PySem.W.codeIn K cd1 "is_list" = true) (k1 : PySem.W.keepIn K (.ref f1) = true)
    (a2 : PySem.W.nsIn K mainGlobals "normal" = some (some (.ref f2)))
    (l2 : K.lookup f2 = some ⟨oc2, od2, .func (PySem.W.fnOf "normal" "normal" (defArgs s_normal) (defBody s_normal) (defScope s_normal) .none kV2 dc2 pm2 an2 cd2 ct2), sl2⟩)
    (c2 : PySem.W.codeIn K cd2 "normal" = true) (k2 : PySem.W.keepIn K (.ref f2) = true)
    (a3 : PySem.W.nsIn K mainGlobals "are_classes" = some (some (.ref f3)))
    (l3 : K.lookup f3 = some ⟨oc3, od3, .func (PySem.W.fnOf "are_classes" "are_classes" (defArgs s_are_classes) (defBody s_are_classes) (defScope s_are_classes) .none kV3 dc3 pm3 an3 cd3 ct3), sl3⟩)
    (c3 : PySem.W.codeIn K cd3 "are_classes" = true) (k3 : PySem.W.keepIn K (.ref f3) = true)
    (a4 : PySem.W.findIn K (.ref C0) "__init__" = some (some (.ref f4))) (i4 : PySem.W.isFn K (.ref f4) = true)
    (l4 : K.lookup f4 = some ⟨oc4, od4, .func (PySem.W.fnOf "__init__" "Partition.__init__" (defArgs s_Partition_init) (defBody s_Partition_init) (defScope s_Partition_init) .none kV4 dc4 pm4 an4 cd4 ct4), sl4⟩)
    (c4 : PySem.W.codeIn K cd4 "Partition.__init__" = true) (k4 : PySem.W.keepIn K (.ref f4) = true)
    {pr5 : Addr} {rs5 : List Value} (a5 : PySem.W.findIn K (.ref C0) "classes" = some (some (.ref pr5))) (pa5 : PySem.W.specialIn K (.ref pr5) "__get__" = some (some (.builtin "property.__get__"))) (pb5 : PySem.W.takesIn K (.ref pr5) = some true) (pc5 : PySem.W.recIn K pr5 "property" = some (.ref f5 :: rs5))
    (l5 : K.lookup f5 = some ⟨oc5, od5, .func (PySem.W.fnOf "classes" "Partition.classes" (defArgs s_Partition_classes) (defBody s_Partition_classes) (defScope s_Partition_classes) .none kV5 dc5 pm5 an5 cd5 ct5), sl5⟩)
    (c5 : PySem.W.codeIn K cd5 "Partition.classes" = true) (k5 : PySem.W.keepIn K (.ref f5) = true)
    (a6 : PySem.W.findIn K (.ref C0) "want_holders" = some (some (.ref f6))) (i6 : PySem.W.isFn K (.ref f6) = true)
    (l6 : K.lookup f6 = some ⟨oc6, od6, .func (PySem.W.fnOf "want_holders" "Partition.want_holders" (defArgs s_Partition_want_holders) (defBody s_Partition_want_holders) (defScope s_Partition_want_holders) .none kV6 dc6 pm6 an6 cd6 ct6), sl6⟩)
    (c6 : PySem.W.codeIn K cd6 "Partition.want_holders" = true) (k6 : PySem.W.keepIn K (.ref f6) = true)
    (a7 : PySem.W.findIn K (.ref C0) "is_alike" = some (some (.ref f7))) (i7 : PySem.W.isFn K (.ref f7) = true)
    (l7 : K.lookup f7 = some ⟨oc7, od7, .func (PySem.W.fnOf "is_alike" "Partition.is_alike" (defArgs s_Partition_is_alike) (defBody s_Partition_is_alike) (defScope s_Partition_is_alike) .none kV7 dc7 pm7 an7 cd7 ct7), sl7⟩)
    (c7 : PySem.W.codeIn K cd7 "Partition.is_alike" = true) (k7 : PySem.W.keepIn K (.ref f7) = true)
    (a8 : PySem.W.findIn K (.ref C0) "groups" = some (some (.ref f8))) (i8 : PySem.W.isFn K (.ref f8) = true)
    (l8 : K.lookup f8 = some ⟨oc8, od8, .func (PySem.W.fnOf "groups" "Partition.groups" (defArgs s_Partition_groups) (defBody s_Partition_groups) (defScope s_Partition_groups) .none kV8 dc8 pm8 an8 cd8 ct8), sl8⟩)
    (c8 : PySem.W.codeIn K cd8 "Partition.groups" = true) (k8 : PySem.W.keepIn K (.ref f8) = true)
    (a9 : PySem.W.findIn K (.ref C0) "gone" = some (some (.ref f9))) (i9 : PySem.W.isFn K (.ref f9) = true)
    (l9 : K.lookup f9 = some ⟨oc9, od9, .func (PySem.W.fnOf "gone" "Partition.gone" (defArgs s_Partition_gone) (defBody s_Partition_gone) (defScope s_Partition_gone) .none kV9 dc9 pm9 an9 cd9 ct9), sl9⟩)
    (c9 : PySem.W.codeIn K cd9 "Partition.gone" = true) (k9 : PySem.W.keepIn K (.ref f9) = true)
    (a10 : PySem.W.findIn K (.ref C0) "with_mark" = some (some (.ref f10))) (i10 : PySem.W.isFn K (.ref f10) = true)
    (l10 : K.lookup f10 = some ⟨oc10, od10, .func (PySem.W.fnOf "with_mark" "Partition.with_mark" (defArgs s_Partition_with_mark) (defBody s_Partition_with_mark) (defScope s_Partition_with_mark) .none kV10 dc10 pm10 an10 cd10 ct10), sl10⟩)
    (c10 : PySem.W.codeIn K cd10 "Partition.with_mark" = true) (k10 : PySem.W.keepIn K (.ref f10) = true)
    (a11 : PySem.W.findIn K (.ref C0) "copied" = some (some (.ref f11))) (i11 : PySem.W.isFn K (.ref f11) = true)
    (l11 : K.lookup f11 = some ⟨oc11, od11, .func (PySem.W.fnOf "copied" "Partition.copied" (defArgs s_Partition_copied) (defBody s_Partition_copied) (defScope s_Partition_copied) .none kV11 dc11 pm11 an11 cd11 ct11), sl11⟩)
    (c11 : PySem.W.codeIn K cd11 "Partition.copied" = true) (k11 : PySem.W.keepIn K (.ref f11) = true)
    (a12 : PySem.W.findIn K (.ref C0) "fresh" = some (some (.ref f12))) (i12 : PySem.W.isFn K (.ref f12) = true)
    (l12 : K.lookup f12 = some ⟨oc12, od12, .func (PySem.W.fnOf "fresh" "Partition.fresh" (defArgs s_Partition_fresh) (defBody s_Partition_fresh) (defScope s_Partition_fresh) .none kV12 dc12 pm12 an12 cd12 ct12), sl12⟩)
    (c12 : PySem.W.codeIn K cd12 "Partition.fresh" = true) (k12 : PySem.W.keepIn K (.ref f12) = true)
    (a13 : PySem.W.findIn K (.ref C0) "without" = some (some (.ref f13))) (i13 : PySem.W.isFn K (.ref f13) = true)
    (l13 : K.lookup f13 = some ⟨oc13, od13, .func (PySem.W.fnOf "without" "Partition.without" (defArgs s_Partition_without) (defBody s_Partition_without) (defScope s_Partition_without) .none kV13 dc13 pm13 an13 cd13 ct13), sl13⟩)
    (c13 : PySem.W.codeIn K cd13 "Partition.without" = true) (k13 : PySem.W.keepIn K (.ref f13) = true)
    (a14 : PySem.W.nsIn K mainGlobals "_law_pot" = some (some (.ref f14)))
    (l14 : K.lookup f14 = some ⟨oc14, od14, .func (PySem.W.fnOf "_law_pot" "_law_pot" (defArgs s_l_pot) (defBody s_l_pot) (defScope s_l_pot) .none kV14 dc14 pm14 an14 cd14 ct14), sl14⟩)
    (c14 : PySem.W.codeIn K cd14 "_law_pot" = true) (k14 : PySem.W.keepIn K (.ref f14) = true)
    (a15 : PySem.W.nsIn K mainGlobals "_law_draw" = some (some (.ref f15)))
    (l15 : K.lookup f15 = some ⟨oc15, od15, .func (PySem.W.fnOf "_law_draw" "_law_draw" (defArgs s_l_draw) (defBody s_l_draw) (defScope s_l_draw) .none kV15 dc15 pm15 an15 cd15 ct15), sl15⟩)
    (c15 : PySem.W.codeIn K cd15 "_law_draw" = true) (k15 : PySem.W.keepIn K (.ref f15) = true)
    (a16 : PySem.W.nsIn K mainGlobals "_law_numbers" = some (some (.ref f16)))
    (l16 : K.lookup f16 = some ⟨oc16, od16, .func (PySem.W.fnOf "_law_numbers" "_law_numbers" (defArgs s_l_numbers) (defBody s_l_numbers) (defScope s_l_numbers) .none kV16 dc16 pm16 an16 cd16 ct16), sl16⟩)
    (c16 : PySem.W.codeIn K cd16 "_law_numbers" = true) (k16 : PySem.W.keepIn K (.ref f16) = true)
    (a17 : PySem.W.nsIn K mainGlobals "_law_moved" = some (some (.ref f17)))
    (l17 : K.lookup f17 = some ⟨oc17, od17, .func (PySem.W.fnOf "_law_moved" "_law_moved" (defArgs s_l_moved) (defBody s_l_moved) (defScope s_l_moved) .none kV17 dc17 pm17 an17 cd17 ct17), sl17⟩)
    (c17 : PySem.W.codeIn K cd17 "_law_moved" = true) (k17 : PySem.W.keepIn K (.ref f17) = true)
    (a18 : PySem.W.nsIn K mainGlobals "_law_is_shown" = some (some (.ref f18)))
    (l18 : K.lookup f18 = some ⟨oc18, od18, .func (PySem.W.fnOf "_law_is_shown" "_law_is_shown" (defArgs s_l_is_shown) (defBody s_l_is_shown) (defScope s_l_is_shown) .none kV18 dc18 pm18 an18 cd18 ct18), sl18⟩)
    (c18 : PySem.W.codeIn K cd18 "_law_is_shown" = true) (k18 : PySem.W.keepIn K (.ref f18) = true)
    (a19 : PySem.W.nsIn K mainGlobals "_law_end_right" = some (some (.ref f19)))
    (l19 : K.lookup f19 = some ⟨oc19, od19, .func (PySem.W.fnOf "_law_end_right" "_law_end_right" (defArgs s_l_end_right) (defBody s_l_end_right) (defScope s_l_end_right) .none kV19 dc19 pm19 an19 cd19 ct19), sl19⟩)
    (c19 : PySem.W.codeIn K cd19 "_law_end_right" = true) (k19 : PySem.W.keepIn K (.ref f19) = true)
    (a20 : PySem.W.nsIn K mainGlobals "_law_right" = some (some (.ref f20)))
    (l20 : K.lookup f20 = some ⟨oc20, od20, .func (PySem.W.fnOf "_law_right" "_law_right" (defArgs s_l_right) (defBody s_l_right) (defScope s_l_right) .none kV20 dc20 pm20 an20 cd20 ct20), sl20⟩)
    (c20 : PySem.W.codeIn K cd20 "_law_right" = true) (k20 : PySem.W.keepIn K (.ref f20) = true)
    (a21 : PySem.W.nsIn K mainGlobals "law" = some (some (.ref f21)))
    (l21 : K.lookup f21 = some ⟨oc21, od21, .func (PySem.W.fnOf "law" "law" (defArgs s_law) (defBody s_law) (defScope s_law) .none kV21 dc21 pm21 an21 cd21 ct21), sl21⟩)
    (c21 : PySem.W.codeIn K cd21 "law" = true) (k21 : PySem.W.keepIn K (.ref f21) = true)
    {t_GONE : Tok} (g_GONE : PySem.W.nsIn K mainGlobals "GONE" = some (some (.int (-1) t_GONE)))
    (z_abs : PySem.W.nsIn K mainGlobals "abs" = some none)
    (z_all : PySem.W.nsIn K mainGlobals "all" = some none)
    (z_any : PySem.W.nsIn K mainGlobals "any" = some none)
    (z_bool : PySem.W.nsIn K mainGlobals "bool" = some none)
    (z_divmod : PySem.W.nsIn K mainGlobals "divmod" = some none)
    (z_enumerate : PySem.W.nsIn K mainGlobals "enumerate" = some none)
    (z_int : PySem.W.nsIn K mainGlobals "int" = some none)
    (z_isinstance : PySem.W.nsIn K mainGlobals "isinstance" = some none)
    (z_len : PySem.W.nsIn K mainGlobals "len" = some none)
    (z_list : PySem.W.nsIn K mainGlobals "list" = some none)
    (z_max : PySem.W.nsIn K mainGlobals "max" = some none)
    (z_min : PySem.W.nsIn K mainGlobals "min" = some none)
    (z_range : PySem.W.nsIn K mainGlobals "range" = some none)
    (z_repr : PySem.W.nsIn K mainGlobals "repr" = some none)
    (z_set : PySem.W.nsIn K mainGlobals "set" = some none)
    (z_sorted : PySem.W.nsIn K mainGlobals "sorted" = some none)
    (z_tuple : PySem.W.nsIn K mainGlobals "tuple" = some none)
    : ∃ (ca : Nat → Addr) (fa : Nat → Addr) (fd : Nat → FuncData), (∃ kV dc pm an cd ct, fd 21 = PySem.W.fnOf "law" "law" (defArgs s_law) (defBody s_law) (defScope s_law) .none kV dc pm an cd ct) ∧ Txt K mg ca fa fd := by
  have F0 := fun_mk (st := s_is_integer) l0 c0 k0
  have F1 := fun_mk (st := s_is_list) l1 c1 k1
  have F2 := fun_mk (st := s_normal) l2 c2 k2
  have F3 := fun_mk (st := s_are_classes) l3 c3 k3
  have F4 := fun_mk (st := s_Partition_init) l4 c4 k4
  have F5 := fun_mk (st := s_Partition_classes) l5 c5 k5
  have F6 := fun_mk (st := s_Partition_want_holders) l6 c6 k6
  have F7 := fun_mk (st := s_Partition_is_alike) l7 c7 k7
  have F8 := fun_mk (st := s_Partition_groups) l8 c8 k8
  have F9 := fun_mk (st := s_Partition_gone) l9 c9 k9
  have F10 := fun_mk (st := s_Partition_with_mark) l10 c10 k10
  have F11 := fun_mk (st := s_Partition_copied) l11 c11 k11
  have F12 := fun_mk (st := s_Partition_fresh) l12 c12 k12
  have F13 := fun_mk (st := s_Partition_without) l13 c13 k13
  have F14 := fun_mk (st := s_l_pot) l14 c14 k14
  have F15 := fun_mk (st := s_l_draw) l15 c15 k15
  have F16 := fun_mk (st := s_l_numbers) l16 c16 k16
  have F17 := fun_mk (st := s_l_moved) l17 c17 k17
  have F18 := fun_mk (st := s_l_is_shown) l18 c18 k18
  have F19 := fun_mk (st := s_l_end_right) l19 c19 k19
  have F20 := fun_mk (st := s_l_right) l20 c20 k20
  have F21 := fun_mk (st := s_law) l21 c21 k21
  refine ⟨fun i => ([C0] : List Addr).getD i 0, fun i => ([f0, f1, f2, f3, f4, f5, f6, f7, f8, f9, f10, f11, f12, f13, f14, f15, f16, f17, f18, f19, f20, f21] : List Addr).getD i 0, fun i => ([PySem.W.fnOf "is_integer" "is_integer" (defArgs s_is_integer) (defBody s_is_integer) (defScope s_is_integer) .none kV0 dc0 pm0 an0 cd0 ct0, PySem.W.fnOf "is_list" "is_list" (defArgs s_is_list) (defBody s_is_list) (defScope s_is_list) .none kV1 dc1 pm1 an1 cd1 ct1, PySem.W.fnOf "normal" "normal" (defArgs s_normal) (defBody s_normal) (defScope s_normal) .none kV2 dc2 pm2 an2 cd2 ct2, PySem.W.fnOf "are_classes" "are_classes" (defArgs s_are_classes) (defBody s_are_classes) (defScope s_are_classes) .none kV3 dc3 pm3 an3 cd3 ct3, PySem.W.fnOf "__init__" "Partition.__init__" (defArgs s_Partition_init) (defBody s_Partition_init) (defScope s_Partition_init) .none kV4 dc4 pm4 an4 cd4 ct4, PySem.W.fnOf "classes" "Partition.classes" (defArgs s_Partition_classes) (defBody s_Partition_classes) (defScope s_Partition_classes) .none kV5 dc5 pm5 an5 cd5 ct5, PySem.W.fnOf "want_holders" "Partition.want_holders" (defArgs s_Partition_want_holders) (defBody s_Partition_want_holders) (defScope s_Partition_want_holders) .none kV6 dc6 pm6 an6 cd6 ct6, PySem.W.fnOf "is_alike" "Partition.is_alike" (defArgs s_Partition_is_alike) (defBody s_Partition_is_alike) (defScope s_Partition_is_alike) .none kV7 dc7 pm7 an7 cd7 ct7, PySem.W.fnOf "groups" "Partition.groups" (defArgs s_Partition_groups) (defBody s_Partition_groups) (defScope s_Partition_groups) .none kV8 dc8 pm8 an8 cd8 ct8, PySem.W.fnOf "gone" "Partition.gone" (defArgs s_Partition_gone) (defBody s_Partition_gone) (defScope s_Partition_gone) .none kV9 dc9 pm9 an9 cd9 ct9, PySem.W.fnOf "with_mark" "Partition.with_mark" (defArgs s_Partition_with_mark) (defBody s_Partition_with_mark) (defScope s_Partition_with_mark) .none kV10 dc10 pm10 an10 cd10 ct10, PySem.W.fnOf "copied" "Partition.copied" (defArgs s_Partition_copied) (defBody s_Partition_copied) (defScope s_Partition_copied) .none kV11 dc11 pm11 an11 cd11 ct11, PySem.W.fnOf "fresh" "Partition.fresh" (defArgs s_Partition_fresh) (defBody s_Partition_fresh) (defScope s_Partition_fresh) .none kV12 dc12 pm12 an12 cd12 ct12, PySem.W.fnOf "without" "Partition.without" (defArgs s_Partition_without) (defBody s_Partition_without) (defScope s_Partition_without) .none kV13 dc13 pm13 an13 cd13 ct13, PySem.W.fnOf "_law_pot" "_law_pot" (defArgs s_l_pot) (defBody s_l_pot) (defScope s_l_pot) .none kV14 dc14 pm14 an14 cd14 ct14, PySem.W.fnOf "_law_draw" "_law_draw" (defArgs s_l_draw) (defBody s_l_draw) (defScope s_l_draw) .none kV15 dc15 pm15 an15 cd15 ct15, PySem.W.fnOf "_law_numbers" "_law_numbers" (defArgs s_l_numbers) (defBody s_l_numbers) (defScope s_l_numbers) .none kV16 dc16 pm16 an16 cd16 ct16, PySem.W.fnOf "_law_moved" "_law_moved" (defArgs s_l_moved) (defBody s_l_moved) (defScope s_l_moved) .none kV17 dc17 pm17 an17 cd17 ct17, PySem.W.fnOf "_law_is_shown" "_law_is_shown" (defArgs s_l_is_shown) (defBody s_l_is_shown) (defScope s_l_is_shown) .none kV18 dc18 pm18 an18 cd18 ct18, PySem.W.fnOf "_law_end_right" "_law_end_right" (defArgs s_l_end_right) (defBody s_l_end_right) (defScope s_l_end_right) .none kV19 dc19 pm19 an19 cd19 ct19, PySem.W.fnOf "_law_right" "_law_right" (defArgs s_l_right) (defBody s_l_right) (defScope s_l_right) .none kV20 dc20 pm20 an20 cd20 ct20, PySem.W.fnOf "law" "law" (defArgs s_law) (defBody s_law) (defScope s_law) .none kV21 dc21 pm21 an21 cd21 ct21] : List FuncData).getD i (PySem.W.fnOf "law" "law" (defArgs s_law) (defBody s_law) (defScope s_law) .none .none .none .none none .none .none), ⟨_, _, _, _, _, _, rfl⟩, ?_⟩
  exact {
    cl_Partition := ⟨PySem.W.mg_of X G aC0, ⟨pg0, hd0, po0, sa0⟩, kc0⟩
    mk_Partition := ⟨km0, a4, i4, kc0⟩
    no_Partition_own_classes := n0_own_classes
    cc_Partition_MOST_HOLDERS := ⟨_, _, ⟨cr0_MOST_HOLDERS, cg0_MOST_HOLDERS⟩, ⟨cv0_MOST_HOLDERS, ⟨_, rfl⟩⟩⟩
    d_is_integer := ⟨F0, PySem.W.mg_of X G a0, F0.binds (ps := ["value"]) fun _ _ _ _ _ _ us hl => match us, hl with | [_], _ => rfl⟩
    d_is_list := ⟨F1, PySem.W.mg_of X G a1, F1.binds (ps := ["value"]) fun _ _ _ _ _ _ us hl => match us, hl with | [_], _ => rfl⟩
    d_normal := ⟨F2, PySem.W.mg_of X G a2, F2.binds (ps := ["marks"]) fun _ _ _ _ _ _ us hl => match us, hl with | [_], _ => rfl⟩
    d_are_classes := ⟨F3, PySem.W.mg_of X G a3, F3.binds (ps := ["value"]) fun _ _ _ _ _ _ us hl => match us, hl with | [_], _ => rfl⟩
    d_Partition_init := ⟨F4, ⟨a4, i4, k4⟩, F4.binds (ps := ["self", "classes"]) fun _ _ _ _ _ _ us hl => match us, hl with | [_, _], _ => rfl⟩
    d_Partition_classes := ⟨F5, ⟨_, ⟨a5, pa5, pb5, ⟨_, pc5⟩⟩⟩, F5.binds (ps := ["self"]) fun _ _ _ _ _ _ us hl => match us, hl with | [_], _ => rfl⟩
    d_Partition_want_holders := ⟨F6, ⟨a6, i6, k6⟩, F6.binds (ps := ["self", "holders"]) fun _ _ _ _ _ _ us hl => match us, hl with | [_, _], _ => rfl⟩
    d_Partition_is_alike := ⟨F7, ⟨a7, i7, k7⟩, StX.bind_star1 (B := fun us => bindArgs (PySem.W.fnOf "is_alike" "Partition.is_alike" (defArgs s_Partition_is_alike) (defBody s_Partition_is_alike) (defScope s_Partition_is_alike) .none kV7 dc7 pm7 an7 cd7 ct7) ⟨us, []⟩) (p1 := "self") (pv := "holders") (fun _ => rfl) (fun _ _ _ => rfl)⟩
    d_Partition_groups := ⟨F8, ⟨a8, i8, k8⟩, F8.binds (ps := ["self"]) fun _ _ _ _ _ _ us hl => match us, hl with | [_], _ => rfl⟩
    d_Partition_gone := ⟨F9, ⟨a9, i9, k9⟩, F9.binds (ps := ["self"]) fun _ _ _ _ _ _ us hl => match us, hl with | [_], _ => rfl⟩
    d_Partition_with_mark := ⟨F10, ⟨a10, i10, k10⟩, F10.binds (ps := ["self", "holders", "mark"]) fun _ _ _ _ _ _ us hl => match us, hl with | [_, _, _], _ => rfl⟩
    d_Partition_copied := ⟨F11, ⟨a11, i11, k11⟩, F11.binds (ps := ["self", "target", "source"]) fun _ _ _ _ _ _ us hl => match us, hl with | [_, _, _], _ => rfl⟩
    d_Partition_fresh := ⟨F12, ⟨a12, i12, k12⟩, StX.bind_star1 (B := fun us => bindArgs (PySem.W.fnOf "fresh" "Partition.fresh" (defArgs s_Partition_fresh) (defBody s_Partition_fresh) (defScope s_Partition_fresh) .none kV12 dc12 pm12 an12 cd12 ct12) ⟨us, []⟩) (p1 := "self") (pv := "targets") (fun _ => rfl) (fun _ _ _ => rfl)⟩
    d_Partition_without := ⟨F13, ⟨a13, i13, k13⟩, StX.bind_star1 (B := fun us => bindArgs (PySem.W.fnOf "without" "Partition.without" (defArgs s_Partition_without) (defBody s_Partition_without) (defScope s_Partition_without) .none kV13 dc13 pm13 an13 cd13 ct13) ⟨us, []⟩) (p1 := "self") (pv := "holders") (fun _ => rfl) (fun _ _ _ => rfl)⟩
    d_l_pot := ⟨F14, PySem.W.mg_of X G a14, F14.binds (ps := ["_law_script", "_law_k"]) fun _ _ _ _ _ _ us hl => match us, hl with | [_, _], _ => rfl⟩
    d_l_draw := ⟨F15, PySem.W.mg_of X G a15, F15.binds (ps := ["_law_pot_here", "_law_lot"]) fun _ _ _ _ _ _ us hl => match us, hl with | [_, _], _ => rfl⟩
    d_l_numbers := ⟨F16, PySem.W.mg_of X G a16, F16.binds (ps := ["_law_marks"]) fun _ _ _ _ _ _ us hl => match us, hl with | [_], _ => rfl⟩
    d_l_moved := ⟨F17, PySem.W.mg_of X G a17, F17.binds (ps := ["_law_pot_here", "_law_lot", "_law_boxes", "_law_made", "_law_top"]) fun _ _ _ _ _ _ us hl => match us, hl with | [_, _, _, _, _], _ => rfl⟩
    d_l_is_shown := ⟨F18, PySem.W.mg_of X G a18, F18.binds (ps := ["_law_boxes", "_law_made"]) fun _ _ _ _ _ _ us hl => match us, hl with | [_, _], _ => rfl⟩
    d_l_end_right := ⟨F19, PySem.W.mg_of X G a19, F19.binds (ps := ["_law_lot", "_law_boxes", "_law_made", "_law_side"]) fun _ _ _ _ _ _ us hl => match us, hl with | [_, _, _, _], _ => rfl⟩
    d_l_right := ⟨F20, PySem.W.mg_of X G a20, F20.binds (ps := ["_law_pot_here"]) fun _ _ _ _ _ _ us hl => match us, hl with | [_], _ => rfl⟩
    d_law := ⟨F21, PySem.W.mg_of X G a21, F21.binds (ps := ["_law_script"]) fun _ _ _ _ _ _ us hl => match us, hl with | [_], _ => rfl⟩
    c_GONE := ⟨_, PySem.W.mg_of X G g_GONE⟩
    b_abs := PySem.W.mg_none_of X G z_abs
    b_all := PySem.W.mg_none_of X G z_all
    b_any := PySem.W.mg_none_of X G z_any
    b_bool := PySem.W.mg_none_of X G z_bool
    b_divmod := PySem.W.mg_none_of X G z_divmod
    b_enumerate := PySem.W.mg_none_of X G z_enumerate
    b_int := PySem.W.mg_none_of X G z_int
    b_isinstance := PySem.W.mg_none_of X G z_isinstance
    b_len := PySem.W.mg_none_of X G z_len
    b_list := PySem.W.mg_none_of X G z_list
    b_max := PySem.W.mg_none_of X G z_max
    b_min := PySem.W.mg_none_of X G z_min
    b_range := PySem.W.mg_none_of X G z_range
    b_repr := PySem.W.mg_none_of X G z_repr
    b_set := PySem.W.mg_none_of X G z_set
    b_sorted := PySem.W.mg_none_of X G z_sorted
    b_tuple := PySem.W.mg_none_of X G z_tuple
  }
end K17
namespace K17
open PySem L2 GG DD
section
variable {P : Program} {w : World} {K : PySem.W.Frag} {mg : Str → Option Value} {base : Heap} {ca fa : Nat → Addr} {fd : Nat → FuncData}
def b_is_integer (ca : Nat → Addr) : SF :=
  (sRet (dAnd (dCall (bIsi .int) (qC (pLate 0) (qC (pNow (dC (.ty "int"))) qNil))) (dNot (dCall (bIsi .bl) (qC (pLate 0) (qC (pNow (dC (.ty "bool"))) qNil))))))
def f_is_integer (ca : Nat → Addr) : Fn := runF 1 1 [] (b_is_integer ca)
theorem ok_is_integer (T : Txt K mg ca fa fd) : DFn P w K mg base 1 (fa 0) (fd 0) ["value"] (f_is_integer ca) := fn_denN (io := []) (fb := b_is_integer ca) T.d_is_integer.F sc_is_integer rfl rfl fun cdv A out s H E hg hr =>
      (dss_one (ds_ret (de_and (de_callB (bIsiD .int) (by rfl) T.b_isinstance (by decide +kernel) (dq_cons (pn 0) (dq_cons (dp_of (de_gTy (by rfl) T.b_int (by decide +kernel))) dq_nil))) (de_one (de_not (de_callB (bIsiD .bl) (by rfl) T.b_isinstance (by decide +kernel) (dq_cons (pn 0) (dq_cons (dp_of (de_gTy (by rfl) T.b_bool (by decide +kernel))) dq_nil))))))))
def b_is_list (ca : Nat → Addr) : SF :=
  (sRet (dCall (bIsiT [.lst, .tup]) (qC (pLate 0) (qC (pNow (dTup (aV (dC (.ty "list")) (aV (dC (.ty "tuple")) aNil)))) qNil))))
def f_is_list (ca : Nat → Addr) : Fn := runF 1 1 [] (b_is_list ca)
theorem ok_is_list (T : Txt K mg ca fa fd) : DFn P w K mg base 1 (fa 1) (fd 1) ["value"] (f_is_list ca) := fn_denN (io := []) (fb := b_is_list ca) T.d_is_list.F sc_is_list rfl rfl fun cdv A out s H E hg hr =>
      (dss_one (ds_ret (de_callB (bIsiTD [.lst, .tup]) (by rfl) T.b_isinstance (by decide +kernel) (dq_cons (pn 0) (dq_cons (dp_of (de_tup (da_cons (de_gTy (by rfl) T.b_list (by decide +kernel)) (da_cons (de_gTy (by rfl) T.b_tuple (by decide +kernel)) da_nil)))) dq_nil)))))
def b_normal (ca : Nat → Addr) : SF :=
  (sSeq (sSetO 1 (mLst aNil))
  (sSeq (sFor (iA (dVal 0)) (gNm 2) (sIf (tAnd (tOf (dOp oNe (pLate 2) (pNow (dC (.int (-1)))))) (tOf (dOp oNotIn (pLate 2) (pLate 1)))) (sEx (dMt 1 lAppend (aV (dVal 2) aNil))) sNx))
  (sRet (dCall bTuple (qC (pNow (dFrz (mLc (iA (dVal 0)) (gNm 2) tTrue (dIf (tOf (dOp oEq (pLate 2) (pNow (dC (.int (-1)))))) (dC (.int (-1))) (dMl lIndex (pLate 1) (qC (pLate 2) qNil))) [2]))) qNil)))))
def f_normal (ca : Nat → Addr) : Fn := runF 1 3 [] (b_normal ca)
theorem ok_normal (T : Txt K mg ca fa fd) : DFn P w K mg base 1 (fa 2) (fd 2) ["marks"] (f_normal ca) := fn_denN (io := []) (fb := b_normal ca) T.d_normal.F sc_normal rfl rfl fun cdv A out s H E hg hr =>
      (dss_cons (ds_setO (i := 1) sc_normal.nd rfl (.inr rfl) (do_lst da_nil))
      (dss_cons (ds_for PassesOwn.never rfl (di_any (dn 0)) (dg_name (i := 2) sc_normal.nd rfl (.inl rfl)) (dss_one (ds_if (dt_w (dw_and (dt_cmp (oNeD (by exact hr.units)) (pn 2) (dp_of (de_gInt (by rfl) T.c_GONE)) (nomark _)) (dw_and1 (dt_cmp (oNotInD (by exact GG.room65 hr)) (pn 2) (pn 1) (by rfl))))) (dss_one (ds_expr (mt 1 PySem.F.plainAttrs_list PySem.F.slot_list_append PySem.F.type_list_append lAppendD (da_cons (dn 2) da_nil)))) dss_nil)))
      (dss_one (ds_ret (de_callTy bTupleD (by rfl) T.b_tuple (by decide +kernel) (dq_cons (dp_of (de_frz (do_lc (own := [("mark", 2)]) rfl sc_normal.nd (di_any (dn 0)) (blkOk_by (own := [("mark", 2)]) (N := ["marks", "known", "mark"]) (sc := defScope s_normal) (by decide +kernel)) (fun _ _ _ _ _ => (dg_name (i := 2) sc_normal.nd rfl (.inl rfl))) (fun _ _ _ _ _ => dts_nil) (fun _ _ _ _ _ => (de_ifExp (dt_cmp (oEqD (by exact hr.units)) (pn 2) (dp_of (de_gInt (by rfl) T.c_GONE)) (nomark _)) (de_gInt (by rfl) T.c_GONE) (de_ml PySem.F.plainAttrs_list PySem.F.slot_list_index PySem.F.type_list_index (lIndexD (by exact GG.room65 hr)) (pn 1) (dq_cons (pn 2) dq_nil))))))) dq_nil))))))
def b_are_classes (ca : Nat → Addr) : SF :=
  (sSeq (sIf (tOr (tNot (tOf (dFrz (mFn (f_is_list ca) (aV (dVal 0) aNil))))) (tNot (tOf (dChain oLe oLe (pNow (dC (.int 1))) (pNow (dCall bLen (qC (pLate 0) qNil))) (pNow (dC (.int 8))))))) (sRet (dC (.bl false))) sNx)
  (sRet (dAnd (dCall bAll (qC (pNow (dFrz (mLc (iA (dVal 0)) (gNm 1) tTrue (dFrz (mFn (f_is_integer ca) (aV (dVal 1) aNil))) [1]))) qNil)) (dOp oEq (pNow (dFrz (mFn (f_normal ca) (aV (dVal 0) aNil)))) (pNow (dCall bTuple (qC (pLate 0) qNil)))))))
def f_are_classes (ca : Nat → Addr) : Fn := runF 1 2 [] (b_are_classes ca)
theorem ok_are_classes (T : Txt K mg ca fa fd) : DFn P w K mg base 2 (fa 3) (fd 3) ["value"] (f_are_classes ca) := fn_denN (io := []) (fb := b_are_classes ca) T.d_are_classes.F sc_are_classes rfl rfl fun cdv A out s H E hg hr =>
      (dss_cons (ds_if (dt_w (dw_or (dt_not (dt_val (de_frz (do_call ((ok_is_list T).raw T.d_is_list.b) (hr.mono (by decide)) hg (by rfl) T.d_is_list.at_ T.d_is_list.kp (da_cons (dn 0) da_nil))))) (dw_or1 (dt_not (dt_chain oLeD oLeD (dp_of de_int) (dp_of (de_callB bLenD (by rfl) T.b_len (by decide +kernel) (dq_cons (pn 0) dq_nil))) (dp_of (de_cval (pe_glob (v := .ref (ca 0)) (by rfl) T.cl_Partition.at_ rfl) T.cc_Partition_MOST_HOLDERS))))))) (dss_one (ds_ret de_bl)) dss_nil)
      (dss_one (ds_ret (de_and (de_callB (bAllD rfl) (by rfl) T.b_all (by decide +kernel) (dq_cons (dp_of (de_frz (do_lc (own := [("number", 1)]) rfl sc_are_classes.nd (di_any (dn 0)) (blkOk_by (own := [("number", 1)]) (N := ["value", "number"]) (sc := defScope s_are_classes) (by decide +kernel)) (fun _ _ _ _ _ => (dg_name (i := 1) sc_are_classes.nd rfl (.inl rfl))) (fun _ _ _ _ _ => dts_nil) (fun _ _ _ _ _ => (de_frz (do_call ((ok_is_integer T).raw T.d_is_integer.b) (hr.mono (by decide)) hg (by rfl) T.d_is_integer.at_ T.d_is_integer.kp (da_cons (dn 1) da_nil))))))) dq_nil)) (de_one (de_cmp (oEqD (by exact hr.units)) (dp_of (de_frz (do_call ((ok_normal T).raw T.d_normal.b) (hr.mono (by decide)) hg (by rfl) T.d_normal.at_ T.d_normal.kp (da_cons (dn 0) da_nil)))) (dp_of (de_callTy bTupleD (by rfl) T.b_tuple (by decide +kernel) (dq_cons (pn 0) dq_nil))) (nomark _)))))))
def b_Partition_init (ca : Nat → Addr) : SF :=
  (sSeq (sIf (tNot (tOf (dFrz (mFn (f_are_classes ca) (aV (dVal 1) aNil))))) sNever sNx)
  (sFldSet (ca 0) "own_classes" 0 (dCall bTuple (qC (pLate 1) qNil))))
def f_Partition_init (ca : Nat → Addr) : Fn := runF 2 2 [0] (b_Partition_init ca)
theorem ok_Partition_init (T : Txt K mg ca fa fd) : DFn P w K mg base 3 (fa 4) (fd 4) ["self", "classes"] (f_Partition_init ca) := fn_denN (io := [0]) (fb := b_Partition_init ca) T.d_Partition_init.F sc_Partition_init rfl rfl fun cdv A out s H E hg hr =>
      (dss_cons (ds_if (dt_not (dt_val (de_frz (do_call ((ok_are_classes T).raw T.d_are_classes.b) (hr.mono (by decide)) hg (by rfl) T.d_are_classes.at_ T.d_are_classes.kp (da_cons (dn 1) da_nil))))) (dss_one ds_never) dss_nil)
      (dss_one (fs 0 T.cl_Partition.cls T.no_Partition_own_classes (de_callTy bTupleD (by rfl) T.b_tuple (by decide +kernel) (dq_cons (pn 1) dq_nil)))))
def b_Partition_classes (ca : Nat → Addr) : SF :=
  (sRet (dFld (ca 0) "own_classes" (pLate 0)))
def f_Partition_classes (ca : Nat → Addr) : Fn := runF 1 1 [] (b_Partition_classes ca)
theorem ok_Partition_classes (T : Txt K mg ca fa fd) : DFn P w K mg base 1 (fa 5) (fd 5) ["self"] (f_Partition_classes ca) := fn_denN (io := []) (fb := b_Partition_classes ca) T.d_Partition_classes.F sc_Partition_classes rfl rfl fun cdv A out s H E hg hr =>
      (dss_one (ds_ret (de_fld (pn 0) T.cl_Partition.cls T.no_Partition_own_classes)))
def b_Partition_want_holders (ca : Nat → Addr) : SF :=
  (sFor (iA (dVal 1)) (gNm 2) (sIf (tOr (tNot (tOf (dFrz (mFn (f_is_integer ca) (aV (dVal 2) aNil))))) (tNot (tOf (dChain oLe oLt (pNow (dC (.int 0))) (pLate 2) (pNow (dCall bLen (qC (pNow (dFld (ca 0) "own_classes" (pLate 0))) qNil))))))) sNever sNx))
def f_Partition_want_holders (ca : Nat → Addr) : Fn := runF 2 3 [] (b_Partition_want_holders ca)
theorem ok_Partition_want_holders (T : Txt K mg ca fa fd) : DFn P w K mg base 2 (fa 6) (fd 6) ["self", "holders"] (f_Partition_want_holders ca) := fn_denN (io := []) (fb := b_Partition_want_holders ca) T.d_Partition_want_holders.F sc_Partition_want_holders rfl rfl fun cdv A out s H E hg hr =>
      (dss_one (ds_for PassesOwn.never rfl (di_any (dn 1)) (dg_name (i := 2) sc_Partition_want_holders.nd rfl (.inl rfl)) (dss_one (ds_if (dt_w (dw_or (dt_not (dt_val (de_frz (do_call ((ok_is_integer T).raw T.d_is_integer.b) (hr.mono (by decide)) hg (by rfl) T.d_is_integer.at_ T.d_is_integer.kp (da_cons (dn 2) da_nil))))) (dw_or1 (dt_not (dt_chain oLeD oLtD (dp_of de_int) (pn 2) (dp_of (de_callB bLenD (by rfl) T.b_len (by decide +kernel) (dq_cons (dp_of (de_fld (pn 0) T.cl_Partition.cls T.no_Partition_own_classes)) dq_nil)))))))) (dss_one ds_never) dss_nil))))
def b_Partition_is_alike (ca : Nat → Addr) : SF :=
  (sSeq (sEx (dFrz (mMt (ca 0) "want_holders" (f_Partition_want_holders ca) (dVal 0) (aV (dVal 1) aNil))))
  (sSeq (sAsg (dFrz (mLc (iA (dVal 1)) (gNm 3) tTrue (dOp oIxA (pNow (dFld (ca 0) "own_classes" (pLate 0))) (pLate 3)) [3])) (gNm 2))
  (sRet (dCall bAll (qC (pNow (dFrz (mLc (iA (dVal 2)) (gNm 4) tTrue (dAnd (dOp oNe (pLate 4) (pNow (dC (.int (-1))))) (dOp oEq (pLate 4) (pNow (dOp oIxA (pLate 2) (pNow (dC (.int 0))))))) [4]))) qNil)))))
def f_Partition_is_alike (ca : Nat → Addr) : Fn := starF 1 (runF 2 5 [] (b_Partition_is_alike ca))
theorem ok_Partition_is_alike (T : Txt K mg ca fa fd) : FnRG P w K mg base 3 (fa 7) (spD K (f_Partition_is_alike ca)) := fn_starN (io := []) (fb := b_Partition_is_alike ca) T.d_Partition_is_alike.F sc_Partition_is_alike T.d_Partition_is_alike.b rfl fun cdv A out s H E hg hr =>
      (dss_cons (ds_expr (de_frz (do_meth (dn 0) T.cl_Partition.cls T.d_Partition_want_holders.M ((ok_Partition_want_holders T).raw T.d_Partition_want_holders.b) (hr.mono (by decide)) hg (da_cons (dn 1) da_nil))))
      (dss_cons (ds_set (i := 2) sc_Partition_is_alike.nd rfl (.inr rfl) (de_frz (do_lc (own := [("holder", 3)]) rfl sc_Partition_is_alike.nd (di_any (dn 1)) (blkOk_by (own := [("holder", 3)]) (N := ["self", "holders", "marks", "holder", "mark"]) (sc := defScope s_Partition_is_alike) (by decide +kernel)) (fun _ _ _ _ _ => (dg_name (i := 3) sc_Partition_is_alike.nd rfl (.inl rfl))) (fun _ _ _ _ _ => dts_nil) (fun _ _ _ _ _ => (de_ix oIxAD (dp_of (de_fld (pn 0) T.cl_Partition.cls T.no_Partition_own_classes)) (pn 3) (fun _ _ => rfl))))))
      (dss_one (ds_ret (de_callB (bAllD rfl) (by rfl) T.b_all (by decide +kernel) (dq_cons (dp_of (de_frz (do_lc (own := [("mark", 4)]) rfl sc_Partition_is_alike.nd (di_any (dn 2)) (blkOk_by (own := [("mark", 4)]) (N := ["self", "holders", "marks", "holder", "mark"]) (sc := defScope s_Partition_is_alike) (by decide +kernel)) (fun _ _ _ _ _ => (dg_name (i := 4) sc_Partition_is_alike.nd rfl (.inl rfl))) (fun _ _ _ _ _ => dts_nil) (fun _ _ _ _ _ => (de_and (de_cmp (oNeD (by exact hr.units)) (pn 4) (dp_of (de_gInt (by rfl) T.c_GONE)) (nomark _)) (de_one (de_cmp (oEqD (by exact hr.units)) (pn 4) (dp_of (de_ix oIxAD (pn 2) (dp_of de_int) (fun _ _ => rfl))) (nomark _)))))))) dq_nil))))))
def b_Partition_groups (ca : Nat → Addr) : SF :=
  (sSeq (sAsg (dFld (ca 0) "own_classes" (pLate 0)) (gNm 1))
  (sSeq (sAsg (dFrz (mLc (iEnA (aV (dVal 1) aNil)) (gTp 2 (gsC (gNm 3) (gsC (gNm 4) gsNil))) (tAnd (tOf (dOp oNe (pLate 4) (pNow (dC (.int (-1)))))) (tOf (dOp oNotInF (pLate 4) (pNow (dSlT (pLate 1) lNone (lSome (dVal 3))))))) (dVal 3) [3, 4])) (gNm 2))
  (sRetO (mLc (iA (dVal 2)) (gNm 5) tTrue (dFrz (mLc (iEnA (aV (dVal 1) aNil)) (gTp 2 (gsC (gNm 3) (gsC (gNm 4) gsNil))) (tOf (dOp oEq (pLate 4) (pNow (dOp oIxA (pLate 1) (pLate 5))))) (dVal 3) [3, 4])) [5]))))
def f_Partition_groups (ca : Nat → Addr) : Fn := runF 1 6 [] (b_Partition_groups ca)
theorem ok_Partition_groups (T : Txt K mg ca fa fd) : DFn P w K mg base 1 (fa 8) (fd 8) ["self"] (f_Partition_groups ca) := fn_denN (io := []) (fb := b_Partition_groups ca) T.d_Partition_groups.F sc_Partition_groups rfl rfl fun cdv A out s H E hg hr =>
      (dss_cons (ds_set (i := 1) sc_Partition_groups.nd rfl (.inr rfl) (de_fld (pn 0) T.cl_Partition.cls T.no_Partition_own_classes))
      (dss_cons (ds_setLcD (i := 2) (own := [("holder", 3), ("mark", 4)]) rfl sc_Partition_groups.nd rfl rfl (sw_true rfl rfl rfl (by decide +kernel)) (di_enumA (by rfl) T.b_enumerate (da_cons (dn 1) da_nil)) (blkOk_by (own := [("holder", 3), ("mark", 4)]) (N := ["self", "marks", "least", "holder", "mark", "first"]) (sc := defScope s_Partition_groups) (by decide +kernel)) (fun _ _ _ _ _ => (dg_tup rfl (dgs_cons (dg_name (i := 3) sc_Partition_groups.nd rfl (.inl rfl)) (dgs_cons (dg_name (i := 4) sc_Partition_groups.nd rfl (.inl rfl)) dgs_nil)))) (fun _ _ _ _ _ => (dts_one (dt_w (dw_and (dt_cmp (oNeD (by exact hr.units)) (pn 4) (dp_of (de_gInt (by rfl) T.c_GONE)) (nomark _)) (dw_and1 (dt_cmp oNotInFD (pn 4) (dp_of (de_slT (pn 1) dl_none (dl_some (dn 3)))) (by rfl))))))) (fun _ _ _ _ _ => (dn 3)))
      (dss_one (ds_retO (do_lc (own := [("first", 5)]) rfl sc_Partition_groups.nd (di_any (dn 2)) (blkOk_by (own := [("first", 5)]) (N := ["self", "marks", "least", "holder", "mark", "first"]) (sc := defScope s_Partition_groups) (by decide +kernel)) (fun _ _ _ _ _ => (dg_name (i := 5) sc_Partition_groups.nd rfl (.inr rfl))) (fun _ _ _ _ _ => dts_nil) (fun _ _ _ _ _ => (de_frz (do_lc (own := [("holder", 3), ("mark", 4)]) rfl sc_Partition_groups.nd (di_enumA (by rfl) T.b_enumerate (da_cons (dn 1) da_nil)) (blkOk_by (own := [("holder", 3), ("mark", 4)]) (N := ["self", "marks", "least", "holder", "mark", "first"]) (sc := _) (by rfl)) (fun _ _ _ _ _ => (dg_tup rfl (dgs_cons (dg_name (i := 3) sc_Partition_groups.nd rfl (.inl rfl)) (dgs_cons (dg_name (i := 4) sc_Partition_groups.nd rfl (.inl rfl)) dgs_nil)))) (fun _ _ _ _ _ => (dts_one (dt_cmp (oEqD (by exact hr.units)) (pn 4) (dp_of (de_ix oIxAD (pn 1) (pn 5) (fun _ _ => rfl))) (nomark _)))) (fun _ _ _ _ _ => (dn 3))))))))))
def b_Partition_gone (ca : Nat → Addr) : SF :=
  (sRetO (mLc (iEnA (aV (dFld (ca 0) "own_classes" (pLate 0)) aNil)) (gTp 2 (gsC (gNm 1) (gsC (gNm 2) gsNil))) (tOf (dOp oEq (pLate 2) (pNow (dC (.int (-1)))))) (dVal 1) [1, 2]))
def f_Partition_gone (ca : Nat → Addr) : Fn := runF 1 3 [] (b_Partition_gone ca)
theorem ok_Partition_gone (T : Txt K mg ca fa fd) : DFn P w K mg base 1 (fa 9) (fd 9) ["self"] (f_Partition_gone ca) := fn_denN (io := []) (fb := b_Partition_gone ca) T.d_Partition_gone.F sc_Partition_gone rfl rfl fun cdv A out s H E hg hr =>
      (dss_one (ds_retO (do_lc (own := [("holder", 1), ("mark", 2)]) rfl sc_Partition_gone.nd (di_enumA (by rfl) T.b_enumerate (da_cons (de_fld (pn 0) T.cl_Partition.cls T.no_Partition_own_classes) da_nil)) (blkOk_by (own := [("holder", 1), ("mark", 2)]) (N := ["self", "holder", "mark"]) (sc := defScope s_Partition_gone) (by decide +kernel)) (fun _ _ _ _ _ => (dg_tup rfl (dgs_cons (dg_name (i := 1) sc_Partition_gone.nd rfl (.inl rfl)) (dgs_cons (dg_name (i := 2) sc_Partition_gone.nd rfl (.inl rfl)) dgs_nil)))) (fun _ _ _ _ _ => (dts_one (dt_cmp (oEqD (by exact hr.units)) (pn 2) (dp_of (de_gInt (by rfl) T.c_GONE)) (nomark _)))) (fun _ _ _ _ _ => (dn 1)))))
def b_Partition_with_mark (ca : Nat → Addr) : SF :=
  (sSeq (sAsg (dFrz (mLc (iEnA (aV (dFld (ca 0) "own_classes" (pLate 0)) aNil)) (gTp 2 (gsC (gNm 4) (gsC (gNm 5) gsNil))) tTrue (dIf (tOf (dOp oInF (pLate 4) (pLate 1))) (dVal 2) (dVal 5)) [4, 5])) (gNm 3))
  (sRetO (mMk (ca 0) (f_Partition_init ca) (aV (dFrz (mFn (f_normal ca) (aV (dVal 3) aNil))) aNil))))
def f_Partition_with_mark (ca : Nat → Addr) : Fn := runF 3 6 [] (b_Partition_with_mark ca)
theorem ok_Partition_with_mark (T : Txt K mg ca fa fd) : DFn P w K mg base 5 (fa 10) (fd 10) ["self", "holders", "mark"] (f_Partition_with_mark ca) := fn_denN (io := []) (fb := b_Partition_with_mark ca) T.d_Partition_with_mark.F sc_Partition_with_mark rfl rfl fun cdv A out s H E hg hr =>
      (dss_cons (ds_setLcD (i := 3) (own := [("holder", 4), ("own", 5)]) rfl sc_Partition_with_mark.nd rfl rfl (sw_true rfl rfl rfl (by decide +kernel)) (di_enumA (by rfl) T.b_enumerate (da_cons (de_fld (pn 0) T.cl_Partition.cls T.no_Partition_own_classes) da_nil)) (blkOk_by (own := [("holder", 4), ("own", 5)]) (N := ["self", "holders", "mark", "marks", "holder", "own"]) (sc := defScope s_Partition_with_mark) (by decide +kernel)) (fun _ _ _ _ _ => (dg_tup rfl (dgs_cons (dg_name (i := 4) sc_Partition_with_mark.nd rfl (.inl rfl)) (dgs_cons (dg_name (i := 5) sc_Partition_with_mark.nd rfl (.inl rfl)) dgs_nil)))) (fun _ _ _ _ _ => dts_nil) (fun _ _ _ _ _ => (de_ifExp (dt_cmp oInFD (pn 4) (pn 1) (by rfl)) (dn 2) (dn 5))))
      (dss_one (ds_retO (do_make T.mk_Partition ((ok_Partition_init T).raw T.d_Partition_init.b) (hr.mono (by decide)) hg (by rfl) T.cl_Partition.at_ (da_cons (de_frz (do_call ((ok_normal T).raw T.d_normal.b) (hr.mono (by decide)) hg (by rfl) T.d_normal.at_ T.d_normal.kp (da_cons (dn 3) da_nil))) da_nil)))))
def b_Partition_copied (ca : Nat → Addr) : SF :=
  (sSeq (sEx (dFrz (mMt (ca 0) "want_holders" (f_Partition_want_holders ca) (dVal 0) (aV (dFrz (mLst (aV (dVal 1) (aV (dVal 2) aNil)))) aNil))))
  (sRetO (mMt (ca 0) "with_mark" (f_Partition_with_mark ca) (dVal 0) (aV (dFrz (mLst (aV (dVal 1) aNil))) (aV (dOp oIxA (pNow (dFld (ca 0) "own_classes" (pLate 0))) (pLate 2)) aNil)))))
def f_Partition_copied (ca : Nat → Addr) : Fn := runF 3 3 [] (b_Partition_copied ca)
theorem ok_Partition_copied (T : Txt K mg ca fa fd) : DFn P w K mg base 6 (fa 11) (fd 11) ["self", "target", "source"] (f_Partition_copied ca) := fn_denN (io := []) (fb := b_Partition_copied ca) T.d_Partition_copied.F sc_Partition_copied rfl rfl fun cdv A out s H E hg hr =>
      (dss_cons (ds_expr (de_frz (do_meth (dn 0) T.cl_Partition.cls T.d_Partition_want_holders.M ((ok_Partition_want_holders T).raw T.d_Partition_want_holders.b) (hr.mono (by decide)) hg (da_cons (de_frz (do_lst (da_cons (dn 1) (da_cons (dn 2) da_nil)))) da_nil))))
      (dss_one (ds_retO (do_meth (dn 0) T.cl_Partition.cls T.d_Partition_with_mark.M ((ok_Partition_with_mark T).raw T.d_Partition_with_mark.b) (hr.mono (by decide)) hg (da_cons (de_frz (do_lst (da_cons (dn 1) da_nil))) (da_cons (de_ix oIxAD (dp_of (de_fld (pn 0) T.cl_Partition.cls T.no_Partition_own_classes)) (pn 2) (fun _ _ => rfl)) da_nil))))))
def b_Partition_fresh (ca : Nat → Addr) : SF :=
  (sSeq (sEx (dFrz (mMt (ca 0) "want_holders" (f_Partition_want_holders ca) (dVal 0) (aV (dVal 1) aNil))))
  (sRetO (mMt (ca 0) "with_mark" (f_Partition_with_mark ca) (dVal 0) (aV (dVal 1) (aV (dCall bLen (qC (pNow (dFld (ca 0) "own_classes" (pLate 0))) qNil)) aNil)))))
def f_Partition_fresh (ca : Nat → Addr) : Fn := starF 1 (runF 2 2 [] (b_Partition_fresh ca))
theorem ok_Partition_fresh (T : Txt K mg ca fa fd) : FnRG P w K mg base 6 (fa 12) (spD K (f_Partition_fresh ca)) := fn_starN (io := []) (fb := b_Partition_fresh ca) T.d_Partition_fresh.F sc_Partition_fresh T.d_Partition_fresh.b rfl fun cdv A out s H E hg hr =>
      (dss_cons (ds_expr (de_frz (do_meth (dn 0) T.cl_Partition.cls T.d_Partition_want_holders.M ((ok_Partition_want_holders T).raw T.d_Partition_want_holders.b) (hr.mono (by decide)) hg (da_cons (dn 1) da_nil))))
      (dss_one (ds_retO (do_meth (dn 0) T.cl_Partition.cls T.d_Partition_with_mark.M ((ok_Partition_with_mark T).raw T.d_Partition_with_mark.b) (hr.mono (by decide)) hg (da_cons (dn 1) (da_cons (de_callB bLenD (by rfl) T.b_len (by decide +kernel) (dq_cons (dp_of (de_fld (pn 0) T.cl_Partition.cls T.no_Partition_own_classes)) dq_nil)) da_nil))))))
def b_Partition_without (ca : Nat → Addr) : SF :=
  (sSeq (sEx (dFrz (mMt (ca 0) "want_holders" (f_Partition_want_holders ca) (dVal 0) (aV (dVal 1) aNil))))
  (sRetO (mMt (ca 0) "with_mark" (f_Partition_with_mark ca) (dVal 0) (aV (dVal 1) (aV (dC (.int (-1))) aNil)))))
def f_Partition_without (ca : Nat → Addr) : Fn := starF 1 (runF 2 2 [] (b_Partition_without ca))
theorem ok_Partition_without (T : Txt K mg ca fa fd) : FnRG P w K mg base 6 (fa 13) (spD K (f_Partition_without ca)) := fn_starN (io := []) (fb := b_Partition_without ca) T.d_Partition_without.F sc_Partition_without T.d_Partition_without.b rfl fun cdv A out s H E hg hr =>
      (dss_cons (ds_expr (de_frz (do_meth (dn 0) T.cl_Partition.cls T.d_Partition_want_holders.M ((ok_Partition_want_holders T).raw T.d_Partition_want_holders.b) (hr.mono (by decide)) hg (da_cons (dn 1) da_nil))))
      (dss_one (ds_retO (do_meth (dn 0) T.cl_Partition.cls T.d_Partition_with_mark.M ((ok_Partition_with_mark T).raw T.d_Partition_with_mark.b) (hr.mono (by decide)) hg (da_cons (dn 1) (da_cons (de_gInt (by rfl) T.c_GONE) da_nil))))))
def b_l_pot (ca : Nat → Addr) : SF :=
  (sSeq (sAsg (dOp oAdd (pNow (dOp oMul (pNow (dC (.int 41))) (pLate 1))) (pNow (dC (.int 9)))) (gNm 2))
  (sSeq (sIf (tOf (dOp oLt (pLate 1) (pNow (dCall bLen (qC (pLate 0) qNil))))) (sAsg (dCall bAbs (qC (pNow (dOp oIxA (pLate 0) (pLate 1))) qNil)) (gNm 2)) sNx)
  (sRetO (mLst (aV (dCall bMax2 (qC (pNow (dC (.int 0))) (qC (pNow (dOp oSub (pLate 2) (pNow (dOp oPow (pNow (dC (.int 10))) (pNow (dC (.int 18))))))) qNil))) (aV (dOp oAdd (pNow (dOp oMod (pNow (dOp oMul (pNow (dCall bInt (qC (pNow (dOp oAdd (pNow (dOp oMod (pNow (dCall bInt (qC (pLate 2) qNil))) (pNow (dC (.int 2147483549))))) (pNow (dC (.int 19))))) qNil))) (pNow (dOp oPow (pNow (dOp oAdd (pNow (dOp oMul (pNow (dC (.int 2))) (pLate 1))) (pNow (dC (.int 3))))) (pNow (dC (.int 3))))))) (pNow (dC (.int 2147483477))))) (pNow (dC (.int 1)))) aNil))))))
def f_l_pot (ca : Nat → Addr) : Fn := runF 2 3 [] (b_l_pot ca)
theorem ok_l_pot (T : Txt K mg ca fa fd) : DFn P w K mg base 1 (fa 14) (fd 14) ["_law_script", "_law_k"] (f_l_pot ca) := fn_denN (io := []) (fb := b_l_pot ca) T.d_l_pot.F sc_l_pot rfl rfl fun cdv A out s H E hg hr =>
      (dss_cons (ds_set (i := 2) sc_l_pot.nd rfl (.inl rfl) (de_op oAddD (dp_of (de_op oMulD (dp_of de_int) (pn 1))) (dp_of de_int)))
      (dss_cons (ds_if (dt_cmp oLtD (pn 1) (dp_of (de_callB bLenD (by rfl) T.b_len (by decide +kernel) (dq_cons (pn 0) dq_nil))) (nomark _)) (dss_one (ds_set (i := 2) sc_l_pot.nd rfl (.inl rfl) (de_callB bAbsD (by rfl) T.b_abs (by decide +kernel) (dq_cons (dp_of (de_ix oIxAD (pn 0) (pn 1) (fun _ _ => rfl))) dq_nil)))) dss_nil)
      (dss_one (ds_retO (do_lst (da_cons (de_callB (bMax2D rfl) (by rfl) T.b_max (by decide +kernel) (dq_cons (dp_of de_int) (dq_cons (dp_of (de_op oSubD (pn 2) (dp_of (de_op oPowD (dp_of de_int) (dp_of de_int))))) dq_nil))) (da_cons (de_op oAddD (dp_of (de_op oModD (dp_of (de_op oMulD (dp_of (de_callTy bIntD (by rfl) T.b_int (by decide +kernel) (dq_cons (dp_of (de_op oAddD (dp_of (de_op oModD (dp_of (de_callTy bIntD (by rfl) T.b_int (by decide +kernel) (dq_cons (pn 2) dq_nil))) (dp_of de_int))) (dp_of de_int))) dq_nil))) (dp_of (de_op oPowD (dp_of (de_op oAddD (dp_of (de_op oMulD (dp_of de_int) (pn 1))) (dp_of de_int))) (dp_of de_int))))) (dp_of de_int))) (dp_of de_int)) da_nil)))))))
def b_l_draw (ca : Nat → Addr) : SF :=
  (sSeq (sIf (tOf (dOp oGt (pNow (dOp oIxA (pLate 0) (pNow (dC (.int 0))))) (pNow (dC (.int 0))))) (sSeq (sAsg (dCall bDivmod (qC (pNow (dOp oIxA (pLate 0) (pNow (dC (.int 0))))) (qC (pLate 1) qNil))) (gTp 2 (gsC (gIx 0 (dC (.int 0))) (gsC (gNm 2) gsNil))))
  (sRetNm 2)) sNx)
  (sSeq (sAsg (dOp oMod (pNow (dCall bInt (qC (pNow (dOp oAdd (pNow (dOp oMul (pNow (dOp oIxA (pLate 0) (pNow (dC (.int 1))))) (pNow (dC (.int 48271))))) (pNow (dC (.int 12391))))) qNil))) (pNow (dC (.int 2147483587)))) (gIx 0 (dC (.int 1))))
  (sRet (dOp oMod (pNow (dCall bInt (qC (pNow (dOp oFdiv (pNow (dOp oMod (pNow (dCall bInt (qC (pNow (dOp oMul (pNow (dOp oIxA (pLate 0) (pNow (dC (.int 1))))) (pNow (dOp oIxA (pLate 0) (pNow (dC (.int 1))))))) qNil))) (pNow (dC (.int 2147483549))))) (pNow (dC (.int 17))))) qNil))) (pLate 1)))))
def f_l_draw (ca : Nat → Addr) : Fn := runF 2 3 [0] (b_l_draw ca)
theorem ok_l_draw (T : Txt K mg ca fa fd) : DFn P w K mg base 1 (fa 15) (fd 15) ["_law_pot_here", "_law_lot"] (f_l_draw ca) := fn_denN (io := [0]) (fb := b_l_draw ca) T.d_l_draw.F sc_l_draw rfl rfl fun cdv A out s H E hg hr =>
      (dss_cons (ds_if (dt_cmp oGtD (dp_of (de_ix oIxAD (pn 0) (dp_of de_int) (fun _ _ => rfl))) (dp_of de_int) (nomark _)) (dss_cons (ds_asg (de_callB bDivmodD (by rfl) T.b_divmod (by decide +kernel) (dq_cons (dp_of (de_ix oIxAD (pn 0) (dp_of de_int) (fun _ _ => rfl))) (dq_cons (pn 1) dq_nil))) (dg_tup rfl (dgs_cons (gx 0 de_int) (dgs_cons (dg_name (i := 2) sc_l_draw.nd rfl (.inl rfl)) dgs_nil))))
      (dss_one (rn 2))) dss_nil)
      (dss_cons (ds_asg (de_op oModD (dp_of (de_callTy bIntD (by rfl) T.b_int (by decide +kernel) (dq_cons (dp_of (de_op oAddD (dp_of (de_op oMulD (dp_of (de_ix oIxAD (pn 0) (dp_of de_int) (fun _ _ => rfl))) (dp_of de_int))) (dp_of de_int))) dq_nil))) (dp_of de_int)) (gx 0 de_int))
      (dss_one (ds_ret (de_op oModD (dp_of (de_callTy bIntD (by rfl) T.b_int (by decide +kernel) (dq_cons (dp_of (de_op oFdivD (dp_of (de_op oModD (dp_of (de_callTy bIntD (by rfl) T.b_int (by decide +kernel) (dq_cons (dp_of (de_op oMulD (dp_of (de_ix oIxAD (pn 0) (dp_of de_int) (fun _ _ => rfl))) (dp_of (de_ix oIxAD (pn 0) (dp_of de_int) (fun _ _ => rfl))))) dq_nil))) (dp_of de_int))) (dp_of de_int))) dq_nil))) (pn 1))))))
def b_l_numbers (ca : Nat → Addr) : SF :=
  (sSeq (sParO 1 2 (mLst aNil) (mLst aNil))
  (sSeq (sFor (iA (dVal 0)) (gNm 3) (sSeq (sIf (tAnd (tOf (dOp oIsNot (pLate 3) (pNow (dC .non)))) (tOf (dOp oNotIn (pLate 3) (pLate 1)))) (sEx (dMt 1 lAppend (aV (dVal 3) aNil))) sNx)
  (sEx (dMt 2 lAppend (aV (dIf (tOf (dOp oIs (pLate 3) (pNow (dC .non)))) (dUn uNeg (pNow (dC (.int 1)))) (dMl lIndex (pLate 1) (qC (pLate 3) qNil))) aNil)))))
  (sRetNm 2)))
def f_l_numbers (ca : Nat → Addr) : Fn := runF 1 4 [] (b_l_numbers ca)
theorem ok_l_numbers (T : Txt K mg ca fa fd) : DFn P w K mg base 1 (fa 16) (fd 16) ["_law_marks"] (f_l_numbers ca) := fn_denN (io := []) (fb := b_l_numbers ca) T.d_l_numbers.F sc_l_numbers rfl rfl fun cdv A out s H E hg hr =>
      (dss_cons (ds_parO (i := 1) (j := 2) (by rfl) sc_l_numbers.nd rfl rfl (by decide) rfl rfl (do_lst da_nil) (do_lst da_nil) (by rfl))
      (dss_cons (ds_for PassesOwn.never rfl (di_any (dn 0)) (dg_name (i := 3) sc_l_numbers.nd rfl (.inl rfl)) (dss_cons (ds_if (dt_w (dw_and (dt_cmp oIsNotD (pn 3) (dp_of de_non) (nomark _)) (dw_and1 (dt_cmp (oNotInD (by exact GG.room65 hr)) (pn 3) (pn 1) (by rfl))))) (dss_one (ds_expr (mt 1 PySem.F.plainAttrs_list PySem.F.slot_list_append PySem.F.type_list_append lAppendD (da_cons (dn 3) da_nil)))) dss_nil)
      (dss_one (ds_expr (mt 2 PySem.F.plainAttrs_list PySem.F.slot_list_append PySem.F.type_list_append lAppendD (da_cons (de_ifExp (dt_cmp oIsD (pn 3) (dp_of de_non) (nomark _)) (de_un uNegD (dp_of de_int)) (de_ml PySem.F.plainAttrs_list PySem.F.slot_list_index PySem.F.type_list_index (lIndexD (by exact GG.room65 hr)) (pn 1) (dq_cons (pn 3) dq_nil))) da_nil))))))
      (dss_one (rn 2))))
def b_l_moved (ca : Nat → Addr) : SF :=
  (sSeq (sPar (aV (dFrz (mFn (f_l_draw ca) (aIo 0 (aV (dC (.int 6)) aNil)))) (aV (dFrz (mFn (f_l_draw ca) (aIo 0 (aV (dVal 1) aNil)))) (aV (dFrz (mFn (f_l_draw ca) (aIo 0 (aV (dVal 1) aNil)))) aNil))) (gSet3 5 6 7))
  (sSeq (sParO 8 9 (mV (dOp oMul (pLate 1) (pNow (dFrz (mFn (f_l_draw ca) (aIo 0 (aV (dC (.int 2)) aNil))))))) (mCall bList (qC (pLate 2) qNil)))
  (sSeq (sIf (tOf (dOp oEq (pLate 5) (pNow (dC (.int 0))))) (sSeq (sAsg (dVal 4) (gIx 9 (dOp oAdd (pLate 8) (pLate 6))))
  (sAsg (dFrz (mMt (ca 0) "fresh" (f_Partition_fresh ca) (dVal 3) (aV (dOp oAdd (pLate 8) (pLate 6)) aNil))) (gNm 3))) (sIf (tOf (dOp oEq (pLate 5) (pNow (dC (.int 1))))) (sSeq (sAsg (dTup (aV (dVal 4) (aV (dVal 4) aNil))) (gTp 2 (gsC (gIx 9 (dVal 6)) (gsC (gIx 9 (dOp oAdd (pLate 1) (pLate 6))) gsNil))))
  (sAsg (dFrz (mMt (ca 0) "fresh" (f_Partition_fresh ca) (dVal 3) (aV (dVal 6) (aV (dOp oAdd (pLate 1) (pLate 6)) aNil)))) (gNm 3))) (sIf (tOf (dOp oEq (pLate 5) (pNow (dC (.int 2))))) (sSeq (sAsg (dTup (aV (dVal 4) (aV (dOp oAdd (pLate 4) (pNow (dC (.int 1)))) aNil))) (gTp 2 (gsC (gIx 9 (dVal 6)) (gsC (gIx 9 (dOp oAdd (pLate 1) (pLate 6))) gsNil))))
  (sAsg (dFrz (mMt (ca 0) "fresh" (f_Partition_fresh ca) (dFrz (mMt (ca 0) "fresh" (f_Partition_fresh ca) (dVal 3) (aV (dVal 6) aNil))) (aV (dOp oAdd (pLate 1) (pLate 6)) aNil))) (gNm 3))) (sIf (tOf (dOp oEq (pLate 5) (pNow (dC (.int 3))))) (sSeq (sAsg (dTup (aV (dVal 4) (aV (dVal 4) aNil))) (gTp 2 (gsC (gIx 9 (dVal 6)) (gsC (gIx 9 (dOp oAdd (pLate 1) (pLate 7))) gsNil))))
  (sAsg (dFrz (mMt (ca 0) "fresh" (f_Partition_fresh ca) (dVal 3) (aV (dOp oAdd (pLate 1) (pLate 7)) (aV (dVal 6) aNil)))) (gNm 3))) (sIf (tOf (dOp oEq (pLate 5) (pNow (dC (.int 4))))) (sSeq (sAsg (dOp oIxA (pLate 2) (pNow (dOp oAdd (pLate 8) (pLate 7)))) (gIx 9 (dOp oAdd (pLate 8) (pLate 6))))
  (sAsg (dFrz (mMt (ca 0) "copied" (f_Partition_copied ca) (dVal 3) (aV (dOp oAdd (pLate 8) (pLate 6)) (aV (dOp oAdd (pLate 8) (pLate 7)) aNil)))) (gNm 3))) (sSeq (sAsg (dTup (aV (dOp oIxA (pLate 2) (pLate 7)) (aV (dOp oIxA (pLate 2) (pNow (dOp oAdd (pLate 1) (pLate 7)))) aNil))) (gTp 2 (gsC (gIx 9 (dVal 6)) (gsC (gIx 9 (dOp oAdd (pLate 1) (pLate 6))) gsNil))))
  (sAsg (dFrz (mMt (ca 0) "copied" (f_Partition_copied ca) (dFrz (mMt (ca 0) "copied" (f_Partition_copied ca) (dVal 3) (aV (dVal 6) (aV (dVal 7) aNil)))) (aV (dOp oAdd (pLate 1) (pLate 6)) (aV (dOp oAdd (pLate 1) (pLate 7)) aNil)))) (gNm 3))))))))
  (sRet (dTup (aV (dVal 9) (aV (dVal 3) aNil)))))))
def f_l_moved (ca : Nat → Addr) : Fn := runF 5 10 [0] (b_l_moved ca)
theorem ok_l_moved (T : Txt K mg ca fa fd) : DFn P w K mg base 7 (fa 17) (fd 17) ["_law_pot_here", "_law_lot", "_law_boxes", "_law_made", "_law_top"] (f_l_moved ca) := fn_denN (io := [0]) (fb := b_l_moved ca) T.d_l_moved.F sc_l_moved rfl rfl fun cdv A out s H E hg hr =>
      (dss_cons (ds_par3 (i := 5) (j := 6) (l := 7) (by rfl) sc_l_moved.nd rfl rfl rfl (by decide) (by decide) (by decide) rfl rfl rfl (da_cons (de_frz (do_call ((ok_l_draw T).raw T.d_l_draw.b) (hr.mono (by decide)) hg (by rfl) T.d_l_draw.at_ T.d_l_draw.kp (an 0 (da_cons de_int da_nil)))) (da_cons (de_frz (do_call ((ok_l_draw T).raw T.d_l_draw.b) (hr.mono (by decide)) hg (by rfl) T.d_l_draw.at_ T.d_l_draw.kp (an 0 (da_cons (dn 1) da_nil)))) (da_cons (de_frz (do_call ((ok_l_draw T).raw T.d_l_draw.b) (hr.mono (by decide)) hg (by rfl) T.d_l_draw.at_ T.d_l_draw.kp (an 0 (da_cons (dn 1) da_nil)))) da_nil))) (by rfl))
      (dss_cons (ds_parO (i := 8) (j := 9) (by rfl) sc_l_moved.nd rfl rfl (by decide) rfl rfl (do_val (de_op oMulD (pn 1) (dp_of (de_frz (do_call ((ok_l_draw T).raw T.d_l_draw.b) (hr.mono (by decide)) hg (by rfl) T.d_l_draw.at_ T.d_l_draw.kp (an 0 (da_cons de_int da_nil))))))) (do_callTy bListO (by rfl) T.b_list (by decide +kernel) (dq_cons (pn 2) dq_nil)) (by rfl))
      (dss_cons (ds_if (dt_cmp (oEqD (by exact hr.units)) (pn 5) (dp_of de_int) (nomark _)) (dss_cons (ds_asg (dn 4) (gx 9 (de_op oAddD (pn 8) (pn 6))))
      (dss_one (ds_set (i := 3) sc_l_moved.nd rfl (.inl rfl) (de_frz (do_meth (dn 3) T.cl_Partition.cls T.d_Partition_fresh.M (ok_Partition_fresh T) (hr.mono (by decide)) hg (da_cons (de_op oAddD (pn 8) (pn 6)) da_nil)))))) (dss_one (ds_if (dt_cmp (oEqD (by exact hr.units)) (pn 5) (dp_of de_int) (nomark _)) (dss_cons (ds_asg (de_tup (da_cons (dn 4) (da_cons (dn 4) da_nil))) (dg_tup rfl (dgs_cons (gx 9 (dn 6)) (dgs_cons (gx 9 (de_op oAddD (pn 1) (pn 6))) dgs_nil))))
      (dss_one (ds_set (i := 3) sc_l_moved.nd rfl (.inl rfl) (de_frz (do_meth (dn 3) T.cl_Partition.cls T.d_Partition_fresh.M (ok_Partition_fresh T) (hr.mono (by decide)) hg (da_cons (dn 6) (da_cons (de_op oAddD (pn 1) (pn 6)) da_nil))))))) (dss_one (ds_if (dt_cmp (oEqD (by exact hr.units)) (pn 5) (dp_of de_int) (nomark _)) (dss_cons (ds_asg (de_tup (da_cons (dn 4) (da_cons (de_op oAddD (pn 4) (dp_of de_int)) da_nil))) (dg_tup rfl (dgs_cons (gx 9 (dn 6)) (dgs_cons (gx 9 (de_op oAddD (pn 1) (pn 6))) dgs_nil))))
      (dss_one (ds_set (i := 3) sc_l_moved.nd rfl (.inl rfl) (de_frz (do_meth (de_frz (do_meth (dn 3) T.cl_Partition.cls T.d_Partition_fresh.M (ok_Partition_fresh T) (hr.mono (by decide)) hg (da_cons (dn 6) da_nil))) T.cl_Partition.cls T.d_Partition_fresh.M (ok_Partition_fresh T) (hr.mono (by decide)) hg (da_cons (de_op oAddD (pn 1) (pn 6)) da_nil)))))) (dss_one (ds_if (dt_cmp (oEqD (by exact hr.units)) (pn 5) (dp_of de_int) (nomark _)) (dss_cons (ds_asg (de_tup (da_cons (dn 4) (da_cons (dn 4) da_nil))) (dg_tup rfl (dgs_cons (gx 9 (dn 6)) (dgs_cons (gx 9 (de_op oAddD (pn 1) (pn 7))) dgs_nil))))
      (dss_one (ds_set (i := 3) sc_l_moved.nd rfl (.inl rfl) (de_frz (do_meth (dn 3) T.cl_Partition.cls T.d_Partition_fresh.M (ok_Partition_fresh T) (hr.mono (by decide)) hg (da_cons (de_op oAddD (pn 1) (pn 7)) (da_cons (dn 6) da_nil))))))) (dss_one (ds_if (dt_cmp (oEqD (by exact hr.units)) (pn 5) (dp_of de_int) (nomark _)) (dss_cons (ds_asg (de_ix oIxAD (pn 2) (dp_of (de_op oAddD (pn 8) (pn 7))) (fun _ _ => rfl)) (gx 9 (de_op oAddD (pn 8) (pn 6))))
      (dss_one (ds_set (i := 3) sc_l_moved.nd rfl (.inl rfl) (de_frz (do_meth (dn 3) T.cl_Partition.cls T.d_Partition_copied.M ((ok_Partition_copied T).raw T.d_Partition_copied.b) (hr.mono (by decide)) hg (da_cons (de_op oAddD (pn 8) (pn 6)) (da_cons (de_op oAddD (pn 8) (pn 7)) da_nil))))))) (dss_cons (ds_asg (de_tup (da_cons (de_ix oIxAD (pn 2) (pn 7) (fun _ _ => rfl)) (da_cons (de_ix oIxAD (pn 2) (dp_of (de_op oAddD (pn 1) (pn 7))) (fun _ _ => rfl)) da_nil))) (dg_tup rfl (dgs_cons (gx 9 (dn 6)) (dgs_cons (gx 9 (de_op oAddD (pn 1) (pn 6))) dgs_nil))))
      (dss_one (ds_set (i := 3) sc_l_moved.nd rfl (.inl rfl) (de_frz (do_meth (de_frz (do_meth (dn 3) T.cl_Partition.cls T.d_Partition_copied.M ((ok_Partition_copied T).raw T.d_Partition_copied.b) (hr.mono (by decide)) hg (da_cons (dn 6) (da_cons (dn 7) da_nil)))) T.cl_Partition.cls T.d_Partition_copied.M ((ok_Partition_copied T).raw T.d_Partition_copied.b) (hr.mono (by decide)) hg (da_cons (de_op oAddD (pn 1) (pn 6)) (da_cons (de_op oAddD (pn 1) (pn 7)) da_nil))))))))))))))))
      (dss_one (ds_ret (de_tup (da_cons (dn 9) (da_cons (dn 3) da_nil))))))))
def b_l_is_shown (ca : Nat → Addr) : SF :=
  (sSeq (sFor (iEnA (aV (dVal 0) aNil)) (gTp 2 (gsC (gNm 2) (gsC (gNm 3) gsNil))) (sFor (iEnA (aV (dVal 0) aNil)) (gTp 2 (gsC (gNm 4) (gsC (gNm 5) gsNil))) (sIf (tOf (dOp oNe (pNow (dCall bRepr (qC (pNow (dFrz (mMt (ca 0) "is_alike" (f_Partition_is_alike ca) (dVal 1) (aV (dVal 2) (aV (dVal 4) aNil))))) qNil))) (pNow (dCall bRepr (qC (pNow (dOp oEq (pLate 3) (pLate 5))) qNil))))) (sRet (dC (.bl false))) sNx)))
  (sSeq (sAsg (dFrz (mSortU (dFrz (mLc (iA (dVal 0)) (gNm 3) tTrue (dMl lIndex (pLate 0) (qC (pLate 3) qNil)) [3])))) (gNm 6))
  (sSeq (sAsg (dFrz (mLc (iA (dVal 6)) (gNm 2) tTrue (dFrz (mLc (iEnA (aV (dVal 0) aNil)) (gTp 2 (gsC (gNm 4) (gsC (gNm 5) gsNil))) (tOf (dOp oEq (pLate 5) (pNow (dOp oIxA (pLate 0) (pLate 2))))) (dVal 4) [4, 5])) [2])) (gNm 7))
  (sRet (dAnd (dOp oEq (pNow (dFrz (mMt (ca 0) "groups" (f_Partition_groups ca) (dVal 1) aNil))) (pLate 7)) (dAnd (dOp oEq (pNow (dFrz (mCall bList (qC (pNow (dFrz (mPr (ca 0) (f_Partition_classes ca) (dVal 1)))) qNil)))) (pNow (dFrz (mFn (f_l_numbers ca) (aV (dVal 0) aNil))))) (dOp oEq (pNow (dFrz (mMt (ca 0) "gone" (f_Partition_gone ca) (dVal 1) aNil))) (pNow (dFrz (mLst aNil))))))))))
def f_l_is_shown (ca : Nat → Addr) : Fn := runF 2 8 [] (b_l_is_shown ca)
theorem ok_l_is_shown (T : Txt K mg ca fa fd) : DFn P w K mg base 4 (fa 18) (fd 18) ["_law_boxes", "_law_made"] (f_l_is_shown ca) := fn_denN (io := []) (fb := b_l_is_shown ca) T.d_l_is_shown.F sc_l_is_shown rfl rfl fun cdv A out s H E hg hr =>
      (dss_cons (ds_for PassesOwn.never rfl (di_enumA (by rfl) T.b_enumerate (da_cons (dn 0) da_nil)) (dg_tup rfl (dgs_cons (dg_name (i := 2) sc_l_is_shown.nd rfl (.inl rfl)) (dgs_cons (dg_name (i := 3) sc_l_is_shown.nd rfl (.inl rfl)) dgs_nil))) (dss_one (ds_for PassesOwn.never rfl (di_enumA (by rfl) T.b_enumerate (da_cons (dn 0) da_nil)) (dg_tup rfl (dgs_cons (dg_name (i := 4) sc_l_is_shown.nd rfl (.inl rfl)) (dgs_cons (dg_name (i := 5) sc_l_is_shown.nd rfl (.inl rfl)) dgs_nil))) (dss_one (ds_if (dt_cmp (oNeD (by exact hr.units)) (dp_of (de_callB (bReprD hg (by have := hr.units; exact this)) (by rfl) T.b_repr (by decide +kernel) (dq_cons (dp_of (de_frz (do_meth (dn 1) T.cl_Partition.cls T.d_Partition_is_alike.M (ok_Partition_is_alike T) (hr.mono (by decide)) hg (da_cons (dn 2) (da_cons (dn 4) da_nil))))) dq_nil))) (dp_of (de_callB (bReprD hg (by have := hr.units; exact this)) (by rfl) T.b_repr (by decide +kernel) (dq_cons (dp_of (de_cmp (oEqD (by exact hr.units)) (pn 3) (pn 5) (nomark _))) dq_nil))) (nomark _)) (dss_one (ds_ret de_bl)) dss_nil)))))
      (dss_cons (ds_set (i := 6) sc_l_is_shown.nd rfl (.inl rfl) (de_frz (do_sortU rfl (by rfl) T.b_sorted (by rfl) T.b_set (de_frz (do_lc (own := [("_law_own", 3)]) rfl sc_l_is_shown.nd (di_any (dn 0)) (blkOk_by (own := [("_law_own", 3)]) (N := ["_law_boxes", "_law_made", "_law_k", "_law_own", "_law_n", "_law_near", "_law_known", "_law_groups"]) (sc := defScope s_l_is_shown) (by decide +kernel)) (fun _ _ _ _ _ => (dg_name (i := 3) sc_l_is_shown.nd rfl (.inl rfl))) (fun _ _ _ _ _ => dts_nil) (fun _ _ _ _ _ => (de_ml PySem.F.plainAttrs_list PySem.F.slot_list_index PySem.F.type_list_index (lIndexD (by exact GG.room65 hr)) (pn 0) (dq_cons (pn 3) dq_nil))))))))
      (dss_cons (ds_setLcD (i := 7) (own := [("_law_k", 2)]) rfl sc_l_is_shown.nd rfl rfl (sw_true rfl rfl rfl (by decide +kernel)) (di_any (dn 6)) (blkOk_by (own := [("_law_k", 2)]) (N := ["_law_boxes", "_law_made", "_law_k", "_law_own", "_law_n", "_law_near", "_law_known", "_law_groups"]) (sc := defScope s_l_is_shown) (by decide +kernel)) (fun _ _ _ _ _ => (dg_name (i := 2) sc_l_is_shown.nd rfl (.inr rfl))) (fun _ _ _ _ _ => dts_nil) (fun _ _ _ _ _ => (de_frz (do_lc (own := [("_law_n", 4), ("_law_near", 5)]) rfl sc_l_is_shown.nd (di_enumA (by rfl) T.b_enumerate (da_cons (dn 0) da_nil)) (blkOk_by (own := [("_law_n", 4), ("_law_near", 5)]) (N := ["_law_boxes", "_law_made", "_law_k", "_law_own", "_law_n", "_law_near", "_law_known", "_law_groups"]) (sc := _) (by rfl)) (fun _ _ _ _ _ => (dg_tup rfl (dgs_cons (dg_name (i := 4) sc_l_is_shown.nd rfl (.inl rfl)) (dgs_cons (dg_name (i := 5) sc_l_is_shown.nd rfl (.inl rfl)) dgs_nil)))) (fun _ _ _ _ _ => (dts_one (dt_cmp (oEqD (by exact hr.units)) (pn 5) (dp_of (de_ix oIxAD (pn 0) (pn 2) (fun _ _ => rfl))) (nomark _)))) (fun _ _ _ _ _ => (dn 4))))))
      (dss_one (ds_ret (de_and (de_cmp (oEqD (by exact hr.units)) (dp_of (de_frz (do_meth0 (dn 1) T.cl_Partition.cls T.d_Partition_groups.M ((ok_Partition_groups T).raw T.d_Partition_groups.b) (hr.mono (by decide)) hg))) (pn 7) (nomark _)) (de_and (de_cmp (oEqD (by exact hr.units)) (dp_of (de_frz (do_callTy bListO (by rfl) T.b_list (by decide +kernel) (dq_cons (dp_of (de_frz (do_prop (dn 1) T.cl_Partition.cls T.d_Partition_classes.P ((ok_Partition_classes T).raw T.d_Partition_classes.b) (hr.mono (by decide)) hg))) dq_nil)))) (dp_of (de_frz (do_call ((ok_l_numbers T).raw T.d_l_numbers.b) (hr.mono (by decide)) hg (by rfl) T.d_l_numbers.at_ T.d_l_numbers.kp (da_cons (dn 0) da_nil)))) (nomark _)) (de_one (de_cmp (oEqD (by exact hr.units)) (dp_of (de_frz (do_meth0 (dn 1) T.cl_Partition.cls T.d_Partition_gone.M ((ok_Partition_gone T).raw T.d_Partition_gone.b) (hr.mono (by decide)) hg))) (dp_of (de_frz (do_lst da_nil))) (nomark _))))))))))
def b_l_end_right (ca : Nat → Addr) : SF :=
  (sSeq (sAsg (dVal 2) (gNm 4))
  (sSeq (sFor (iR1 (aV (dVal 0) aNil)) (gNm 5) (sAsg (dFrz (mMt (ca 0) "without" (f_Partition_without ca) (dVal 4) (aV (dOp oAdd (pLate 3) (pLate 5)) aNil))) (gNm 4)))
  (sSeq (sAsg (dFrz (mLc (iR1 (aV (dOp oMul (pNow (dC (.int 2))) (pLate 0)) aNil)) (gNm 5) (tNot (tOf (dChain oLe oLt (pLate 3) (pLate 5) (pNow (dOp oAdd (pLate 3) (pLate 0)))))) (dVal 5) [5])) (gNm 6))
  (sSeq (sIf (tOr (tOf (dOp oNe (pNow (dFrz (mMt (ca 0) "gone" (f_Partition_gone ca) (dVal 4) aNil))) (pNow (dFrz (mRg2 (dVal 3) (dOp oAdd (pLate 3) (pLate 0))))))) (tOf (dCall bAny (qC (pNow (dFrz (mLc (iR1 (aV (dVal 0) aNil)) (gNm 5) tTrue (dFrz (mMt (ca 0) "is_alike" (f_Partition_is_alike ca) (dVal 4) (aV (dOp oAdd (pLate 3) (pLate 5)) aNil))) [5]))) qNil)))) (sRet (dC (.bl false))) sNx)
  (sSeq (sFor (iA (dVal 6)) (gNm 5) (sFor (iR1 (aV (dOp oMul (pNow (dC (.int 2))) (pLate 0)) aNil)) (gNm 7) (sIf (tOf (dOp oNe (pNow (dFrz (mMt (ca 0) "is_alike" (f_Partition_is_alike ca) (dVal 4) (aV (dVal 5) (aV (dVal 7) aNil))))) (pNow (dAnd (dOp oIn (pLate 7) (pLate 6)) (dOp oEq (pNow (dOp oIxA (pLate 1) (pLate 5))) (pNow (dOp oIxA (pLate 1) (pLate 7)))))))) (sRet (dC (.bl false))) sNx)))
  (sRet (dAnd (dFrz (mMt (ca 0) "is_alike" (f_Partition_is_alike ca) (dFrz (mMt (ca 0) "fresh" (f_Partition_fresh ca) (dVal 4) (aV (dVal 3) aNil))) (aV (dVal 3) aNil))) (dNot (dFrz (mMt (ca 0) "is_alike" (f_Partition_is_alike ca) (dFrz (mMt (ca 0) "fresh" (f_Partition_fresh ca) (dVal 4) (aV (dVal 3) aNil))) (aV (dVal 3) (aV (dOp oIxA (pLate 6) (pNow (dC (.int 0)))) aNil))))))))))))
def f_l_end_right (ca : Nat → Addr) : Fn := runF 4 8 [] (b_l_end_right ca)
theorem ok_l_end_right (T : Txt K mg ca fa fd) : DFn P w K mg base 7 (fa 19) (fd 19) ["_law_lot", "_law_boxes", "_law_made", "_law_side"] (f_l_end_right ca) := fn_denN (io := []) (fb := b_l_end_right ca) T.d_l_end_right.F sc_l_end_right rfl rfl fun cdv A out s H E hg hr =>
      (dss_cons (ds_set (i := 4) sc_l_end_right.nd rfl (.inr rfl) (dn 2))
      (dss_cons (ds_for PassesOwn.never rfl (di_range1 (by rfl) T.b_range (da_cons (dn 0) da_nil)) (dg_name (i := 5) sc_l_end_right.nd rfl (.inl rfl)) (dss_one (ds_set (i := 4) sc_l_end_right.nd rfl (.inr rfl) (de_frz (do_meth (dn 4) T.cl_Partition.cls T.d_Partition_without.M (ok_Partition_without T) (hr.mono (by decide)) hg (da_cons (de_op oAddD (pn 3) (pn 5)) da_nil))))))
      (dss_cons (ds_setLcD (i := 6) (own := [("_law_k", 5)]) rfl sc_l_end_right.nd rfl rfl (sw_true rfl rfl rfl (by decide +kernel)) (di_range1 (by rfl) T.b_range (da_cons (de_op oMulD (dp_of de_int) (pn 0)) da_nil)) (blkOk_by (own := [("_law_k", 5)]) (N := ["_law_lot", "_law_boxes", "_law_made", "_law_side", "_law_left", "_law_k", "_law_stays", "_law_n"]) (sc := defScope s_l_end_right) (by decide +kernel)) (fun _ _ _ _ _ => (dg_name (i := 5) sc_l_end_right.nd rfl (.inl rfl))) (fun _ _ _ _ _ => (dts_one (dt_not (dt_chain oLeD oLtD (pn 3) (pn 5) (dp_of (de_op oAddD (pn 3) (pn 0))))))) (fun _ _ _ _ _ => (dn 5)))
      (dss_cons (ds_if (dt_w (dw_or (dt_cmp (oNeD (by exact hr.units)) (dp_of (de_frz (do_meth0 (dn 4) T.cl_Partition.cls T.d_Partition_gone.M ((ok_Partition_gone T).raw T.d_Partition_gone.b) (hr.mono (by decide)) hg))) (dp_of (de_frz (do_listRg2 rfl (by rfl) T.b_list (by rfl) T.b_range (dn 3) (de_op oAddD (pn 3) (pn 0))))) (nomark _)) (dw_or1 (dt_val (de_callB (bAnyD rfl) (by rfl) T.b_any (by decide +kernel) (dq_cons (dp_of (de_frz (do_lc (own := [("_law_k", 5)]) rfl sc_l_end_right.nd (di_range1 (by rfl) T.b_range (da_cons (dn 0) da_nil)) (blkOk_by (own := [("_law_k", 5)]) (N := ["_law_lot", "_law_boxes", "_law_made", "_law_side", "_law_left", "_law_k", "_law_stays", "_law_n"]) (sc := defScope s_l_end_right) (by decide +kernel)) (fun _ _ _ _ _ => (dg_name (i := 5) sc_l_end_right.nd rfl (.inl rfl))) (fun _ _ _ _ _ => dts_nil) (fun _ _ _ _ _ => (de_frz (do_meth (dn 4) T.cl_Partition.cls T.d_Partition_is_alike.M (ok_Partition_is_alike T) (hr.mono (by decide)) hg (da_cons (de_op oAddD (pn 3) (pn 5)) da_nil))))))) dq_nil)))))) (dss_one (ds_ret de_bl)) dss_nil)
      (dss_cons (ds_for PassesOwn.never rfl (di_any (dn 6)) (dg_name (i := 5) sc_l_end_right.nd rfl (.inl rfl)) (dss_one (ds_for PassesOwn.never rfl (di_range1 (by rfl) T.b_range (da_cons (de_op oMulD (dp_of de_int) (pn 0)) da_nil)) (dg_name (i := 7) sc_l_end_right.nd rfl (.inl rfl)) (dss_one (ds_if (dt_cmp (oNeD (by exact hr.units)) (dp_of (de_frz (do_meth (dn 4) T.cl_Partition.cls T.d_Partition_is_alike.M (ok_Partition_is_alike T) (hr.mono (by decide)) hg (da_cons (dn 5) (da_cons (dn 7) da_nil))))) (dp_of (de_and (de_cmp (oInD (by exact GG.room65 hr)) (pn 7) (pn 6) (by rfl)) (de_one (de_cmp (oEqD (by exact hr.units)) (dp_of (de_ix oIxAD (pn 1) (pn 5) (fun _ _ => rfl))) (dp_of (de_ix oIxAD (pn 1) (pn 7) (fun _ _ => rfl))) (nomark _))))) (nomark _)) (dss_one (ds_ret de_bl)) dss_nil)))))
      (dss_one (ds_ret (de_and (de_frz (do_meth (de_frz (do_meth (dn 4) T.cl_Partition.cls T.d_Partition_fresh.M (ok_Partition_fresh T) (hr.mono (by decide)) hg (da_cons (dn 3) da_nil))) T.cl_Partition.cls T.d_Partition_is_alike.M (ok_Partition_is_alike T) (hr.mono (by decide)) hg (da_cons (dn 3) da_nil))) (de_one (de_not (de_frz (do_meth (de_frz (do_meth (dn 4) T.cl_Partition.cls T.d_Partition_fresh.M (ok_Partition_fresh T) (hr.mono (by decide)) hg (da_cons (dn 3) da_nil))) T.cl_Partition.cls T.d_Partition_is_alike.M (ok_Partition_is_alike T) (hr.mono (by decide)) hg (da_cons (dn 3) (da_cons (de_ix oIxAD (pn 6) (dp_of de_int) (fun _ _ => rfl)) da_nil))))))))))))))
def b_l_right (ca : Nat → Addr) : SF :=
  (sSeq (sAsg (dOp oAdd (pNow (dC (.int 1))) (pNow (dFrz (mFn (f_l_draw ca) (aIo 0 (aV (dC (.int 4)) aNil)))))) (gNm 1))
  (sSeq (sAsg (dFrz (mOp oRep (pNow (dFrz (mRg1 (dVal 1)))) (pNow (dC (.int 2))))) (gNm 2))
  (sSeq (sAsg (dFrz (mMk (ca 0) (f_Partition_init ca) (aV (dVal 2) aNil))) (gNm 3))
  (sSeq (sFor (iR1 (aV (dC (.int 30)) aNil)) (gNm 4) (sSeq (sAsg (dFrz (mFn (f_l_moved ca) (aIo 0 (aV (dVal 1) (aV (dVal 2) (aV (dVal 3) (aV (dOp oAdd (pNow (dC (.int 100))) (pNow (dOp oMul (pNow (dC (.int 2))) (pLate 4)))) aNil))))))) (gTp 2 (gsC (gNm 2) (gsC (gNm 3) gsNil))))
  (sIf (tNot (tOf (dFrz (mFn (f_l_is_shown ca) (aV (dVal 2) (aV (dVal 3) aNil)))))) (sRet (dC (.bl false))) sNx)))
  (sRet (dCall bAll (qC (pNow (dFrz (mLc (iA (dTup (aV (dC (.int 0)) (aV (dVal 1) aNil)))) (gNm 5) tTrue (dFrz (mFn (f_l_end_right ca) (aV (dVal 1) (aV (dVal 2) (aV (dVal 3) (aV (dVal 5) aNil)))))) [5]))) qNil)))))))
def f_l_right (ca : Nat → Addr) : Fn := runF 1 6 [0] (b_l_right ca)
theorem ok_l_right (T : Txt K mg ca fa fd) : DFn P w K mg base 8 (fa 20) (fd 20) ["_law_pot_here"] (f_l_right ca) := fn_denN (io := [0]) (fb := b_l_right ca) T.d_l_right.F sc_l_right rfl rfl fun cdv A out s H E hg hr =>
      (dss_cons (ds_set (i := 1) sc_l_right.nd rfl (.inr rfl) (de_op oAddD (dp_of de_int) (dp_of (de_frz (do_call ((ok_l_draw T).raw T.d_l_draw.b) (hr.mono (by decide)) hg (by rfl) T.d_l_draw.at_ T.d_l_draw.kp (an 0 (da_cons de_int da_nil)))))))
      (dss_cons (ds_set (i := 2) sc_l_right.nd rfl (.inr rfl) (de_frz (do_op oRepD (dp_of (de_frz (do_listRg1 rfl (by rfl) T.b_list (by rfl) T.b_range (dn 1)))) (dp_of de_int))))
      (dss_cons (ds_set (i := 3) sc_l_right.nd rfl (.inr rfl) (de_frz (do_make T.mk_Partition ((ok_Partition_init T).raw T.d_Partition_init.b) (hr.mono (by decide)) hg (by rfl) T.cl_Partition.at_ (da_cons (dn 2) da_nil))))
      (dss_cons (ds_for PassesOwn.never rfl (di_range1 (by rfl) T.b_range (da_cons de_int da_nil)) (dg_name (i := 4) sc_l_right.nd rfl (.inl rfl)) (dss_cons (ds_asg (de_frz (do_call ((ok_l_moved T).raw T.d_l_moved.b) (hr.mono (by decide)) hg (by rfl) T.d_l_moved.at_ T.d_l_moved.kp (an 0 (da_cons (dn 1) (da_cons (dn 2) (da_cons (dn 3) (da_cons (de_op oAddD (dp_of de_int) (dp_of (de_op oMulD (dp_of de_int) (pn 4)))) da_nil))))))) (dg_tup rfl (dgs_cons (dg_name (i := 2) sc_l_right.nd rfl (.inr rfl)) (dgs_cons (dg_name (i := 3) sc_l_right.nd rfl (.inr rfl)) dgs_nil))))
      (dss_one (ds_if (dt_not (dt_val (de_frz (do_call ((ok_l_is_shown T).raw T.d_l_is_shown.b) (hr.mono (by decide)) hg (by rfl) T.d_l_is_shown.at_ T.d_l_is_shown.kp (da_cons (dn 2) (da_cons (dn 3) da_nil)))))) (dss_one (ds_ret de_bl)) dss_nil))))
      (dss_one (ds_ret (de_callB (bAllD rfl) (by rfl) T.b_all (by decide +kernel) (dq_cons (dp_of (de_frz (do_lc (own := [("_law_side", 5)]) rfl sc_l_right.nd (di_any (de_tup (da_cons de_int (da_cons (dn 1) da_nil)))) (blkOk_by (own := [("_law_side", 5)]) (N := ["_law_pot_here", "_law_lot", "_law_boxes", "_law_made", "_law_turn", "_law_side"]) (sc := defScope s_l_right) (by decide +kernel)) (fun _ _ _ _ _ => (dg_name (i := 5) sc_l_right.nd rfl (.inl rfl))) (fun _ _ _ _ _ => dts_nil) (fun _ _ _ _ _ => (de_frz (do_call ((ok_l_end_right T).raw T.d_l_end_right.b) (hr.mono (by decide)) hg (by rfl) T.d_l_end_right.at_ T.d_l_end_right.kp (da_cons (dn 1) (da_cons (dn 2) (da_cons (dn 3) (da_cons (dn 5) da_nil)))))))))) dq_nil))))))))
def b_law (ca : Nat → Addr) : SF :=
  (sRet (dCall bAll (qC (pNow (dFrz (mLc (iR1 (aV (dCall bMax2 (qC (pNow (dC (.int 1))) (qC (pNow (dCall bMin2 (qC (pNow (dCall bLen (qC (pLate 0) qNil))) (qC (pNow (dC (.int 4))) qNil)))) qNil))) aNil)) (gNm 1) tTrue (dFrz (mFnT (f_l_right ca) (mFn (f_l_pot ca) (aV (dVal 0) (aV (dVal 1) aNil))))) [1]))) qNil)))
def f_law (ca : Nat → Addr) : Fn := runF 1 2 [] (b_law ca)
theorem ok_law (T : Txt K mg ca fa fd) : DFn P w K mg base 9 (fa 21) (fd 21) ["_law_script"] (f_law ca) := fn_denN (io := []) (fb := b_law ca) T.d_law.F sc_law rfl rfl fun cdv A out s H E hg hr =>
      (dss_one (ds_ret (de_callB (bAllD rfl) (by rfl) T.b_all (by decide +kernel) (dq_cons (dp_of (de_frz (do_lc (own := [("_law_k", 1)]) rfl sc_law.nd (di_range1 (by rfl) T.b_range (da_cons (de_callB (bMax2D rfl) (by rfl) T.b_max (by decide +kernel) (dq_cons (dp_of de_int) (dq_cons (dp_of (de_callB (bMin2D rfl) (by rfl) T.b_min (by decide +kernel) (dq_cons (dp_of (de_callB bLenD (by rfl) T.b_len (by decide +kernel) (dq_cons (pn 0) dq_nil))) (dq_cons (dp_of de_int) dq_nil)))) dq_nil))) da_nil)) (blkOk_by (own := [("_law_k", 1)]) (N := ["_law_script", "_law_k"]) (sc := defScope s_law) (by decide +kernel)) (fun _ _ _ _ _ => (dg_name (i := 1) sc_law.nd rfl (.inl rfl))) (fun _ _ _ _ _ => dts_nil) (fun _ _ _ _ _ => (de_frz (do_callT ((ok_l_right T).raw T.d_l_right.b) (hr.mono (by decide)) hg (by rfl) T.d_l_right.at_ T.d_l_right.kp (do_call ((ok_l_pot T).raw T.d_l_pot.b) (hr.mono (by decide)) hg (by rfl) T.d_l_pot.at_ T.d_l_pot.kp (da_cons (dn 0) (da_cons (dn 1) da_nil))))))))) dq_nil))))
end
end K17
namespace K17
open PySem L2 GG DD Num
section
variable {ca : Nat → Addr} {sto : List MV}
theorem e_is_integer {i : Int} : f_is_integer ca [.val (.int i)] sto = some (.val (.bl true), [.val (.int i)], sto) := by
  unfold f_is_integer runF b_is_integer
  simp (config := { decide := false }) [dVal_ap, dC_ap, pLate_ap, dFrz_ap, pNow_ap, dOp_ap, dUn_ap, tCmp_ap, tOf_ap, tAnd_ap, tOr_ap, tNot_ap, dAnd_ap, dOr_ap, dNot_ap, dIf_ap, mOp_ap, aNil_ap, aV_ap, aIo_ap, dTup_ap, mLst_ap, qNil_ap, qC_ap, dCall_ap, mCall_ap, lNone_ap, lSome_ap, dSlT_ap, mSlL_ap, dFld_ap, gNm_ap, gsNil_ap, gsC_ap, gTp_ap, gIx_ap, sNx_ap, sSeq_ap, sEx_ap, sAsg_ap, sSetO_ap, sRet_ap, sRetO_ap, sRetNm_ap, sRetN_ap, sIf_ap, sNever_ap, sBk_ap, sCt_ap, gSet2_ap, gSet3_ap, sPar_ap, iL_ap, iT_ap, iR1_ap, iR2_ap, iEnL_ap, iEnT_ap, iZp_ap, iA_ap, iEnA_ap, mFn_ap, mFnT_ap, mMt_ap, mFnK_ap, mMk_ap, sFldSet_ap, mPr_ap, dChain_ap, dMl_ap, mRg1_ap, mRg2_ap, mV_ap, sParO_ap, mSortU_ap, putN, putP, rdAll, AV.pvs, oFld.eq_1, oFld.eq_2, lookP, callF, takeA, putA, okObj.eq_1, okObj.eq_2, isOf.eq_1, isOf.eq_2, PV.items.eq_1, PV.items.eq_2, PV.items.eq_3, PV.items.eq_4, dMt, PV.isLst.eq_1, PV.isLst.eq_2, S.set, MV.frz.eq_1, MV.frz.eq_2, MV.frz.eq_3, MV.frz.eq_4, heldM.eq_1, heldM.eq_2, valM.eq_1, valM.eq_2, finM, valsM, ofStr_beq, ofStr_eq, bIsi, bIsiT, PV.kind.eq_1, PV.kind.eq_2, PV.kind.eq_3, PV.kind.eq_4, PV.kind.eq_5, PV.kind.eq_6, PV.kind.eq_7, PV.kind.eq_8, isiB, BT.nm, PV.tys.eq_1, PV.tys.eq_2, PV.tys.eq_3, bLen.eq_1, bLen.eq_2, bLen.eq_3, bLen.eq_4, bLen.eq_5, bAbs.eq_1, bAbs.eq_2, bMax2.eq_1, bMax2.eq_2, bMin2.eq_1, bMin2.eq_2, bDivmod.eq_1, bDivmod.eq_2, divOk, bInt.eq_1, bInt.eq_2, bInt.eq_3, bList.eq_1, bList.eq_2, bTuple.eq_1, bTuple.eq_2, bTuple.eq_3, bAll.eq_1, bAll.eq_2, bAny.eq_1, bAny.eq_2, bls_bools, ints_ints, oEq, oNe, oIn, oNotIn, oInF, oNotInF, oIs, oIsNot, isNonP.eq_1, isNonP.eq_2, eqP_int, eqP_bl, eqP_tup, eqP_lst, inP_ints, inF_tup, inF_lst, oAdd, oSub, oMul, mulOk, oFdiv, oMod, oPow, powOk, oLt, oLe, oGt, oGe, uNeg, lExtend, lPop, lPopAt, lReverse, lIndex_ints, rgOk, valAt, S.wipe, wipeE, S.rest, restE, oI_c, oIc_c, lAppend_c, mkOut_c, oIxA_c, rngP_0, atI_0, atI_1, ixN_ok, bls_map, -List.map_map, all_tt, enP_ints, inF_items, turn_ap, lcT_ap, tTrue_ap, Option.bind_assoc, Option.map_bind]
theorem e_is_list {p : PV} {ps : List PV} (h : p.items = some ps) : f_is_list ca [.val p] sto = some (.val (.bl true), [.val p], sto) := by
  unfold f_is_list runF b_is_list
  cases p <;> cases h <;> simp (config := { decide := false }) [dVal_ap, dC_ap, pLate_ap, dFrz_ap, pNow_ap, dOp_ap, dUn_ap, tCmp_ap, tOf_ap, tAnd_ap, tOr_ap, tNot_ap, dAnd_ap, dOr_ap, dNot_ap, dIf_ap, mOp_ap, aNil_ap, aV_ap, aIo_ap, dTup_ap, mLst_ap, qNil_ap, qC_ap, dCall_ap, mCall_ap, lNone_ap, lSome_ap, dSlT_ap, mSlL_ap, dFld_ap, gNm_ap, gsNil_ap, gsC_ap, gTp_ap, gIx_ap, sNx_ap, sSeq_ap, sEx_ap, sAsg_ap, sSetO_ap, sRet_ap, sRetO_ap, sRetNm_ap, sRetN_ap, sIf_ap, sNever_ap, sBk_ap, sCt_ap, gSet2_ap, gSet3_ap, sPar_ap, iL_ap, iT_ap, iR1_ap, iR2_ap, iEnL_ap, iEnT_ap, iZp_ap, iA_ap, iEnA_ap, mFn_ap, mFnT_ap, mMt_ap, mFnK_ap, mMk_ap, sFldSet_ap, mPr_ap, dChain_ap, dMl_ap, mRg1_ap, mRg2_ap, mV_ap, sParO_ap, mSortU_ap, putN, putP, rdAll, AV.pvs, oFld.eq_1, oFld.eq_2, lookP, callF, takeA, putA, okObj.eq_1, okObj.eq_2, isOf.eq_1, isOf.eq_2, PV.items.eq_1, PV.items.eq_2, PV.items.eq_3, PV.items.eq_4, dMt, PV.isLst.eq_1, PV.isLst.eq_2, S.set, MV.frz.eq_1, MV.frz.eq_2, MV.frz.eq_3, MV.frz.eq_4, heldM.eq_1, heldM.eq_2, valM.eq_1, valM.eq_2, finM, valsM, ofStr_beq, ofStr_eq, bIsi, bIsiT, PV.kind.eq_1, PV.kind.eq_2, PV.kind.eq_3, PV.kind.eq_4, PV.kind.eq_5, PV.kind.eq_6, PV.kind.eq_7, PV.kind.eq_8, isiB, BT.nm, PV.tys.eq_1, PV.tys.eq_2, PV.tys.eq_3, bLen.eq_1, bLen.eq_2, bLen.eq_3, bLen.eq_4, bLen.eq_5, bAbs.eq_1, bAbs.eq_2, bMax2.eq_1, bMax2.eq_2, bMin2.eq_1, bMin2.eq_2, bDivmod.eq_1, bDivmod.eq_2, divOk, bInt.eq_1, bInt.eq_2, bInt.eq_3, bList.eq_1, bList.eq_2, bTuple.eq_1, bTuple.eq_2, bTuple.eq_3, bAll.eq_1, bAll.eq_2, bAny.eq_1, bAny.eq_2, bls_bools, ints_ints, oEq, oNe, oIn, oNotIn, oInF, oNotInF, oIs, oIsNot, isNonP.eq_1, isNonP.eq_2, eqP_int, eqP_bl, eqP_tup, eqP_lst, inP_ints, inF_tup, inF_lst, oAdd, oSub, oMul, mulOk, oFdiv, oMod, oPow, powOk, oLt, oLe, oGt, oGe, uNeg, lExtend, lPop, lPopAt, lReverse, lIndex_ints, rgOk, valAt, S.wipe, wipeE, S.rest, restE, oI_c, oIc_c, lAppend_c, mkOut_c, oIxA_c, rngP_0, atI_0, atI_1, ixN_ok, bls_map, -List.map_map, all_tt, enP_ints, inF_items, turn_ap, lcT_ap, tTrue_ap, Option.bind_assoc, Option.map_bind]
theorem e_normal {p : PV} {ms : List Int} (h : p.items = some (ms.map .int)) (hl : ms.length ≤ 1000) : f_normal ca [.val p] sto = some (.val (.tup ((norm (tags ms)).map .int)), [.val p], sto) := by
  unfold f_normal runF b_normal
  simp (config := { decide := false }) [dVal_ap, dC_ap, pLate_ap, dFrz_ap, pNow_ap, dOp_ap, dUn_ap, tCmp_ap, tOf_ap, tAnd_ap, tOr_ap, tNot_ap, dAnd_ap, dOr_ap, dNot_ap, dIf_ap, mOp_ap, aNil_ap, aV_ap, aIo_ap, dTup_ap, mLst_ap, qNil_ap, qC_ap, dCall_ap, mCall_ap, lNone_ap, lSome_ap, dSlT_ap, mSlL_ap, dFld_ap, gNm_ap, gsNil_ap, gsC_ap, gTp_ap, gIx_ap, sNx_ap, sSeq_ap, sEx_ap, sAsg_ap, sSetO_ap, sRet_ap, sRetO_ap, sRetNm_ap, sRetN_ap, sIf_ap, sNever_ap, sBk_ap, sCt_ap, gSet2_ap, gSet3_ap, sPar_ap, iL_ap, iT_ap, iR1_ap, iR2_ap, iEnL_ap, iEnT_ap, iZp_ap, iA_ap, iEnA_ap, mFn_ap, mFnT_ap, mMt_ap, mFnK_ap, mMk_ap, sFldSet_ap, mPr_ap, dChain_ap, dMl_ap, mRg1_ap, mRg2_ap, mV_ap, sParO_ap, mSortU_ap, putN, putP, rdAll, AV.pvs, oFld.eq_1, oFld.eq_2, lookP, callF, takeA, putA, okObj.eq_1, okObj.eq_2, isOf.eq_1, isOf.eq_2, PV.items.eq_1, PV.items.eq_2, PV.items.eq_3, PV.items.eq_4, dMt, PV.isLst.eq_1, PV.isLst.eq_2, S.set, MV.frz.eq_1, MV.frz.eq_2, MV.frz.eq_3, MV.frz.eq_4, heldM.eq_1, heldM.eq_2, valM.eq_1, valM.eq_2, finM, valsM, ofStr_beq, ofStr_eq, bIsi, bIsiT, PV.kind.eq_1, PV.kind.eq_2, PV.kind.eq_3, PV.kind.eq_4, PV.kind.eq_5, PV.kind.eq_6, PV.kind.eq_7, PV.kind.eq_8, isiB, BT.nm, PV.tys.eq_1, PV.tys.eq_2, PV.tys.eq_3, bLen.eq_1, bLen.eq_2, bLen.eq_3, bLen.eq_4, bLen.eq_5, bAbs.eq_1, bAbs.eq_2, bMax2.eq_1, bMax2.eq_2, bMin2.eq_1, bMin2.eq_2, bDivmod.eq_1, bDivmod.eq_2, divOk, bInt.eq_1, bInt.eq_2, bInt.eq_3, bList.eq_1, bList.eq_2, bTuple.eq_1, bTuple.eq_2, bTuple.eq_3, bAll.eq_1, bAll.eq_2, bAny.eq_1, bAny.eq_2, bls_bools, ints_ints, oEq, oNe, oIn, oNotIn, oInF, oNotInF, oIs, oIsNot, isNonP.eq_1, isNonP.eq_2, eqP_int, eqP_bl, eqP_tup, eqP_lst, inP_ints, inF_tup, inF_lst, oAdd, oSub, oMul, mulOk, oFdiv, oMod, oPow, powOk, oLt, oLe, oGt, oGe, uNeg, lExtend, lPop, lPopAt, lReverse, lIndex_ints, rgOk, valAt, S.wipe, wipeE, S.rest, restE, oI_c, oIc_c, lAppend_c, mkOut_c, oIxA_c, rngP_0, atI_0, atI_1, ixN_ok, bls_map, -List.map_map, all_tt, enP_ints, inF_items, turn_ap, lcT_ap, tTrue_ap, Option.bind_assoc, Option.map_bind, h]
  refine for_bind ms .int (fun i s => ∃ v : Option PV, s = ⟨[some (.val p), some (.mlst ((((tags ms).take i).foldl addK []).map .int)), v.map .val], sto⟩) (s0 := ⟨[some (.val p), some (.mlst []), none], sto⟩) ?_ ⟨none, rfl⟩ ?_ ?_
  · simp (config := { decide := false }) [dVal_ap, dC_ap, pLate_ap, dFrz_ap, pNow_ap, dOp_ap, dUn_ap, tCmp_ap, tOf_ap, tAnd_ap, tOr_ap, tNot_ap, dAnd_ap, dOr_ap, dNot_ap, dIf_ap, mOp_ap, aNil_ap, aV_ap, aIo_ap, dTup_ap, mLst_ap, qNil_ap, qC_ap, dCall_ap, mCall_ap, lNone_ap, lSome_ap, dSlT_ap, mSlL_ap, dFld_ap, gNm_ap, gsNil_ap, gsC_ap, gTp_ap, gIx_ap, sNx_ap, sSeq_ap, sEx_ap, sAsg_ap, sSetO_ap, sRet_ap, sRetO_ap, sRetNm_ap, sRetN_ap, sIf_ap, sNever_ap, sBk_ap, sCt_ap, gSet2_ap, gSet3_ap, sPar_ap, iL_ap, iT_ap, iR1_ap, iR2_ap, iEnL_ap, iEnT_ap, iZp_ap, iA_ap, iEnA_ap, mFn_ap, mFnT_ap, mMt_ap, mFnK_ap, mMk_ap, sFldSet_ap, mPr_ap, dChain_ap, dMl_ap, mRg1_ap, mRg2_ap, mV_ap, sParO_ap, mSortU_ap, putN, putP, rdAll, AV.pvs, oFld.eq_1, oFld.eq_2, lookP, callF, takeA, putA, okObj.eq_1, okObj.eq_2, isOf.eq_1, isOf.eq_2, PV.items.eq_1, PV.items.eq_2, PV.items.eq_3, PV.items.eq_4, dMt, PV.isLst.eq_1, PV.isLst.eq_2, S.set, MV.frz.eq_1, MV.frz.eq_2, MV.frz.eq_3, MV.frz.eq_4, heldM.eq_1, heldM.eq_2, valM.eq_1, valM.eq_2, finM, valsM, ofStr_beq, ofStr_eq, bIsi, bIsiT, PV.kind.eq_1, PV.kind.eq_2, PV.kind.eq_3, PV.kind.eq_4, PV.kind.eq_5, PV.kind.eq_6, PV.kind.eq_7, PV.kind.eq_8, isiB, BT.nm, PV.tys.eq_1, PV.tys.eq_2, PV.tys.eq_3, bLen.eq_1, bLen.eq_2, bLen.eq_3, bLen.eq_4, bLen.eq_5, bAbs.eq_1, bAbs.eq_2, bMax2.eq_1, bMax2.eq_2, bMin2.eq_1, bMin2.eq_2, bDivmod.eq_1, bDivmod.eq_2, divOk, bInt.eq_1, bInt.eq_2, bInt.eq_3, bList.eq_1, bList.eq_2, bTuple.eq_1, bTuple.eq_2, bTuple.eq_3, bAll.eq_1, bAll.eq_2, bAny.eq_1, bAny.eq_2, bls_bools, ints_ints, oEq, oNe, oIn, oNotIn, oInF, oNotInF, oIs, oIsNot, isNonP.eq_1, isNonP.eq_2, eqP_int, eqP_bl, eqP_tup, eqP_lst, inP_ints, inF_tup, inF_lst, oAdd, oSub, oMul, mulOk, oFdiv, oMod, oPow, powOk, oLt, oLe, oGt, oGe, uNeg, lExtend, lPop, lPopAt, lReverse, lIndex_ints, rgOk, valAt, S.wipe, wipeE, S.rest, restE, oI_c, oIc_c, lAppend_c, mkOut_c, oIxA_c, rngP_0, atI_0, atI_1, ixN_ok, bls_map, -List.map_map, all_tt, enP_ints, inF_items, turn_ap, lcT_ap, tTrue_ap, Option.bind_assoc, Option.map_bind, h]
  · rintro i m s hi ⟨v, rfl⟩
    have ht : (tags ms)[i]? = some (tag m) := by rw [tags_at, hi]; rfl
    rw [take_succ ht, List.foldl_append]
    have hk := fold_len ((tags ms).take i) []
    generalize ((tags ms).take i).foldl addK [] = kn at hk ⊢
    rw [List.length_take, tags_length] at hk
    simp only [List.length_nil] at hk
    by_cases h1 : m = -1
    · subst h1
      exact ⟨_, by simp (config := { decide := false }) [dVal_ap, dC_ap, pLate_ap, dFrz_ap, pNow_ap, dOp_ap, dUn_ap, tCmp_ap, tOf_ap, tAnd_ap, tOr_ap, tNot_ap, dAnd_ap, dOr_ap, dNot_ap, dIf_ap, mOp_ap, aNil_ap, aV_ap, aIo_ap, dTup_ap, mLst_ap, qNil_ap, qC_ap, dCall_ap, mCall_ap, lNone_ap, lSome_ap, dSlT_ap, mSlL_ap, dFld_ap, gNm_ap, gsNil_ap, gsC_ap, gTp_ap, gIx_ap, sNx_ap, sSeq_ap, sEx_ap, sAsg_ap, sSetO_ap, sRet_ap, sRetO_ap, sRetNm_ap, sRetN_ap, sIf_ap, sNever_ap, sBk_ap, sCt_ap, gSet2_ap, gSet3_ap, sPar_ap, iL_ap, iT_ap, iR1_ap, iR2_ap, iEnL_ap, iEnT_ap, iZp_ap, iA_ap, iEnA_ap, mFn_ap, mFnT_ap, mMt_ap, mFnK_ap, mMk_ap, sFldSet_ap, mPr_ap, dChain_ap, dMl_ap, mRg1_ap, mRg2_ap, mV_ap, sParO_ap, mSortU_ap, putN, putP, rdAll, AV.pvs, oFld.eq_1, oFld.eq_2, lookP, callF, takeA, putA, okObj.eq_1, okObj.eq_2, isOf.eq_1, isOf.eq_2, PV.items.eq_1, PV.items.eq_2, PV.items.eq_3, PV.items.eq_4, dMt, PV.isLst.eq_1, PV.isLst.eq_2, S.set, MV.frz.eq_1, MV.frz.eq_2, MV.frz.eq_3, MV.frz.eq_4, heldM.eq_1, heldM.eq_2, valM.eq_1, valM.eq_2, finM, valsM, ofStr_beq, ofStr_eq, bIsi, bIsiT, PV.kind.eq_1, PV.kind.eq_2, PV.kind.eq_3, PV.kind.eq_4, PV.kind.eq_5, PV.kind.eq_6, PV.kind.eq_7, PV.kind.eq_8, isiB, BT.nm, PV.tys.eq_1, PV.tys.eq_2, PV.tys.eq_3, bLen.eq_1, bLen.eq_2, bLen.eq_3, bLen.eq_4, bLen.eq_5, bAbs.eq_1, bAbs.eq_2, bMax2.eq_1, bMax2.eq_2, bMin2.eq_1, bMin2.eq_2, bDivmod.eq_1, bDivmod.eq_2, divOk, bInt.eq_1, bInt.eq_2, bInt.eq_3, bList.eq_1, bList.eq_2, bTuple.eq_1, bTuple.eq_2, bTuple.eq_3, bAll.eq_1, bAll.eq_2, bAny.eq_1, bAny.eq_2, bls_bools, ints_ints, oEq, oNe, oIn, oNotIn, oInF, oNotInF, oIs, oIsNot, isNonP.eq_1, isNonP.eq_2, eqP_int, eqP_bl, eqP_tup, eqP_lst, inP_ints, inF_tup, inF_lst, oAdd, oSub, oMul, mulOk, oFdiv, oMod, oPow, powOk, oLt, oLe, oGt, oGe, uNeg, lExtend, lPop, lPopAt, lReverse, lIndex_ints, rgOk, valAt, S.wipe, wipeE, S.rest, restE, oI_c, oIc_c, lAppend_c, mkOut_c, oIxA_c, rngP_0, atI_0, atI_1, ixN_ok, bls_map, -List.map_map, all_tt, enP_ints, inF_items, turn_ap, lcT_ap, tTrue_ap, Option.bind_assoc, Option.map_bind]; rfl, some (.int (-1)), by simp [tag, addK]⟩
    · by_cases h2 : m ∈ kn
      · exact ⟨_, by simp (config := { decide := false }) [dVal_ap, dC_ap, pLate_ap, dFrz_ap, pNow_ap, dOp_ap, dUn_ap, tCmp_ap, tOf_ap, tAnd_ap, tOr_ap, tNot_ap, dAnd_ap, dOr_ap, dNot_ap, dIf_ap, mOp_ap, aNil_ap, aV_ap, aIo_ap, dTup_ap, mLst_ap, qNil_ap, qC_ap, dCall_ap, mCall_ap, lNone_ap, lSome_ap, dSlT_ap, mSlL_ap, dFld_ap, gNm_ap, gsNil_ap, gsC_ap, gTp_ap, gIx_ap, sNx_ap, sSeq_ap, sEx_ap, sAsg_ap, sSetO_ap, sRet_ap, sRetO_ap, sRetNm_ap, sRetN_ap, sIf_ap, sNever_ap, sBk_ap, sCt_ap, gSet2_ap, gSet3_ap, sPar_ap, iL_ap, iT_ap, iR1_ap, iR2_ap, iEnL_ap, iEnT_ap, iZp_ap, iA_ap, iEnA_ap, mFn_ap, mFnT_ap, mMt_ap, mFnK_ap, mMk_ap, sFldSet_ap, mPr_ap, dChain_ap, dMl_ap, mRg1_ap, mRg2_ap, mV_ap, sParO_ap, mSortU_ap, putN, putP, rdAll, AV.pvs, oFld.eq_1, oFld.eq_2, lookP, callF, takeA, putA, okObj.eq_1, okObj.eq_2, isOf.eq_1, isOf.eq_2, PV.items.eq_1, PV.items.eq_2, PV.items.eq_3, PV.items.eq_4, dMt, PV.isLst.eq_1, PV.isLst.eq_2, S.set, MV.frz.eq_1, MV.frz.eq_2, MV.frz.eq_3, MV.frz.eq_4, heldM.eq_1, heldM.eq_2, valM.eq_1, valM.eq_2, finM, valsM, ofStr_beq, ofStr_eq, bIsi, bIsiT, PV.kind.eq_1, PV.kind.eq_2, PV.kind.eq_3, PV.kind.eq_4, PV.kind.eq_5, PV.kind.eq_6, PV.kind.eq_7, PV.kind.eq_8, isiB, BT.nm, PV.tys.eq_1, PV.tys.eq_2, PV.tys.eq_3, bLen.eq_1, bLen.eq_2, bLen.eq_3, bLen.eq_4, bLen.eq_5, bAbs.eq_1, bAbs.eq_2, bMax2.eq_1, bMax2.eq_2, bMin2.eq_1, bMin2.eq_2, bDivmod.eq_1, bDivmod.eq_2, divOk, bInt.eq_1, bInt.eq_2, bInt.eq_3, bList.eq_1, bList.eq_2, bTuple.eq_1, bTuple.eq_2, bTuple.eq_3, bAll.eq_1, bAll.eq_2, bAny.eq_1, bAny.eq_2, bls_bools, ints_ints, oEq, oNe, oIn, oNotIn, oInF, oNotInF, oIs, oIsNot, isNonP.eq_1, isNonP.eq_2, eqP_int, eqP_bl, eqP_tup, eqP_lst, inP_ints, inF_tup, inF_lst, oAdd, oSub, oMul, mulOk, oFdiv, oMod, oPow, powOk, oLt, oLe, oGt, oGe, uNeg, lExtend, lPop, lPopAt, lReverse, lIndex_ints, rgOk, valAt, S.wipe, wipeE, S.rest, restE, oI_c, oIc_c, lAppend_c, mkOut_c, oIxA_c, rngP_0, atI_0, atI_1, ixN_ok, bls_map, -List.map_map, all_tt, enP_ints, inF_items, turn_ap, lcT_ap, tTrue_ap, Option.bind_assoc, Option.map_bind, h1, h2]; rfl, some (.int m), by simp [tag, h1, addK, h2]⟩
      · have h3 : kn.length < 100000 := by omega
        exact ⟨_, by simp (config := { decide := false }) [dVal_ap, dC_ap, pLate_ap, dFrz_ap, pNow_ap, dOp_ap, dUn_ap, tCmp_ap, tOf_ap, tAnd_ap, tOr_ap, tNot_ap, dAnd_ap, dOr_ap, dNot_ap, dIf_ap, mOp_ap, aNil_ap, aV_ap, aIo_ap, dTup_ap, mLst_ap, qNil_ap, qC_ap, dCall_ap, mCall_ap, lNone_ap, lSome_ap, dSlT_ap, mSlL_ap, dFld_ap, gNm_ap, gsNil_ap, gsC_ap, gTp_ap, gIx_ap, sNx_ap, sSeq_ap, sEx_ap, sAsg_ap, sSetO_ap, sRet_ap, sRetO_ap, sRetNm_ap, sRetN_ap, sIf_ap, sNever_ap, sBk_ap, sCt_ap, gSet2_ap, gSet3_ap, sPar_ap, iL_ap, iT_ap, iR1_ap, iR2_ap, iEnL_ap, iEnT_ap, iZp_ap, iA_ap, iEnA_ap, mFn_ap, mFnT_ap, mMt_ap, mFnK_ap, mMk_ap, sFldSet_ap, mPr_ap, dChain_ap, dMl_ap, mRg1_ap, mRg2_ap, mV_ap, sParO_ap, mSortU_ap, putN, putP, rdAll, AV.pvs, oFld.eq_1, oFld.eq_2, lookP, callF, takeA, putA, okObj.eq_1, okObj.eq_2, isOf.eq_1, isOf.eq_2, PV.items.eq_1, PV.items.eq_2, PV.items.eq_3, PV.items.eq_4, dMt, PV.isLst.eq_1, PV.isLst.eq_2, S.set, MV.frz.eq_1, MV.frz.eq_2, MV.frz.eq_3, MV.frz.eq_4, heldM.eq_1, heldM.eq_2, valM.eq_1, valM.eq_2, finM, valsM, ofStr_beq, ofStr_eq, bIsi, bIsiT, PV.kind.eq_1, PV.kind.eq_2, PV.kind.eq_3, PV.kind.eq_4, PV.kind.eq_5, PV.kind.eq_6, PV.kind.eq_7, PV.kind.eq_8, isiB, BT.nm, PV.tys.eq_1, PV.tys.eq_2, PV.tys.eq_3, bLen.eq_1, bLen.eq_2, bLen.eq_3, bLen.eq_4, bLen.eq_5, bAbs.eq_1, bAbs.eq_2, bMax2.eq_1, bMax2.eq_2, bMin2.eq_1, bMin2.eq_2, bDivmod.eq_1, bDivmod.eq_2, divOk, bInt.eq_1, bInt.eq_2, bInt.eq_3, bList.eq_1, bList.eq_2, bTuple.eq_1, bTuple.eq_2, bTuple.eq_3, bAll.eq_1, bAll.eq_2, bAny.eq_1, bAny.eq_2, bls_bools, ints_ints, oEq, oNe, oIn, oNotIn, oInF, oNotInF, oIs, oIsNot, isNonP.eq_1, isNonP.eq_2, eqP_int, eqP_bl, eqP_tup, eqP_lst, inP_ints, inF_tup, inF_lst, oAdd, oSub, oMul, mulOk, oFdiv, oMod, oPow, powOk, oLt, oLe, oGt, oGe, uNeg, lExtend, lPop, lPopAt, lReverse, lIndex_ints, rgOk, valAt, S.wipe, wipeE, S.rest, restE, oI_c, oIc_c, lAppend_c, mkOut_c, oIxA_c, rngP_0, atI_0, atI_1, ixN_ok, bls_map, -List.map_map, all_tt, enP_ints, inF_items, turn_ap, lcT_ap, tTrue_ap, Option.bind_assoc, Option.map_bind, h1, h2, h3]; rfl, some (.int m), by simp [tag, h1, addK, h2]⟩
  · rintro s ⟨v, rfl⟩
    rw [← tags_length, List.take_length, ← knownOf]
    simp (config := { decide := false }) [dVal_ap, dC_ap, pLate_ap, dFrz_ap, pNow_ap, dOp_ap, dUn_ap, tCmp_ap, tOf_ap, tAnd_ap, tOr_ap, tNot_ap, dAnd_ap, dOr_ap, dNot_ap, dIf_ap, mOp_ap, aNil_ap, aV_ap, aIo_ap, dTup_ap, mLst_ap, qNil_ap, qC_ap, dCall_ap, mCall_ap, lNone_ap, lSome_ap, dSlT_ap, mSlL_ap, dFld_ap, gNm_ap, gsNil_ap, gsC_ap, gTp_ap, gIx_ap, sNx_ap, sSeq_ap, sEx_ap, sAsg_ap, sSetO_ap, sRet_ap, sRetO_ap, sRetNm_ap, sRetN_ap, sIf_ap, sNever_ap, sBk_ap, sCt_ap, gSet2_ap, gSet3_ap, sPar_ap, iL_ap, iT_ap, iR1_ap, iR2_ap, iEnL_ap, iEnT_ap, iZp_ap, iA_ap, iEnA_ap, mFn_ap, mFnT_ap, mMt_ap, mFnK_ap, mMk_ap, sFldSet_ap, mPr_ap, dChain_ap, dMl_ap, mRg1_ap, mRg2_ap, mV_ap, sParO_ap, mSortU_ap, putN, putP, rdAll, AV.pvs, oFld.eq_1, oFld.eq_2, lookP, callF, takeA, putA, okObj.eq_1, okObj.eq_2, isOf.eq_1, isOf.eq_2, PV.items.eq_1, PV.items.eq_2, PV.items.eq_3, PV.items.eq_4, dMt, PV.isLst.eq_1, PV.isLst.eq_2, S.set, MV.frz.eq_1, MV.frz.eq_2, MV.frz.eq_3, MV.frz.eq_4, heldM.eq_1, heldM.eq_2, valM.eq_1, valM.eq_2, finM, valsM, ofStr_beq, ofStr_eq, bIsi, bIsiT, PV.kind.eq_1, PV.kind.eq_2, PV.kind.eq_3, PV.kind.eq_4, PV.kind.eq_5, PV.kind.eq_6, PV.kind.eq_7, PV.kind.eq_8, isiB, BT.nm, PV.tys.eq_1, PV.tys.eq_2, PV.tys.eq_3, bLen.eq_1, bLen.eq_2, bLen.eq_3, bLen.eq_4, bLen.eq_5, bAbs.eq_1, bAbs.eq_2, bMax2.eq_1, bMax2.eq_2, bMin2.eq_1, bMin2.eq_2, bDivmod.eq_1, bDivmod.eq_2, divOk, bInt.eq_1, bInt.eq_2, bInt.eq_3, bList.eq_1, bList.eq_2, bTuple.eq_1, bTuple.eq_2, bTuple.eq_3, bAll.eq_1, bAll.eq_2, bAny.eq_1, bAny.eq_2, bls_bools, ints_ints, oEq, oNe, oIn, oNotIn, oInF, oNotInF, oIs, oIsNot, isNonP.eq_1, isNonP.eq_2, eqP_int, eqP_bl, eqP_tup, eqP_lst, inP_ints, inF_tup, inF_lst, oAdd, oSub, oMul, mulOk, oFdiv, oMod, oPow, powOk, oLt, oLe, oGt, oGe, uNeg, lExtend, lPop, lPopAt, lReverse, lIndex_ints, rgOk, valAt, S.wipe, wipeE, S.rest, restE, oI_c, oIc_c, lAppend_c, mkOut_c, oIxA_c, rngP_0, atI_0, atI_1, ixN_ok, bls_map, -List.map_map, all_tt, enP_ints, inF_items, turn_ap, lcT_ap, tTrue_ap, Option.bind_assoc, Option.map_bind]
    rw [lc_map ms .int (fun m => .int (numOf (knownOf (tags ms)) (tag m))) (s1 := ⟨[some (.val p), some (.mlst _), v.map .val], sto⟩) (by simp (config := { decide := false }) [dVal_ap, dC_ap, pLate_ap, dFrz_ap, pNow_ap, dOp_ap, dUn_ap, tCmp_ap, tOf_ap, tAnd_ap, tOr_ap, tNot_ap, dAnd_ap, dOr_ap, dNot_ap, dIf_ap, mOp_ap, aNil_ap, aV_ap, aIo_ap, dTup_ap, mLst_ap, qNil_ap, qC_ap, dCall_ap, mCall_ap, lNone_ap, lSome_ap, dSlT_ap, mSlL_ap, dFld_ap, gNm_ap, gsNil_ap, gsC_ap, gTp_ap, gIx_ap, sNx_ap, sSeq_ap, sEx_ap, sAsg_ap, sSetO_ap, sRet_ap, sRetO_ap, sRetNm_ap, sRetN_ap, sIf_ap, sNever_ap, sBk_ap, sCt_ap, gSet2_ap, gSet3_ap, sPar_ap, iL_ap, iT_ap, iR1_ap, iR2_ap, iEnL_ap, iEnT_ap, iZp_ap, iA_ap, iEnA_ap, mFn_ap, mFnT_ap, mMt_ap, mFnK_ap, mMk_ap, sFldSet_ap, mPr_ap, dChain_ap, dMl_ap, mRg1_ap, mRg2_ap, mV_ap, sParO_ap, mSortU_ap, putN, putP, rdAll, AV.pvs, oFld.eq_1, oFld.eq_2, lookP, callF, takeA, putA, okObj.eq_1, okObj.eq_2, isOf.eq_1, isOf.eq_2, PV.items.eq_1, PV.items.eq_2, PV.items.eq_3, PV.items.eq_4, dMt, PV.isLst.eq_1, PV.isLst.eq_2, S.set, MV.frz.eq_1, MV.frz.eq_2, MV.frz.eq_3, MV.frz.eq_4, heldM.eq_1, heldM.eq_2, valM.eq_1, valM.eq_2, finM, valsM, ofStr_beq, ofStr_eq, bIsi, bIsiT, PV.kind.eq_1, PV.kind.eq_2, PV.kind.eq_3, PV.kind.eq_4, PV.kind.eq_5, PV.kind.eq_6, PV.kind.eq_7, PV.kind.eq_8, isiB, BT.nm, PV.tys.eq_1, PV.tys.eq_2, PV.tys.eq_3, bLen.eq_1, bLen.eq_2, bLen.eq_3, bLen.eq_4, bLen.eq_5, bAbs.eq_1, bAbs.eq_2, bMax2.eq_1, bMax2.eq_2, bMin2.eq_1, bMin2.eq_2, bDivmod.eq_1, bDivmod.eq_2, divOk, bInt.eq_1, bInt.eq_2, bInt.eq_3, bList.eq_1, bList.eq_2, bTuple.eq_1, bTuple.eq_2, bTuple.eq_3, bAll.eq_1, bAll.eq_2, bAny.eq_1, bAny.eq_2, bls_bools, ints_ints, oEq, oNe, oIn, oNotIn, oInF, oNotInF, oIs, oIsNot, isNonP.eq_1, isNonP.eq_2, eqP_int, eqP_bl, eqP_tup, eqP_lst, inP_ints, inF_tup, inF_lst, oAdd, oSub, oMul, mulOk, oFdiv, oMod, oPow, powOk, oLt, oLe, oGt, oGe, uNeg, lExtend, lPop, lPopAt, lReverse, lIndex_ints, rgOk, valAt, S.wipe, wipeE, S.rest, restE, oI_c, oIc_c, lAppend_c, mkOut_c, oIxA_c, rngP_0, atI_0, atI_1, ixN_ok, bls_map, -List.map_map, all_tt, enP_ints, inF_items, turn_ap, lcT_ap, tTrue_ap, Option.bind_assoc, Option.map_bind, h]; rfl)]
    · simp (config := { decide := false }) [dVal_ap, dC_ap, pLate_ap, dFrz_ap, pNow_ap, dOp_ap, dUn_ap, tCmp_ap, tOf_ap, tAnd_ap, tOr_ap, tNot_ap, dAnd_ap, dOr_ap, dNot_ap, dIf_ap, mOp_ap, aNil_ap, aV_ap, aIo_ap, dTup_ap, mLst_ap, qNil_ap, qC_ap, dCall_ap, mCall_ap, lNone_ap, lSome_ap, dSlT_ap, mSlL_ap, dFld_ap, gNm_ap, gsNil_ap, gsC_ap, gTp_ap, gIx_ap, sNx_ap, sSeq_ap, sEx_ap, sAsg_ap, sSetO_ap, sRet_ap, sRetO_ap, sRetNm_ap, sRetN_ap, sIf_ap, sNever_ap, sBk_ap, sCt_ap, gSet2_ap, gSet3_ap, sPar_ap, iL_ap, iT_ap, iR1_ap, iR2_ap, iEnL_ap, iEnT_ap, iZp_ap, iA_ap, iEnA_ap, mFn_ap, mFnT_ap, mMt_ap, mFnK_ap, mMk_ap, sFldSet_ap, mPr_ap, dChain_ap, dMl_ap, mRg1_ap, mRg2_ap, mV_ap, sParO_ap, mSortU_ap, putN, putP, rdAll, AV.pvs, oFld.eq_1, oFld.eq_2, lookP, callF, takeA, putA, okObj.eq_1, okObj.eq_2, isOf.eq_1, isOf.eq_2, PV.items.eq_1, PV.items.eq_2, PV.items.eq_3, PV.items.eq_4, dMt, PV.isLst.eq_1, PV.isLst.eq_2, S.set, MV.frz.eq_1, MV.frz.eq_2, MV.frz.eq_3, MV.frz.eq_4, heldM.eq_1, heldM.eq_2, valM.eq_1, valM.eq_2, finM, valsM, ofStr_beq, ofStr_eq, bIsi, bIsiT, PV.kind.eq_1, PV.kind.eq_2, PV.kind.eq_3, PV.kind.eq_4, PV.kind.eq_5, PV.kind.eq_6, PV.kind.eq_7, PV.kind.eq_8, isiB, BT.nm, PV.tys.eq_1, PV.tys.eq_2, PV.tys.eq_3, bLen.eq_1, bLen.eq_2, bLen.eq_3, bLen.eq_4, bLen.eq_5, bAbs.eq_1, bAbs.eq_2, bMax2.eq_1, bMax2.eq_2, bMin2.eq_1, bMin2.eq_2, bDivmod.eq_1, bDivmod.eq_2, divOk, bInt.eq_1, bInt.eq_2, bInt.eq_3, bList.eq_1, bList.eq_2, bTuple.eq_1, bTuple.eq_2, bTuple.eq_3, bAll.eq_1, bAll.eq_2, bAny.eq_1, bAny.eq_2, bls_bools, ints_ints, oEq, oNe, oIn, oNotIn, oInF, oNotInF, oIs, oIsNot, isNonP.eq_1, isNonP.eq_2, eqP_int, eqP_bl, eqP_tup, eqP_lst, inP_ints, inF_tup, inF_lst, oAdd, oSub, oMul, mulOk, oFdiv, oMod, oPow, powOk, oLt, oLe, oGt, oGe, uNeg, lExtend, lPop, lPopAt, lReverse, lIndex_ints, rgOk, valAt, S.wipe, wipeE, S.rest, restE, oI_c, oIc_c, lAppend_c, mkOut_c, oIxA_c, rngP_0, atI_0, atI_1, ixN_ok, bls_map, -List.map_map, all_tt, enP_ints, inF_items, turn_ap, lcT_ap, tTrue_ap, Option.bind_assoc, Option.map_bind, norm, tags]
      simp
    · cases v <;> simp (config := { decide := false }) [dVal_ap, dC_ap, pLate_ap, dFrz_ap, pNow_ap, dOp_ap, dUn_ap, tCmp_ap, tOf_ap, tAnd_ap, tOr_ap, tNot_ap, dAnd_ap, dOr_ap, dNot_ap, dIf_ap, mOp_ap, aNil_ap, aV_ap, aIo_ap, dTup_ap, mLst_ap, qNil_ap, qC_ap, dCall_ap, mCall_ap, lNone_ap, lSome_ap, dSlT_ap, mSlL_ap, dFld_ap, gNm_ap, gsNil_ap, gsC_ap, gTp_ap, gIx_ap, sNx_ap, sSeq_ap, sEx_ap, sAsg_ap, sSetO_ap, sRet_ap, sRetO_ap, sRetNm_ap, sRetN_ap, sIf_ap, sNever_ap, sBk_ap, sCt_ap, gSet2_ap, gSet3_ap, sPar_ap, iL_ap, iT_ap, iR1_ap, iR2_ap, iEnL_ap, iEnT_ap, iZp_ap, iA_ap, iEnA_ap, mFn_ap, mFnT_ap, mMt_ap, mFnK_ap, mMk_ap, sFldSet_ap, mPr_ap, dChain_ap, dMl_ap, mRg1_ap, mRg2_ap, mV_ap, sParO_ap, mSortU_ap, putN, putP, rdAll, AV.pvs, oFld.eq_1, oFld.eq_2, lookP, callF, takeA, putA, okObj.eq_1, okObj.eq_2, isOf.eq_1, isOf.eq_2, PV.items.eq_1, PV.items.eq_2, PV.items.eq_3, PV.items.eq_4, dMt, PV.isLst.eq_1, PV.isLst.eq_2, S.set, MV.frz.eq_1, MV.frz.eq_2, MV.frz.eq_3, MV.frz.eq_4, heldM.eq_1, heldM.eq_2, valM.eq_1, valM.eq_2, finM, valsM, ofStr_beq, ofStr_eq, bIsi, bIsiT, PV.kind.eq_1, PV.kind.eq_2, PV.kind.eq_3, PV.kind.eq_4, PV.kind.eq_5, PV.kind.eq_6, PV.kind.eq_7, PV.kind.eq_8, isiB, BT.nm, PV.tys.eq_1, PV.tys.eq_2, PV.tys.eq_3, bLen.eq_1, bLen.eq_2, bLen.eq_3, bLen.eq_4, bLen.eq_5, bAbs.eq_1, bAbs.eq_2, bMax2.eq_1, bMax2.eq_2, bMin2.eq_1, bMin2.eq_2, bDivmod.eq_1, bDivmod.eq_2, divOk, bInt.eq_1, bInt.eq_2, bInt.eq_3, bList.eq_1, bList.eq_2, bTuple.eq_1, bTuple.eq_2, bTuple.eq_3, bAll.eq_1, bAll.eq_2, bAny.eq_1, bAny.eq_2, bls_bools, ints_ints, oEq, oNe, oIn, oNotIn, oInF, oNotInF, oIs, oIsNot, isNonP.eq_1, isNonP.eq_2, eqP_int, eqP_bl, eqP_tup, eqP_lst, inP_ints, inF_tup, inF_lst, oAdd, oSub, oMul, mulOk, oFdiv, oMod, oPow, powOk, oLt, oLe, oGt, oGe, uNeg, lExtend, lPop, lPopAt, lReverse, lIndex_ints, rgOk, valAt, S.wipe, wipeE, S.rest, restE, oI_c, oIc_c, lAppend_c, mkOut_c, oIxA_c, rngP_0, atI_0, atI_1, ixN_ok, bls_map, -List.map_map, all_tt, enP_ints, inF_items, turn_ap, lcT_ap, tTrue_ap, Option.bind_assoc, Option.map_bind]
    · omega
    · intro m hm
      by_cases h1 : m = -1
      · subst h1
        simp (config := { decide := false }) [dVal_ap, dC_ap, pLate_ap, dFrz_ap, pNow_ap, dOp_ap, dUn_ap, tCmp_ap, tOf_ap, tAnd_ap, tOr_ap, tNot_ap, dAnd_ap, dOr_ap, dNot_ap, dIf_ap, mOp_ap, aNil_ap, aV_ap, aIo_ap, dTup_ap, mLst_ap, qNil_ap, qC_ap, dCall_ap, mCall_ap, lNone_ap, lSome_ap, dSlT_ap, mSlL_ap, dFld_ap, gNm_ap, gsNil_ap, gsC_ap, gTp_ap, gIx_ap, sNx_ap, sSeq_ap, sEx_ap, sAsg_ap, sSetO_ap, sRet_ap, sRetO_ap, sRetNm_ap, sRetN_ap, sIf_ap, sNever_ap, sBk_ap, sCt_ap, gSet2_ap, gSet3_ap, sPar_ap, iL_ap, iT_ap, iR1_ap, iR2_ap, iEnL_ap, iEnT_ap, iZp_ap, iA_ap, iEnA_ap, mFn_ap, mFnT_ap, mMt_ap, mFnK_ap, mMk_ap, sFldSet_ap, mPr_ap, dChain_ap, dMl_ap, mRg1_ap, mRg2_ap, mV_ap, sParO_ap, mSortU_ap, putN, putP, rdAll, AV.pvs, oFld.eq_1, oFld.eq_2, lookP, callF, takeA, putA, okObj.eq_1, okObj.eq_2, isOf.eq_1, isOf.eq_2, PV.items.eq_1, PV.items.eq_2, PV.items.eq_3, PV.items.eq_4, dMt, PV.isLst.eq_1, PV.isLst.eq_2, S.set, MV.frz.eq_1, MV.frz.eq_2, MV.frz.eq_3, MV.frz.eq_4, heldM.eq_1, heldM.eq_2, valM.eq_1, valM.eq_2, finM, valsM, ofStr_beq, ofStr_eq, bIsi, bIsiT, PV.kind.eq_1, PV.kind.eq_2, PV.kind.eq_3, PV.kind.eq_4, PV.kind.eq_5, PV.kind.eq_6, PV.kind.eq_7, PV.kind.eq_8, isiB, BT.nm, PV.tys.eq_1, PV.tys.eq_2, PV.tys.eq_3, bLen.eq_1, bLen.eq_2, bLen.eq_3, bLen.eq_4, bLen.eq_5, bAbs.eq_1, bAbs.eq_2, bMax2.eq_1, bMax2.eq_2, bMin2.eq_1, bMin2.eq_2, bDivmod.eq_1, bDivmod.eq_2, divOk, bInt.eq_1, bInt.eq_2, bInt.eq_3, bList.eq_1, bList.eq_2, bTuple.eq_1, bTuple.eq_2, bTuple.eq_3, bAll.eq_1, bAll.eq_2, bAny.eq_1, bAny.eq_2, bls_bools, ints_ints, oEq, oNe, oIn, oNotIn, oInF, oNotInF, oIs, oIsNot, isNonP.eq_1, isNonP.eq_2, eqP_int, eqP_bl, eqP_tup, eqP_lst, inP_ints, inF_tup, inF_lst, oAdd, oSub, oMul, mulOk, oFdiv, oMod, oPow, powOk, oLt, oLe, oGt, oGe, uNeg, lExtend, lPop, lPopAt, lReverse, lIndex_ints, rgOk, valAt, S.wipe, wipeE, S.rest, restE, oI_c, oIc_c, lAppend_c, mkOut_c, oIxA_c, rngP_0, atI_0, atI_1, ixN_ok, bls_map, -List.map_map, all_tt, enP_ints, inF_items, turn_ap, lcT_ap, tTrue_ap, Option.bind_assoc, Option.map_bind]
        rfl
      · have hk : m ∈ knownOf (tags ms) := known_mem.mpr (List.mem_map.mpr ⟨m, hm, by simp [tag, h1]⟩)
        have ht : tag m = some m := by simp [tag, h1]
        simp (config := { decide := false }) [dVal_ap, dC_ap, pLate_ap, dFrz_ap, pNow_ap, dOp_ap, dUn_ap, tCmp_ap, tOf_ap, tAnd_ap, tOr_ap, tNot_ap, dAnd_ap, dOr_ap, dNot_ap, dIf_ap, mOp_ap, aNil_ap, aV_ap, aIo_ap, dTup_ap, mLst_ap, qNil_ap, qC_ap, dCall_ap, mCall_ap, lNone_ap, lSome_ap, dSlT_ap, mSlL_ap, dFld_ap, gNm_ap, gsNil_ap, gsC_ap, gTp_ap, gIx_ap, sNx_ap, sSeq_ap, sEx_ap, sAsg_ap, sSetO_ap, sRet_ap, sRetO_ap, sRetNm_ap, sRetN_ap, sIf_ap, sNever_ap, sBk_ap, sCt_ap, gSet2_ap, gSet3_ap, sPar_ap, iL_ap, iT_ap, iR1_ap, iR2_ap, iEnL_ap, iEnT_ap, iZp_ap, iA_ap, iEnA_ap, mFn_ap, mFnT_ap, mMt_ap, mFnK_ap, mMk_ap, sFldSet_ap, mPr_ap, dChain_ap, dMl_ap, mRg1_ap, mRg2_ap, mV_ap, sParO_ap, mSortU_ap, putN, putP, rdAll, AV.pvs, oFld.eq_1, oFld.eq_2, lookP, callF, takeA, putA, okObj.eq_1, okObj.eq_2, isOf.eq_1, isOf.eq_2, PV.items.eq_1, PV.items.eq_2, PV.items.eq_3, PV.items.eq_4, dMt, PV.isLst.eq_1, PV.isLst.eq_2, S.set, MV.frz.eq_1, MV.frz.eq_2, MV.frz.eq_3, MV.frz.eq_4, heldM.eq_1, heldM.eq_2, valM.eq_1, valM.eq_2, finM, valsM, ofStr_beq, ofStr_eq, bIsi, bIsiT, PV.kind.eq_1, PV.kind.eq_2, PV.kind.eq_3, PV.kind.eq_4, PV.kind.eq_5, PV.kind.eq_6, PV.kind.eq_7, PV.kind.eq_8, isiB, BT.nm, PV.tys.eq_1, PV.tys.eq_2, PV.tys.eq_3, bLen.eq_1, bLen.eq_2, bLen.eq_3, bLen.eq_4, bLen.eq_5, bAbs.eq_1, bAbs.eq_2, bMax2.eq_1, bMax2.eq_2, bMin2.eq_1, bMin2.eq_2, bDivmod.eq_1, bDivmod.eq_2, divOk, bInt.eq_1, bInt.eq_2, bInt.eq_3, bList.eq_1, bList.eq_2, bTuple.eq_1, bTuple.eq_2, bTuple.eq_3, bAll.eq_1, bAll.eq_2, bAny.eq_1, bAny.eq_2, bls_bools, ints_ints, oEq, oNe, oIn, oNotIn, oInF, oNotInF, oIs, oIsNot, isNonP.eq_1, isNonP.eq_2, eqP_int, eqP_bl, eqP_tup, eqP_lst, inP_ints, inF_tup, inF_lst, oAdd, oSub, oMul, mulOk, oFdiv, oMod, oPow, powOk, oLt, oLe, oGt, oGe, uNeg, lExtend, lPop, lPopAt, lReverse, lIndex_ints, rgOk, valAt, S.wipe, wipeE, S.rest, restE, oI_c, oIc_c, lAppend_c, mkOut_c, oIxA_c, rngP_0, atI_0, atI_1, ixN_ok, bls_map, -List.map_map, all_tt, enP_ints, inF_items, turn_ap, lcT_ap, tTrue_ap, Option.bind_assoc, Option.map_bind, h1, hk, lIndex_ints hk]
        rw [ht]
        rfl
theorem e_are_classes {p : PV} {cs : List Int} (h : p = .lst (cs.map .int) ∨ p = .tup (cs.map .int)) (hg : Good cs) : f_are_classes ca [.val p] sto = some (.val (.bl true), [.val p], sto) := by
  have hi : p.items = some (cs.map .int) := by rcases h with rfl | rfl <;> rfl
  unfold f_are_classes runF b_are_classes
  have hl : bLen [p] = some (.int cs.length) := by rcases h with rfl | rfl <;> simp [bLen]
  have ht : bTuple [p] = some (.tup (cs.map .int)) := by rcases h with rfl | rfl <;> rfl
  have h1 : (1 : Int) ≤ cs.length := by have := hg.1; omega
  have h8 : (cs.length : Int) ≤ 8 := by have := hg.2.1; omega
  simp (config := { decide := false }) [dVal_ap, dC_ap, pLate_ap, dFrz_ap, pNow_ap, dOp_ap, dUn_ap, tCmp_ap, tOf_ap, tAnd_ap, tOr_ap, tNot_ap, dAnd_ap, dOr_ap, dNot_ap, dIf_ap, mOp_ap, aNil_ap, aV_ap, aIo_ap, dTup_ap, mLst_ap, qNil_ap, qC_ap, dCall_ap, mCall_ap, lNone_ap, lSome_ap, dSlT_ap, mSlL_ap, dFld_ap, gNm_ap, gsNil_ap, gsC_ap, gTp_ap, gIx_ap, sNx_ap, sSeq_ap, sEx_ap, sAsg_ap, sSetO_ap, sRet_ap, sRetO_ap, sRetNm_ap, sRetN_ap, sIf_ap, sNever_ap, sBk_ap, sCt_ap, gSet2_ap, gSet3_ap, sPar_ap, iL_ap, iT_ap, iR1_ap, iR2_ap, iEnL_ap, iEnT_ap, iZp_ap, iA_ap, iEnA_ap, mFn_ap, mFnT_ap, mMt_ap, mFnK_ap, mMk_ap, sFldSet_ap, mPr_ap, dChain_ap, dMl_ap, mRg1_ap, mRg2_ap, mV_ap, sParO_ap, mSortU_ap, putN, putP, rdAll, AV.pvs, oFld.eq_1, oFld.eq_2, lookP, callF, takeA, putA, okObj.eq_1, okObj.eq_2, isOf.eq_1, isOf.eq_2, PV.items.eq_1, PV.items.eq_2, PV.items.eq_3, PV.items.eq_4, dMt, PV.isLst.eq_1, PV.isLst.eq_2, S.set, MV.frz.eq_1, MV.frz.eq_2, MV.frz.eq_3, MV.frz.eq_4, heldM.eq_1, heldM.eq_2, valM.eq_1, valM.eq_2, finM, valsM, ofStr_beq, ofStr_eq, bIsi, bIsiT, PV.kind.eq_1, PV.kind.eq_2, PV.kind.eq_3, PV.kind.eq_4, PV.kind.eq_5, PV.kind.eq_6, PV.kind.eq_7, PV.kind.eq_8, isiB, BT.nm, PV.tys.eq_1, PV.tys.eq_2, PV.tys.eq_3, bLen.eq_1, bLen.eq_2, bLen.eq_3, bLen.eq_4, bLen.eq_5, bAbs.eq_1, bAbs.eq_2, bMax2.eq_1, bMax2.eq_2, bMin2.eq_1, bMin2.eq_2, bDivmod.eq_1, bDivmod.eq_2, divOk, bInt.eq_1, bInt.eq_2, bInt.eq_3, bList.eq_1, bList.eq_2, bTuple.eq_1, bTuple.eq_2, bTuple.eq_3, bAll.eq_1, bAll.eq_2, bAny.eq_1, bAny.eq_2, bls_bools, ints_ints, oEq, oNe, oIn, oNotIn, oInF, oNotInF, oIs, oIsNot, isNonP.eq_1, isNonP.eq_2, eqP_int, eqP_bl, eqP_tup, eqP_lst, inP_ints, inF_tup, inF_lst, oAdd, oSub, oMul, mulOk, oFdiv, oMod, oPow, powOk, oLt, oLe, oGt, oGe, uNeg, lExtend, lPop, lPopAt, lReverse, lIndex_ints, rgOk, valAt, S.wipe, wipeE, S.rest, restE, oI_c, oIc_c, lAppend_c, mkOut_c, oIxA_c, rngP_0, atI_0, atI_1, ixN_ok, bls_map, -List.map_map, all_tt, enP_ints, inF_items, turn_ap, lcT_ap, tTrue_ap, Option.bind_assoc, Option.map_bind, e_is_list hi, hl, h1, h8]
  rw [lc_map cs .int (fun _ => .bl true) (s1 := ⟨[some (.val p), none], sto⟩)]
  · have hb : PV.bls (cs.map fun _ => PV.bl true) = some (cs.map fun _ => true) := by
      have := bls_bools (cs.map fun _ => true)
      rwa [List.map_map] at this
    simp (config := { decide := false }) [dVal_ap, dC_ap, pLate_ap, dFrz_ap, pNow_ap, dOp_ap, dUn_ap, tCmp_ap, tOf_ap, tAnd_ap, tOr_ap, tNot_ap, dAnd_ap, dOr_ap, dNot_ap, dIf_ap, mOp_ap, aNil_ap, aV_ap, aIo_ap, dTup_ap, mLst_ap, qNil_ap, qC_ap, dCall_ap, mCall_ap, lNone_ap, lSome_ap, dSlT_ap, mSlL_ap, dFld_ap, gNm_ap, gsNil_ap, gsC_ap, gTp_ap, gIx_ap, sNx_ap, sSeq_ap, sEx_ap, sAsg_ap, sSetO_ap, sRet_ap, sRetO_ap, sRetNm_ap, sRetN_ap, sIf_ap, sNever_ap, sBk_ap, sCt_ap, gSet2_ap, gSet3_ap, sPar_ap, iL_ap, iT_ap, iR1_ap, iR2_ap, iEnL_ap, iEnT_ap, iZp_ap, iA_ap, iEnA_ap, mFn_ap, mFnT_ap, mMt_ap, mFnK_ap, mMk_ap, sFldSet_ap, mPr_ap, dChain_ap, dMl_ap, mRg1_ap, mRg2_ap, mV_ap, sParO_ap, mSortU_ap, putN, putP, rdAll, AV.pvs, oFld.eq_1, oFld.eq_2, lookP, callF, takeA, putA, okObj.eq_1, okObj.eq_2, isOf.eq_1, isOf.eq_2, PV.items.eq_1, PV.items.eq_2, PV.items.eq_3, PV.items.eq_4, dMt, PV.isLst.eq_1, PV.isLst.eq_2, S.set, MV.frz.eq_1, MV.frz.eq_2, MV.frz.eq_3, MV.frz.eq_4, heldM.eq_1, heldM.eq_2, valM.eq_1, valM.eq_2, finM, valsM, ofStr_beq, ofStr_eq, bIsi, bIsiT, PV.kind.eq_1, PV.kind.eq_2, PV.kind.eq_3, PV.kind.eq_4, PV.kind.eq_5, PV.kind.eq_6, PV.kind.eq_7, PV.kind.eq_8, isiB, BT.nm, PV.tys.eq_1, PV.tys.eq_2, PV.tys.eq_3, bLen.eq_1, bLen.eq_2, bLen.eq_3, bLen.eq_4, bLen.eq_5, bAbs.eq_1, bAbs.eq_2, bMax2.eq_1, bMax2.eq_2, bMin2.eq_1, bMin2.eq_2, bDivmod.eq_1, bDivmod.eq_2, divOk, bInt.eq_1, bInt.eq_2, bInt.eq_3, bList.eq_1, bList.eq_2, bTuple.eq_1, bTuple.eq_2, bTuple.eq_3, bAll.eq_1, bAll.eq_2, bAny.eq_1, bAny.eq_2, bls_bools, ints_ints, oEq, oNe, oIn, oNotIn, oInF, oNotInF, oIs, oIsNot, isNonP.eq_1, isNonP.eq_2, eqP_int, eqP_bl, eqP_tup, eqP_lst, inP_ints, inF_tup, inF_lst, oAdd, oSub, oMul, mulOk, oFdiv, oMod, oPow, powOk, oLt, oLe, oGt, oGe, uNeg, lExtend, lPop, lPopAt, lReverse, lIndex_ints, rgOk, valAt, S.wipe, wipeE, S.rest, restE, oI_c, oIc_c, lAppend_c, mkOut_c, oIxA_c, rngP_0, atI_0, atI_1, ixN_ok, bls_map, -List.map_map, all_tt, enP_ints, inF_items, turn_ap, lcT_ap, tTrue_ap, Option.bind_assoc, Option.map_bind, hb, e_normal hi (by omega), ht, hg.2.2]
  · simp (config := { decide := false }) [dVal_ap, dC_ap, pLate_ap, dFrz_ap, pNow_ap, dOp_ap, dUn_ap, tCmp_ap, tOf_ap, tAnd_ap, tOr_ap, tNot_ap, dAnd_ap, dOr_ap, dNot_ap, dIf_ap, mOp_ap, aNil_ap, aV_ap, aIo_ap, dTup_ap, mLst_ap, qNil_ap, qC_ap, dCall_ap, mCall_ap, lNone_ap, lSome_ap, dSlT_ap, mSlL_ap, dFld_ap, gNm_ap, gsNil_ap, gsC_ap, gTp_ap, gIx_ap, sNx_ap, sSeq_ap, sEx_ap, sAsg_ap, sSetO_ap, sRet_ap, sRetO_ap, sRetNm_ap, sRetN_ap, sIf_ap, sNever_ap, sBk_ap, sCt_ap, gSet2_ap, gSet3_ap, sPar_ap, iL_ap, iT_ap, iR1_ap, iR2_ap, iEnL_ap, iEnT_ap, iZp_ap, iA_ap, iEnA_ap, mFn_ap, mFnT_ap, mMt_ap, mFnK_ap, mMk_ap, sFldSet_ap, mPr_ap, dChain_ap, dMl_ap, mRg1_ap, mRg2_ap, mV_ap, sParO_ap, mSortU_ap, putN, putP, rdAll, AV.pvs, oFld.eq_1, oFld.eq_2, lookP, callF, takeA, putA, okObj.eq_1, okObj.eq_2, isOf.eq_1, isOf.eq_2, PV.items.eq_1, PV.items.eq_2, PV.items.eq_3, PV.items.eq_4, dMt, PV.isLst.eq_1, PV.isLst.eq_2, S.set, MV.frz.eq_1, MV.frz.eq_2, MV.frz.eq_3, MV.frz.eq_4, heldM.eq_1, heldM.eq_2, valM.eq_1, valM.eq_2, finM, valsM, ofStr_beq, ofStr_eq, bIsi, bIsiT, PV.kind.eq_1, PV.kind.eq_2, PV.kind.eq_3, PV.kind.eq_4, PV.kind.eq_5, PV.kind.eq_6, PV.kind.eq_7, PV.kind.eq_8, isiB, BT.nm, PV.tys.eq_1, PV.tys.eq_2, PV.tys.eq_3, bLen.eq_1, bLen.eq_2, bLen.eq_3, bLen.eq_4, bLen.eq_5, bAbs.eq_1, bAbs.eq_2, bMax2.eq_1, bMax2.eq_2, bMin2.eq_1, bMin2.eq_2, bDivmod.eq_1, bDivmod.eq_2, divOk, bInt.eq_1, bInt.eq_2, bInt.eq_3, bList.eq_1, bList.eq_2, bTuple.eq_1, bTuple.eq_2, bTuple.eq_3, bAll.eq_1, bAll.eq_2, bAny.eq_1, bAny.eq_2, bls_bools, ints_ints, oEq, oNe, oIn, oNotIn, oInF, oNotInF, oIs, oIsNot, isNonP.eq_1, isNonP.eq_2, eqP_int, eqP_bl, eqP_tup, eqP_lst, inP_ints, inF_tup, inF_lst, oAdd, oSub, oMul, mulOk, oFdiv, oMod, oPow, powOk, oLt, oLe, oGt, oGe, uNeg, lExtend, lPop, lPopAt, lReverse, lIndex_ints, rgOk, valAt, S.wipe, wipeE, S.rest, restE, oI_c, oIc_c, lAppend_c, mkOut_c, oIxA_c, rngP_0, atI_0, atI_1, ixN_ok, bls_map, -List.map_map, all_tt, enP_ints, inF_items, turn_ap, lcT_ap, tTrue_ap, Option.bind_assoc, Option.map_bind, hi]
  · simp (config := { decide := false }) [dVal_ap, dC_ap, pLate_ap, dFrz_ap, pNow_ap, dOp_ap, dUn_ap, tCmp_ap, tOf_ap, tAnd_ap, tOr_ap, tNot_ap, dAnd_ap, dOr_ap, dNot_ap, dIf_ap, mOp_ap, aNil_ap, aV_ap, aIo_ap, dTup_ap, mLst_ap, qNil_ap, qC_ap, dCall_ap, mCall_ap, lNone_ap, lSome_ap, dSlT_ap, mSlL_ap, dFld_ap, gNm_ap, gsNil_ap, gsC_ap, gTp_ap, gIx_ap, sNx_ap, sSeq_ap, sEx_ap, sAsg_ap, sSetO_ap, sRet_ap, sRetO_ap, sRetNm_ap, sRetN_ap, sIf_ap, sNever_ap, sBk_ap, sCt_ap, gSet2_ap, gSet3_ap, sPar_ap, iL_ap, iT_ap, iR1_ap, iR2_ap, iEnL_ap, iEnT_ap, iZp_ap, iA_ap, iEnA_ap, mFn_ap, mFnT_ap, mMt_ap, mFnK_ap, mMk_ap, sFldSet_ap, mPr_ap, dChain_ap, dMl_ap, mRg1_ap, mRg2_ap, mV_ap, sParO_ap, mSortU_ap, putN, putP, rdAll, AV.pvs, oFld.eq_1, oFld.eq_2, lookP, callF, takeA, putA, okObj.eq_1, okObj.eq_2, isOf.eq_1, isOf.eq_2, PV.items.eq_1, PV.items.eq_2, PV.items.eq_3, PV.items.eq_4, dMt, PV.isLst.eq_1, PV.isLst.eq_2, S.set, MV.frz.eq_1, MV.frz.eq_2, MV.frz.eq_3, MV.frz.eq_4, heldM.eq_1, heldM.eq_2, valM.eq_1, valM.eq_2, finM, valsM, ofStr_beq, ofStr_eq, bIsi, bIsiT, PV.kind.eq_1, PV.kind.eq_2, PV.kind.eq_3, PV.kind.eq_4, PV.kind.eq_5, PV.kind.eq_6, PV.kind.eq_7, PV.kind.eq_8, isiB, BT.nm, PV.tys.eq_1, PV.tys.eq_2, PV.tys.eq_3, bLen.eq_1, bLen.eq_2, bLen.eq_3, bLen.eq_4, bLen.eq_5, bAbs.eq_1, bAbs.eq_2, bMax2.eq_1, bMax2.eq_2, bMin2.eq_1, bMin2.eq_2, bDivmod.eq_1, bDivmod.eq_2, divOk, bInt.eq_1, bInt.eq_2, bInt.eq_3, bList.eq_1, bList.eq_2, bTuple.eq_1, bTuple.eq_2, bTuple.eq_3, bAll.eq_1, bAll.eq_2, bAny.eq_1, bAny.eq_2, bls_bools, ints_ints, oEq, oNe, oIn, oNotIn, oInF, oNotInF, oIs, oIsNot, isNonP.eq_1, isNonP.eq_2, eqP_int, eqP_bl, eqP_tup, eqP_lst, inP_ints, inF_tup, inF_lst, oAdd, oSub, oMul, mulOk, oFdiv, oMod, oPow, powOk, oLt, oLe, oGt, oGe, uNeg, lExtend, lPop, lPopAt, lReverse, lIndex_ints, rgOk, valAt, S.wipe, wipeE, S.rest, restE, oI_c, oIc_c, lAppend_c, mkOut_c, oIxA_c, rngP_0, atI_0, atI_1, ixN_ok, bls_map, -List.map_map, all_tt, enP_ints, inF_items, turn_ap, lcT_ap, tTrue_ap, Option.bind_assoc, Option.map_bind]
  · omega
  · intro c hc
    simp (config := { decide := false }) [dVal_ap, dC_ap, pLate_ap, dFrz_ap, pNow_ap, dOp_ap, dUn_ap, tCmp_ap, tOf_ap, tAnd_ap, tOr_ap, tNot_ap, dAnd_ap, dOr_ap, dNot_ap, dIf_ap, mOp_ap, aNil_ap, aV_ap, aIo_ap, dTup_ap, mLst_ap, qNil_ap, qC_ap, dCall_ap, mCall_ap, lNone_ap, lSome_ap, dSlT_ap, mSlL_ap, dFld_ap, gNm_ap, gsNil_ap, gsC_ap, gTp_ap, gIx_ap, sNx_ap, sSeq_ap, sEx_ap, sAsg_ap, sSetO_ap, sRet_ap, sRetO_ap, sRetNm_ap, sRetN_ap, sIf_ap, sNever_ap, sBk_ap, sCt_ap, gSet2_ap, gSet3_ap, sPar_ap, iL_ap, iT_ap, iR1_ap, iR2_ap, iEnL_ap, iEnT_ap, iZp_ap, iA_ap, iEnA_ap, mFn_ap, mFnT_ap, mMt_ap, mFnK_ap, mMk_ap, sFldSet_ap, mPr_ap, dChain_ap, dMl_ap, mRg1_ap, mRg2_ap, mV_ap, sParO_ap, mSortU_ap, putN, putP, rdAll, AV.pvs, oFld.eq_1, oFld.eq_2, lookP, callF, takeA, putA, okObj.eq_1, okObj.eq_2, isOf.eq_1, isOf.eq_2, PV.items.eq_1, PV.items.eq_2, PV.items.eq_3, PV.items.eq_4, dMt, PV.isLst.eq_1, PV.isLst.eq_2, S.set, MV.frz.eq_1, MV.frz.eq_2, MV.frz.eq_3, MV.frz.eq_4, heldM.eq_1, heldM.eq_2, valM.eq_1, valM.eq_2, finM, valsM, ofStr_beq, ofStr_eq, bIsi, bIsiT, PV.kind.eq_1, PV.kind.eq_2, PV.kind.eq_3, PV.kind.eq_4, PV.kind.eq_5, PV.kind.eq_6, PV.kind.eq_7, PV.kind.eq_8, isiB, BT.nm, PV.tys.eq_1, PV.tys.eq_2, PV.tys.eq_3, bLen.eq_1, bLen.eq_2, bLen.eq_3, bLen.eq_4, bLen.eq_5, bAbs.eq_1, bAbs.eq_2, bMax2.eq_1, bMax2.eq_2, bMin2.eq_1, bMin2.eq_2, bDivmod.eq_1, bDivmod.eq_2, divOk, bInt.eq_1, bInt.eq_2, bInt.eq_3, bList.eq_1, bList.eq_2, bTuple.eq_1, bTuple.eq_2, bTuple.eq_3, bAll.eq_1, bAll.eq_2, bAny.eq_1, bAny.eq_2, bls_bools, ints_ints, oEq, oNe, oIn, oNotIn, oInF, oNotInF, oIs, oIsNot, isNonP.eq_1, isNonP.eq_2, eqP_int, eqP_bl, eqP_tup, eqP_lst, inP_ints, inF_tup, inF_lst, oAdd, oSub, oMul, mulOk, oFdiv, oMod, oPow, powOk, oLt, oLe, oGt, oGe, uNeg, lExtend, lPop, lPopAt, lReverse, lIndex_ints, rgOk, valAt, S.wipe, wipeE, S.rest, restE, oI_c, oIc_c, lAppend_c, mkOut_c, oIxA_c, rngP_0, atI_0, atI_1, ixN_ok, bls_map, -List.map_map, all_tt, enP_ints, inF_items, turn_ap, lcT_ap, tTrue_ap, Option.bind_assoc, Option.map_bind, e_is_integer]
@[reducible] def Pt (ca : Nat → Addr) (cs : List Int) : PV := .obj (ca 0) ["own_classes"] [.tup (cs.map .int)]
theorem e_init {p : PV} {cs : List Int} (h : p = .lst (cs.map .int) ∨ p = .tup (cs.map .int)) (hg : Good cs) :
    f_Partition_init ca [.mobj (ca 0) [] [], .val p] sto = some (.val .non, [.mobj (ca 0) ["own_classes"] [.tup (cs.map .int)], .val p], sto) := by
  unfold f_Partition_init runF b_Partition_init
  have ht : bTuple [p] = some (.tup (cs.map .int)) := by rcases h with rfl | rfl <;> rfl
  simp (config := { decide := false }) [dVal_ap, dC_ap, pLate_ap, dFrz_ap, pNow_ap, dOp_ap, dUn_ap, tCmp_ap, tOf_ap, tAnd_ap, tOr_ap, tNot_ap, dAnd_ap, dOr_ap, dNot_ap, dIf_ap, mOp_ap, aNil_ap, aV_ap, aIo_ap, dTup_ap, mLst_ap, qNil_ap, qC_ap, dCall_ap, mCall_ap, lNone_ap, lSome_ap, dSlT_ap, mSlL_ap, dFld_ap, gNm_ap, gsNil_ap, gsC_ap, gTp_ap, gIx_ap, sNx_ap, sSeq_ap, sEx_ap, sAsg_ap, sSetO_ap, sRet_ap, sRetO_ap, sRetNm_ap, sRetN_ap, sIf_ap, sNever_ap, sBk_ap, sCt_ap, gSet2_ap, gSet3_ap, sPar_ap, iL_ap, iT_ap, iR1_ap, iR2_ap, iEnL_ap, iEnT_ap, iZp_ap, iA_ap, iEnA_ap, mFn_ap, mFnT_ap, mMt_ap, mFnK_ap, mMk_ap, sFldSet_ap, mPr_ap, dChain_ap, dMl_ap, mRg1_ap, mRg2_ap, mV_ap, sParO_ap, mSortU_ap, putN, putP, rdAll, AV.pvs, oFld.eq_1, oFld.eq_2, lookP, callF, takeA, putA, okObj.eq_1, okObj.eq_2, isOf.eq_1, isOf.eq_2, PV.items.eq_1, PV.items.eq_2, PV.items.eq_3, PV.items.eq_4, dMt, PV.isLst.eq_1, PV.isLst.eq_2, S.set, MV.frz.eq_1, MV.frz.eq_2, MV.frz.eq_3, MV.frz.eq_4, heldM.eq_1, heldM.eq_2, valM.eq_1, valM.eq_2, finM, valsM, ofStr_beq, ofStr_eq, bIsi, bIsiT, PV.kind.eq_1, PV.kind.eq_2, PV.kind.eq_3, PV.kind.eq_4, PV.kind.eq_5, PV.kind.eq_6, PV.kind.eq_7, PV.kind.eq_8, isiB, BT.nm, PV.tys.eq_1, PV.tys.eq_2, PV.tys.eq_3, bLen.eq_1, bLen.eq_2, bLen.eq_3, bLen.eq_4, bLen.eq_5, bAbs.eq_1, bAbs.eq_2, bMax2.eq_1, bMax2.eq_2, bMin2.eq_1, bMin2.eq_2, bDivmod.eq_1, bDivmod.eq_2, divOk, bInt.eq_1, bInt.eq_2, bInt.eq_3, bList.eq_1, bList.eq_2, bTuple.eq_1, bTuple.eq_2, bTuple.eq_3, bAll.eq_1, bAll.eq_2, bAny.eq_1, bAny.eq_2, bls_bools, ints_ints, oEq, oNe, oIn, oNotIn, oInF, oNotInF, oIs, oIsNot, isNonP.eq_1, isNonP.eq_2, eqP_int, eqP_bl, eqP_tup, eqP_lst, inP_ints, inF_tup, inF_lst, oAdd, oSub, oMul, mulOk, oFdiv, oMod, oPow, powOk, oLt, oLe, oGt, oGe, uNeg, lExtend, lPop, lPopAt, lReverse, lIndex_ints, rgOk, valAt, S.wipe, wipeE, S.rest, restE, oI_c, oIc_c, lAppend_c, mkOut_c, oIxA_c, rngP_0, atI_0, atI_1, ixN_ok, bls_map, -List.map_map, all_tt, enP_ints, inF_items, turn_ap, lcT_ap, tTrue_ap, Option.bind_assoc, Option.map_bind, e_are_classes h hg, ht]
theorem e_classes {cs : List Int} : f_Partition_classes ca [.val (Pt ca cs)] sto = some (.val (.tup (cs.map .int)), [.val (Pt ca cs)], sto) := by
  unfold f_Partition_classes runF b_Partition_classes
  simp (config := { decide := false }) [dVal_ap, dC_ap, pLate_ap, dFrz_ap, pNow_ap, dOp_ap, dUn_ap, tCmp_ap, tOf_ap, tAnd_ap, tOr_ap, tNot_ap, dAnd_ap, dOr_ap, dNot_ap, dIf_ap, mOp_ap, aNil_ap, aV_ap, aIo_ap, dTup_ap, mLst_ap, qNil_ap, qC_ap, dCall_ap, mCall_ap, lNone_ap, lSome_ap, dSlT_ap, mSlL_ap, dFld_ap, gNm_ap, gsNil_ap, gsC_ap, gTp_ap, gIx_ap, sNx_ap, sSeq_ap, sEx_ap, sAsg_ap, sSetO_ap, sRet_ap, sRetO_ap, sRetNm_ap, sRetN_ap, sIf_ap, sNever_ap, sBk_ap, sCt_ap, gSet2_ap, gSet3_ap, sPar_ap, iL_ap, iT_ap, iR1_ap, iR2_ap, iEnL_ap, iEnT_ap, iZp_ap, iA_ap, iEnA_ap, mFn_ap, mFnT_ap, mMt_ap, mFnK_ap, mMk_ap, sFldSet_ap, mPr_ap, dChain_ap, dMl_ap, mRg1_ap, mRg2_ap, mV_ap, sParO_ap, mSortU_ap, putN, putP, rdAll, AV.pvs, oFld.eq_1, oFld.eq_2, lookP, callF, takeA, putA, okObj.eq_1, okObj.eq_2, isOf.eq_1, isOf.eq_2, PV.items.eq_1, PV.items.eq_2, PV.items.eq_3, PV.items.eq_4, dMt, PV.isLst.eq_1, PV.isLst.eq_2, S.set, MV.frz.eq_1, MV.frz.eq_2, MV.frz.eq_3, MV.frz.eq_4, heldM.eq_1, heldM.eq_2, valM.eq_1, valM.eq_2, finM, valsM, ofStr_beq, ofStr_eq, bIsi, bIsiT, PV.kind.eq_1, PV.kind.eq_2, PV.kind.eq_3, PV.kind.eq_4, PV.kind.eq_5, PV.kind.eq_6, PV.kind.eq_7, PV.kind.eq_8, isiB, BT.nm, PV.tys.eq_1, PV.tys.eq_2, PV.tys.eq_3, bLen.eq_1, bLen.eq_2, bLen.eq_3, bLen.eq_4, bLen.eq_5, bAbs.eq_1, bAbs.eq_2, bMax2.eq_1, bMax2.eq_2, bMin2.eq_1, bMin2.eq_2, bDivmod.eq_1, bDivmod.eq_2, divOk, bInt.eq_1, bInt.eq_2, bInt.eq_3, bList.eq_1, bList.eq_2, bTuple.eq_1, bTuple.eq_2, bTuple.eq_3, bAll.eq_1, bAll.eq_2, bAny.eq_1, bAny.eq_2, bls_bools, ints_ints, oEq, oNe, oIn, oNotIn, oInF, oNotInF, oIs, oIsNot, isNonP.eq_1, isNonP.eq_2, eqP_int, eqP_bl, eqP_tup, eqP_lst, inP_ints, inF_tup, inF_lst, oAdd, oSub, oMul, mulOk, oFdiv, oMod, oPow, powOk, oLt, oLe, oGt, oGe, uNeg, lExtend, lPop, lPopAt, lReverse, lIndex_ints, rgOk, valAt, S.wipe, wipeE, S.rest, restE, oI_c, oIc_c, lAppend_c, mkOut_c, oIxA_c, rngP_0, atI_0, atI_1, ixN_ok, bls_map, -List.map_map, all_tt, enP_ints, inF_items, turn_ap, lcT_ap, tTrue_ap, Option.bind_assoc, Option.map_bind]
theorem e_want {cs hs : List Int} {p : PV} (h : p.items = some (hs.map .int)) (hh : Holds cs hs) : f_Partition_want_holders ca [.val (Pt ca cs), .val p] sto = some (.val .non, [.val (Pt ca cs), .val p], sto) := by
  unfold f_Partition_want_holders runF b_Partition_want_holders
  simp (config := { decide := false }) [dVal_ap, dC_ap, pLate_ap, dFrz_ap, pNow_ap, dOp_ap, dUn_ap, tCmp_ap, tOf_ap, tAnd_ap, tOr_ap, tNot_ap, dAnd_ap, dOr_ap, dNot_ap, dIf_ap, mOp_ap, aNil_ap, aV_ap, aIo_ap, dTup_ap, mLst_ap, qNil_ap, qC_ap, dCall_ap, mCall_ap, lNone_ap, lSome_ap, dSlT_ap, mSlL_ap, dFld_ap, gNm_ap, gsNil_ap, gsC_ap, gTp_ap, gIx_ap, sNx_ap, sSeq_ap, sEx_ap, sAsg_ap, sSetO_ap, sRet_ap, sRetO_ap, sRetNm_ap, sRetN_ap, sIf_ap, sNever_ap, sBk_ap, sCt_ap, gSet2_ap, gSet3_ap, sPar_ap, iL_ap, iT_ap, iR1_ap, iR2_ap, iEnL_ap, iEnT_ap, iZp_ap, iA_ap, iEnA_ap, mFn_ap, mFnT_ap, mMt_ap, mFnK_ap, mMk_ap, sFldSet_ap, mPr_ap, dChain_ap, dMl_ap, mRg1_ap, mRg2_ap, mV_ap, sParO_ap, mSortU_ap, putN, putP, rdAll, AV.pvs, oFld.eq_1, oFld.eq_2, lookP, callF, takeA, putA, okObj.eq_1, okObj.eq_2, isOf.eq_1, isOf.eq_2, PV.items.eq_1, PV.items.eq_2, PV.items.eq_3, PV.items.eq_4, dMt, PV.isLst.eq_1, PV.isLst.eq_2, S.set, MV.frz.eq_1, MV.frz.eq_2, MV.frz.eq_3, MV.frz.eq_4, heldM.eq_1, heldM.eq_2, valM.eq_1, valM.eq_2, finM, valsM, ofStr_beq, ofStr_eq, bIsi, bIsiT, PV.kind.eq_1, PV.kind.eq_2, PV.kind.eq_3, PV.kind.eq_4, PV.kind.eq_5, PV.kind.eq_6, PV.kind.eq_7, PV.kind.eq_8, isiB, BT.nm, PV.tys.eq_1, PV.tys.eq_2, PV.tys.eq_3, bLen.eq_1, bLen.eq_2, bLen.eq_3, bLen.eq_4, bLen.eq_5, bAbs.eq_1, bAbs.eq_2, bMax2.eq_1, bMax2.eq_2, bMin2.eq_1, bMin2.eq_2, bDivmod.eq_1, bDivmod.eq_2, divOk, bInt.eq_1, bInt.eq_2, bInt.eq_3, bList.eq_1, bList.eq_2, bTuple.eq_1, bTuple.eq_2, bTuple.eq_3, bAll.eq_1, bAll.eq_2, bAny.eq_1, bAny.eq_2, bls_bools, ints_ints, oEq, oNe, oIn, oNotIn, oInF, oNotInF, oIs, oIsNot, isNonP.eq_1, isNonP.eq_2, eqP_int, eqP_bl, eqP_tup, eqP_lst, inP_ints, inF_tup, inF_lst, oAdd, oSub, oMul, mulOk, oFdiv, oMod, oPow, powOk, oLt, oLe, oGt, oGe, uNeg, lExtend, lPop, lPopAt, lReverse, lIndex_ints, rgOk, valAt, S.wipe, wipeE, S.rest, restE, oI_c, oIc_c, lAppend_c, mkOut_c, oIxA_c, rngP_0, atI_0, atI_1, ixN_ok, bls_map, -List.map_map, all_tt, enP_ints, inF_items, turn_ap, lcT_ap, tTrue_ap, Option.bind_assoc, Option.map_bind]
  refine for_bind hs .int (fun i s => ∃ v : Option PV, s = ⟨[some (.val (Pt ca cs)), some (.val p), v.map .val], sto⟩) (s0 := ⟨[some (.val (Pt ca cs)), some (.val p), none], sto⟩) ?_ ⟨none, rfl⟩ ?_ ?_
  · simp (config := { decide := false }) [dVal_ap, dC_ap, pLate_ap, dFrz_ap, pNow_ap, dOp_ap, dUn_ap, tCmp_ap, tOf_ap, tAnd_ap, tOr_ap, tNot_ap, dAnd_ap, dOr_ap, dNot_ap, dIf_ap, mOp_ap, aNil_ap, aV_ap, aIo_ap, dTup_ap, mLst_ap, qNil_ap, qC_ap, dCall_ap, mCall_ap, lNone_ap, lSome_ap, dSlT_ap, mSlL_ap, dFld_ap, gNm_ap, gsNil_ap, gsC_ap, gTp_ap, gIx_ap, sNx_ap, sSeq_ap, sEx_ap, sAsg_ap, sSetO_ap, sRet_ap, sRetO_ap, sRetNm_ap, sRetN_ap, sIf_ap, sNever_ap, sBk_ap, sCt_ap, gSet2_ap, gSet3_ap, sPar_ap, iL_ap, iT_ap, iR1_ap, iR2_ap, iEnL_ap, iEnT_ap, iZp_ap, iA_ap, iEnA_ap, mFn_ap, mFnT_ap, mMt_ap, mFnK_ap, mMk_ap, sFldSet_ap, mPr_ap, dChain_ap, dMl_ap, mRg1_ap, mRg2_ap, mV_ap, sParO_ap, mSortU_ap, putN, putP, rdAll, AV.pvs, oFld.eq_1, oFld.eq_2, lookP, callF, takeA, putA, okObj.eq_1, okObj.eq_2, isOf.eq_1, isOf.eq_2, PV.items.eq_1, PV.items.eq_2, PV.items.eq_3, PV.items.eq_4, dMt, PV.isLst.eq_1, PV.isLst.eq_2, S.set, MV.frz.eq_1, MV.frz.eq_2, MV.frz.eq_3, MV.frz.eq_4, heldM.eq_1, heldM.eq_2, valM.eq_1, valM.eq_2, finM, valsM, ofStr_beq, ofStr_eq, bIsi, bIsiT, PV.kind.eq_1, PV.kind.eq_2, PV.kind.eq_3, PV.kind.eq_4, PV.kind.eq_5, PV.kind.eq_6, PV.kind.eq_7, PV.kind.eq_8, isiB, BT.nm, PV.tys.eq_1, PV.tys.eq_2, PV.tys.eq_3, bLen.eq_1, bLen.eq_2, bLen.eq_3, bLen.eq_4, bLen.eq_5, bAbs.eq_1, bAbs.eq_2, bMax2.eq_1, bMax2.eq_2, bMin2.eq_1, bMin2.eq_2, bDivmod.eq_1, bDivmod.eq_2, divOk, bInt.eq_1, bInt.eq_2, bInt.eq_3, bList.eq_1, bList.eq_2, bTuple.eq_1, bTuple.eq_2, bTuple.eq_3, bAll.eq_1, bAll.eq_2, bAny.eq_1, bAny.eq_2, bls_bools, ints_ints, oEq, oNe, oIn, oNotIn, oInF, oNotInF, oIs, oIsNot, isNonP.eq_1, isNonP.eq_2, eqP_int, eqP_bl, eqP_tup, eqP_lst, inP_ints, inF_tup, inF_lst, oAdd, oSub, oMul, mulOk, oFdiv, oMod, oPow, powOk, oLt, oLe, oGt, oGe, uNeg, lExtend, lPop, lPopAt, lReverse, lIndex_ints, rgOk, valAt, S.wipe, wipeE, S.rest, restE, oI_c, oIc_c, lAppend_c, mkOut_c, oIxA_c, rngP_0, atI_0, atI_1, ixN_ok, bls_map, -List.map_map, all_tt, enP_ints, inF_items, turn_ap, lcT_ap, tTrue_ap, Option.bind_assoc, Option.map_bind, h]
  · rintro i x s hi ⟨v, rfl⟩
    have := hh.2 x (List.mem_of_getElem? hi)
    refine ⟨⟨[some (.val (Pt ca cs)), some (.val p), (some (.int x) : Option PV).map .val], sto⟩, ?_, _, rfl⟩
    simp (config := { decide := false }) [dVal_ap, dC_ap, pLate_ap, dFrz_ap, pNow_ap, dOp_ap, dUn_ap, tCmp_ap, tOf_ap, tAnd_ap, tOr_ap, tNot_ap, dAnd_ap, dOr_ap, dNot_ap, dIf_ap, mOp_ap, aNil_ap, aV_ap, aIo_ap, dTup_ap, mLst_ap, qNil_ap, qC_ap, dCall_ap, mCall_ap, lNone_ap, lSome_ap, dSlT_ap, mSlL_ap, dFld_ap, gNm_ap, gsNil_ap, gsC_ap, gTp_ap, gIx_ap, sNx_ap, sSeq_ap, sEx_ap, sAsg_ap, sSetO_ap, sRet_ap, sRetO_ap, sRetNm_ap, sRetN_ap, sIf_ap, sNever_ap, sBk_ap, sCt_ap, gSet2_ap, gSet3_ap, sPar_ap, iL_ap, iT_ap, iR1_ap, iR2_ap, iEnL_ap, iEnT_ap, iZp_ap, iA_ap, iEnA_ap, mFn_ap, mFnT_ap, mMt_ap, mFnK_ap, mMk_ap, sFldSet_ap, mPr_ap, dChain_ap, dMl_ap, mRg1_ap, mRg2_ap, mV_ap, sParO_ap, mSortU_ap, putN, putP, rdAll, AV.pvs, oFld.eq_1, oFld.eq_2, lookP, callF, takeA, putA, okObj.eq_1, okObj.eq_2, isOf.eq_1, isOf.eq_2, PV.items.eq_1, PV.items.eq_2, PV.items.eq_3, PV.items.eq_4, dMt, PV.isLst.eq_1, PV.isLst.eq_2, S.set, MV.frz.eq_1, MV.frz.eq_2, MV.frz.eq_3, MV.frz.eq_4, heldM.eq_1, heldM.eq_2, valM.eq_1, valM.eq_2, finM, valsM, ofStr_beq, ofStr_eq, bIsi, bIsiT, PV.kind.eq_1, PV.kind.eq_2, PV.kind.eq_3, PV.kind.eq_4, PV.kind.eq_5, PV.kind.eq_6, PV.kind.eq_7, PV.kind.eq_8, isiB, BT.nm, PV.tys.eq_1, PV.tys.eq_2, PV.tys.eq_3, bLen.eq_1, bLen.eq_2, bLen.eq_3, bLen.eq_4, bLen.eq_5, bAbs.eq_1, bAbs.eq_2, bMax2.eq_1, bMax2.eq_2, bMin2.eq_1, bMin2.eq_2, bDivmod.eq_1, bDivmod.eq_2, divOk, bInt.eq_1, bInt.eq_2, bInt.eq_3, bList.eq_1, bList.eq_2, bTuple.eq_1, bTuple.eq_2, bTuple.eq_3, bAll.eq_1, bAll.eq_2, bAny.eq_1, bAny.eq_2, bls_bools, ints_ints, oEq, oNe, oIn, oNotIn, oInF, oNotInF, oIs, oIsNot, isNonP.eq_1, isNonP.eq_2, eqP_int, eqP_bl, eqP_tup, eqP_lst, inP_ints, inF_tup, inF_lst, oAdd, oSub, oMul, mulOk, oFdiv, oMod, oPow, powOk, oLt, oLe, oGt, oGe, uNeg, lExtend, lPop, lPopAt, lReverse, lIndex_ints, rgOk, valAt, S.wipe, wipeE, S.rest, restE, oI_c, oIc_c, lAppend_c, mkOut_c, oIxA_c, rngP_0, atI_0, atI_1, ixN_ok, bls_map, -List.map_map, all_tt, enP_ints, inF_items, turn_ap, lcT_ap, tTrue_ap, Option.bind_assoc, Option.map_bind, e_is_integer, this.1, this.2]
  · rintro s ⟨v, rfl⟩
    rfl
theorem e_gone {cs : List Int} (hl : cs.length ≤ 1000) : f_Partition_gone ca [.val (Pt ca cs)] sto = some (.mlst ((goneOf cs).map .int), [.val (Pt ca cs)], sto) := by
  unfold f_Partition_gone runF b_Partition_gone
  simp (config := { decide := false }) [dVal_ap, dC_ap, pLate_ap, dFrz_ap, pNow_ap, dOp_ap, dUn_ap, tCmp_ap, tOf_ap, tAnd_ap, tOr_ap, tNot_ap, dAnd_ap, dOr_ap, dNot_ap, dIf_ap, mOp_ap, aNil_ap, aV_ap, aIo_ap, dTup_ap, mLst_ap, qNil_ap, qC_ap, dCall_ap, mCall_ap, lNone_ap, lSome_ap, dSlT_ap, mSlL_ap, dFld_ap, gNm_ap, gsNil_ap, gsC_ap, gTp_ap, gIx_ap, sNx_ap, sSeq_ap, sEx_ap, sAsg_ap, sSetO_ap, sRet_ap, sRetO_ap, sRetNm_ap, sRetN_ap, sIf_ap, sNever_ap, sBk_ap, sCt_ap, gSet2_ap, gSet3_ap, sPar_ap, iL_ap, iT_ap, iR1_ap, iR2_ap, iEnL_ap, iEnT_ap, iZp_ap, iA_ap, iEnA_ap, mFn_ap, mFnT_ap, mMt_ap, mFnK_ap, mMk_ap, sFldSet_ap, mPr_ap, dChain_ap, dMl_ap, mRg1_ap, mRg2_ap, mV_ap, sParO_ap, mSortU_ap, putN, putP, rdAll, AV.pvs, oFld.eq_1, oFld.eq_2, lookP, callF, takeA, putA, okObj.eq_1, okObj.eq_2, isOf.eq_1, isOf.eq_2, PV.items.eq_1, PV.items.eq_2, PV.items.eq_3, PV.items.eq_4, dMt, PV.isLst.eq_1, PV.isLst.eq_2, S.set, MV.frz.eq_1, MV.frz.eq_2, MV.frz.eq_3, MV.frz.eq_4, heldM.eq_1, heldM.eq_2, valM.eq_1, valM.eq_2, finM, valsM, ofStr_beq, ofStr_eq, bIsi, bIsiT, PV.kind.eq_1, PV.kind.eq_2, PV.kind.eq_3, PV.kind.eq_4, PV.kind.eq_5, PV.kind.eq_6, PV.kind.eq_7, PV.kind.eq_8, isiB, BT.nm, PV.tys.eq_1, PV.tys.eq_2, PV.tys.eq_3, bLen.eq_1, bLen.eq_2, bLen.eq_3, bLen.eq_4, bLen.eq_5, bAbs.eq_1, bAbs.eq_2, bMax2.eq_1, bMax2.eq_2, bMin2.eq_1, bMin2.eq_2, bDivmod.eq_1, bDivmod.eq_2, divOk, bInt.eq_1, bInt.eq_2, bInt.eq_3, bList.eq_1, bList.eq_2, bTuple.eq_1, bTuple.eq_2, bTuple.eq_3, bAll.eq_1, bAll.eq_2, bAny.eq_1, bAny.eq_2, bls_bools, ints_ints, oEq, oNe, oIn, oNotIn, oInF, oNotInF, oIs, oIsNot, isNonP.eq_1, isNonP.eq_2, eqP_int, eqP_bl, eqP_tup, eqP_lst, inP_ints, inF_tup, inF_lst, oAdd, oSub, oMul, mulOk, oFdiv, oMod, oPow, powOk, oLt, oLe, oGt, oGe, uNeg, lExtend, lPop, lPopAt, lReverse, lIndex_ints, rgOk, valAt, S.wipe, wipeE, S.rest, restE, oI_c, oIc_c, lAppend_c, mkOut_c, oIxA_c, rngP_0, atI_0, atI_1, ixN_ok, bls_map, -List.map_map, all_tt, enP_ints, inF_items, turn_ap, lcT_ap, tTrue_ap, Option.bind_assoc, Option.map_bind]
  rw [lc_pick cs.zipIdx (fun b => PV.tup [.int b.2, .int b.1]) (fun b => if b.1 = -1 then some (.int b.2) else none) (s1 := ⟨[some (.val (Pt ca cs)), none, none], sto⟩)]
  · simp (config := { decide := false }) [dVal_ap, dC_ap, pLate_ap, dFrz_ap, pNow_ap, dOp_ap, dUn_ap, tCmp_ap, tOf_ap, tAnd_ap, tOr_ap, tNot_ap, dAnd_ap, dOr_ap, dNot_ap, dIf_ap, mOp_ap, aNil_ap, aV_ap, aIo_ap, dTup_ap, mLst_ap, qNil_ap, qC_ap, dCall_ap, mCall_ap, lNone_ap, lSome_ap, dSlT_ap, mSlL_ap, dFld_ap, gNm_ap, gsNil_ap, gsC_ap, gTp_ap, gIx_ap, sNx_ap, sSeq_ap, sEx_ap, sAsg_ap, sSetO_ap, sRet_ap, sRetO_ap, sRetNm_ap, sRetN_ap, sIf_ap, sNever_ap, sBk_ap, sCt_ap, gSet2_ap, gSet3_ap, sPar_ap, iL_ap, iT_ap, iR1_ap, iR2_ap, iEnL_ap, iEnT_ap, iZp_ap, iA_ap, iEnA_ap, mFn_ap, mFnT_ap, mMt_ap, mFnK_ap, mMk_ap, sFldSet_ap, mPr_ap, dChain_ap, dMl_ap, mRg1_ap, mRg2_ap, mV_ap, sParO_ap, mSortU_ap, putN, putP, rdAll, AV.pvs, oFld.eq_1, oFld.eq_2, lookP, callF, takeA, putA, okObj.eq_1, okObj.eq_2, isOf.eq_1, isOf.eq_2, PV.items.eq_1, PV.items.eq_2, PV.items.eq_3, PV.items.eq_4, dMt, PV.isLst.eq_1, PV.isLst.eq_2, S.set, MV.frz.eq_1, MV.frz.eq_2, MV.frz.eq_3, MV.frz.eq_4, heldM.eq_1, heldM.eq_2, valM.eq_1, valM.eq_2, finM, valsM, ofStr_beq, ofStr_eq, bIsi, bIsiT, PV.kind.eq_1, PV.kind.eq_2, PV.kind.eq_3, PV.kind.eq_4, PV.kind.eq_5, PV.kind.eq_6, PV.kind.eq_7, PV.kind.eq_8, isiB, BT.nm, PV.tys.eq_1, PV.tys.eq_2, PV.tys.eq_3, bLen.eq_1, bLen.eq_2, bLen.eq_3, bLen.eq_4, bLen.eq_5, bAbs.eq_1, bAbs.eq_2, bMax2.eq_1, bMax2.eq_2, bMin2.eq_1, bMin2.eq_2, bDivmod.eq_1, bDivmod.eq_2, divOk, bInt.eq_1, bInt.eq_2, bInt.eq_3, bList.eq_1, bList.eq_2, bTuple.eq_1, bTuple.eq_2, bTuple.eq_3, bAll.eq_1, bAll.eq_2, bAny.eq_1, bAny.eq_2, bls_bools, ints_ints, oEq, oNe, oIn, oNotIn, oInF, oNotInF, oIs, oIsNot, isNonP.eq_1, isNonP.eq_2, eqP_int, eqP_bl, eqP_tup, eqP_lst, inP_ints, inF_tup, inF_lst, oAdd, oSub, oMul, mulOk, oFdiv, oMod, oPow, powOk, oLt, oLe, oGt, oGe, uNeg, lExtend, lPop, lPopAt, lReverse, lIndex_ints, rgOk, valAt, S.wipe, wipeE, S.rest, restE, oI_c, oIc_c, lAppend_c, mkOut_c, oIxA_c, rngP_0, atI_0, atI_1, ixN_ok, bls_map, -List.map_map, all_tt, enP_ints, inF_items, turn_ap, lcT_ap, tTrue_ap, Option.bind_assoc, Option.map_bind, goneOf, List.map_filterMap]
  · simp (config := { decide := false }) [dVal_ap, dC_ap, pLate_ap, dFrz_ap, pNow_ap, dOp_ap, dUn_ap, tCmp_ap, tOf_ap, tAnd_ap, tOr_ap, tNot_ap, dAnd_ap, dOr_ap, dNot_ap, dIf_ap, mOp_ap, aNil_ap, aV_ap, aIo_ap, dTup_ap, mLst_ap, qNil_ap, qC_ap, dCall_ap, mCall_ap, lNone_ap, lSome_ap, dSlT_ap, mSlL_ap, dFld_ap, gNm_ap, gsNil_ap, gsC_ap, gTp_ap, gIx_ap, sNx_ap, sSeq_ap, sEx_ap, sAsg_ap, sSetO_ap, sRet_ap, sRetO_ap, sRetNm_ap, sRetN_ap, sIf_ap, sNever_ap, sBk_ap, sCt_ap, gSet2_ap, gSet3_ap, sPar_ap, iL_ap, iT_ap, iR1_ap, iR2_ap, iEnL_ap, iEnT_ap, iZp_ap, iA_ap, iEnA_ap, mFn_ap, mFnT_ap, mMt_ap, mFnK_ap, mMk_ap, sFldSet_ap, mPr_ap, dChain_ap, dMl_ap, mRg1_ap, mRg2_ap, mV_ap, sParO_ap, mSortU_ap, putN, putP, rdAll, AV.pvs, oFld.eq_1, oFld.eq_2, lookP, callF, takeA, putA, okObj.eq_1, okObj.eq_2, isOf.eq_1, isOf.eq_2, PV.items.eq_1, PV.items.eq_2, PV.items.eq_3, PV.items.eq_4, dMt, PV.isLst.eq_1, PV.isLst.eq_2, S.set, MV.frz.eq_1, MV.frz.eq_2, MV.frz.eq_3, MV.frz.eq_4, heldM.eq_1, heldM.eq_2, valM.eq_1, valM.eq_2, finM, valsM, ofStr_beq, ofStr_eq, bIsi, bIsiT, PV.kind.eq_1, PV.kind.eq_2, PV.kind.eq_3, PV.kind.eq_4, PV.kind.eq_5, PV.kind.eq_6, PV.kind.eq_7, PV.kind.eq_8, isiB, BT.nm, PV.tys.eq_1, PV.tys.eq_2, PV.tys.eq_3, bLen.eq_1, bLen.eq_2, bLen.eq_3, bLen.eq_4, bLen.eq_5, bAbs.eq_1, bAbs.eq_2, bMax2.eq_1, bMax2.eq_2, bMin2.eq_1, bMin2.eq_2, bDivmod.eq_1, bDivmod.eq_2, divOk, bInt.eq_1, bInt.eq_2, bInt.eq_3, bList.eq_1, bList.eq_2, bTuple.eq_1, bTuple.eq_2, bTuple.eq_3, bAll.eq_1, bAll.eq_2, bAny.eq_1, bAny.eq_2, bls_bools, ints_ints, oEq, oNe, oIn, oNotIn, oInF, oNotInF, oIs, oIsNot, isNonP.eq_1, isNonP.eq_2, eqP_int, eqP_bl, eqP_tup, eqP_lst, inP_ints, inF_tup, inF_lst, oAdd, oSub, oMul, mulOk, oFdiv, oMod, oPow, powOk, oLt, oLe, oGt, oGe, uNeg, lExtend, lPop, lPopAt, lReverse, lIndex_ints, rgOk, valAt, S.wipe, wipeE, S.rest, restE, oI_c, oIc_c, lAppend_c, mkOut_c, oIxA_c, rngP_0, atI_0, atI_1, ixN_ok, bls_map, -List.map_map, all_tt, enP_ints, inF_items, turn_ap, lcT_ap, tTrue_ap, Option.bind_assoc, Option.map_bind]
  · simp (config := { decide := false }) [dVal_ap, dC_ap, pLate_ap, dFrz_ap, pNow_ap, dOp_ap, dUn_ap, tCmp_ap, tOf_ap, tAnd_ap, tOr_ap, tNot_ap, dAnd_ap, dOr_ap, dNot_ap, dIf_ap, mOp_ap, aNil_ap, aV_ap, aIo_ap, dTup_ap, mLst_ap, qNil_ap, qC_ap, dCall_ap, mCall_ap, lNone_ap, lSome_ap, dSlT_ap, mSlL_ap, dFld_ap, gNm_ap, gsNil_ap, gsC_ap, gTp_ap, gIx_ap, sNx_ap, sSeq_ap, sEx_ap, sAsg_ap, sSetO_ap, sRet_ap, sRetO_ap, sRetNm_ap, sRetN_ap, sIf_ap, sNever_ap, sBk_ap, sCt_ap, gSet2_ap, gSet3_ap, sPar_ap, iL_ap, iT_ap, iR1_ap, iR2_ap, iEnL_ap, iEnT_ap, iZp_ap, iA_ap, iEnA_ap, mFn_ap, mFnT_ap, mMt_ap, mFnK_ap, mMk_ap, sFldSet_ap, mPr_ap, dChain_ap, dMl_ap, mRg1_ap, mRg2_ap, mV_ap, sParO_ap, mSortU_ap, putN, putP, rdAll, AV.pvs, oFld.eq_1, oFld.eq_2, lookP, callF, takeA, putA, okObj.eq_1, okObj.eq_2, isOf.eq_1, isOf.eq_2, PV.items.eq_1, PV.items.eq_2, PV.items.eq_3, PV.items.eq_4, dMt, PV.isLst.eq_1, PV.isLst.eq_2, S.set, MV.frz.eq_1, MV.frz.eq_2, MV.frz.eq_3, MV.frz.eq_4, heldM.eq_1, heldM.eq_2, valM.eq_1, valM.eq_2, finM, valsM, ofStr_beq, ofStr_eq, bIsi, bIsiT, PV.kind.eq_1, PV.kind.eq_2, PV.kind.eq_3, PV.kind.eq_4, PV.kind.eq_5, PV.kind.eq_6, PV.kind.eq_7, PV.kind.eq_8, isiB, BT.nm, PV.tys.eq_1, PV.tys.eq_2, PV.tys.eq_3, bLen.eq_1, bLen.eq_2, bLen.eq_3, bLen.eq_4, bLen.eq_5, bAbs.eq_1, bAbs.eq_2, bMax2.eq_1, bMax2.eq_2, bMin2.eq_1, bMin2.eq_2, bDivmod.eq_1, bDivmod.eq_2, divOk, bInt.eq_1, bInt.eq_2, bInt.eq_3, bList.eq_1, bList.eq_2, bTuple.eq_1, bTuple.eq_2, bTuple.eq_3, bAll.eq_1, bAll.eq_2, bAny.eq_1, bAny.eq_2, bls_bools, ints_ints, oEq, oNe, oIn, oNotIn, oInF, oNotInF, oIs, oIsNot, isNonP.eq_1, isNonP.eq_2, eqP_int, eqP_bl, eqP_tup, eqP_lst, inP_ints, inF_tup, inF_lst, oAdd, oSub, oMul, mulOk, oFdiv, oMod, oPow, powOk, oLt, oLe, oGt, oGe, uNeg, lExtend, lPop, lPopAt, lReverse, lIndex_ints, rgOk, valAt, S.wipe, wipeE, S.rest, restE, oI_c, oIc_c, lAppend_c, mkOut_c, oIxA_c, rngP_0, atI_0, atI_1, ixN_ok, bls_map, -List.map_map, all_tt, enP_ints, inF_items, turn_ap, lcT_ap, tTrue_ap, Option.bind_assoc, Option.map_bind]
  · simp
    omega
  · intro b hb
    by_cases h : b.1 = -1 <;> simp (config := { decide := false }) [dVal_ap, dC_ap, pLate_ap, dFrz_ap, pNow_ap, dOp_ap, dUn_ap, tCmp_ap, tOf_ap, tAnd_ap, tOr_ap, tNot_ap, dAnd_ap, dOr_ap, dNot_ap, dIf_ap, mOp_ap, aNil_ap, aV_ap, aIo_ap, dTup_ap, mLst_ap, qNil_ap, qC_ap, dCall_ap, mCall_ap, lNone_ap, lSome_ap, dSlT_ap, mSlL_ap, dFld_ap, gNm_ap, gsNil_ap, gsC_ap, gTp_ap, gIx_ap, sNx_ap, sSeq_ap, sEx_ap, sAsg_ap, sSetO_ap, sRet_ap, sRetO_ap, sRetNm_ap, sRetN_ap, sIf_ap, sNever_ap, sBk_ap, sCt_ap, gSet2_ap, gSet3_ap, sPar_ap, iL_ap, iT_ap, iR1_ap, iR2_ap, iEnL_ap, iEnT_ap, iZp_ap, iA_ap, iEnA_ap, mFn_ap, mFnT_ap, mMt_ap, mFnK_ap, mMk_ap, sFldSet_ap, mPr_ap, dChain_ap, dMl_ap, mRg1_ap, mRg2_ap, mV_ap, sParO_ap, mSortU_ap, putN, putP, rdAll, AV.pvs, oFld.eq_1, oFld.eq_2, lookP, callF, takeA, putA, okObj.eq_1, okObj.eq_2, isOf.eq_1, isOf.eq_2, PV.items.eq_1, PV.items.eq_2, PV.items.eq_3, PV.items.eq_4, dMt, PV.isLst.eq_1, PV.isLst.eq_2, S.set, MV.frz.eq_1, MV.frz.eq_2, MV.frz.eq_3, MV.frz.eq_4, heldM.eq_1, heldM.eq_2, valM.eq_1, valM.eq_2, finM, valsM, ofStr_beq, ofStr_eq, bIsi, bIsiT, PV.kind.eq_1, PV.kind.eq_2, PV.kind.eq_3, PV.kind.eq_4, PV.kind.eq_5, PV.kind.eq_6, PV.kind.eq_7, PV.kind.eq_8, isiB, BT.nm, PV.tys.eq_1, PV.tys.eq_2, PV.tys.eq_3, bLen.eq_1, bLen.eq_2, bLen.eq_3, bLen.eq_4, bLen.eq_5, bAbs.eq_1, bAbs.eq_2, bMax2.eq_1, bMax2.eq_2, bMin2.eq_1, bMin2.eq_2, bDivmod.eq_1, bDivmod.eq_2, divOk, bInt.eq_1, bInt.eq_2, bInt.eq_3, bList.eq_1, bList.eq_2, bTuple.eq_1, bTuple.eq_2, bTuple.eq_3, bAll.eq_1, bAll.eq_2, bAny.eq_1, bAny.eq_2, bls_bools, ints_ints, oEq, oNe, oIn, oNotIn, oInF, oNotInF, oIs, oIsNot, isNonP.eq_1, isNonP.eq_2, eqP_int, eqP_bl, eqP_tup, eqP_lst, inP_ints, inF_tup, inF_lst, oAdd, oSub, oMul, mulOk, oFdiv, oMod, oPow, powOk, oLt, oLe, oGt, oGe, uNeg, lExtend, lPop, lPopAt, lReverse, lIndex_ints, rgOk, valAt, S.wipe, wipeE, S.rest, restE, oI_c, oIc_c, lAppend_c, mkOut_c, oIxA_c, rngP_0, atI_0, atI_1, ixN_ok, bls_map, -List.map_map, all_tt, enP_ints, inF_items, turn_ap, lcT_ap, tTrue_ap, Option.bind_assoc, Option.map_bind, h]
theorem e_with_mark {cs hs : List Int} {p : PV} {m : Int} (h : p.items = some (hs.map .int)) (hg : Good cs) :
    f_Partition_with_mark ca [.val (Pt ca cs), .val p, .val (.int m)] sto = some (.mobj (ca 0) ["own_classes"] [.tup ((marked cs hs m).map .int)], [.val (Pt ca cs), .val p, .val (.int m)], sto) := by
  have hl := hg.2.1
  unfold f_Partition_with_mark runF b_Partition_with_mark
  simp (config := { decide := false }) [dVal_ap, dC_ap, pLate_ap, dFrz_ap, pNow_ap, dOp_ap, dUn_ap, tCmp_ap, tOf_ap, tAnd_ap, tOr_ap, tNot_ap, dAnd_ap, dOr_ap, dNot_ap, dIf_ap, mOp_ap, aNil_ap, aV_ap, aIo_ap, dTup_ap, mLst_ap, qNil_ap, qC_ap, dCall_ap, mCall_ap, lNone_ap, lSome_ap, dSlT_ap, mSlL_ap, dFld_ap, gNm_ap, gsNil_ap, gsC_ap, gTp_ap, gIx_ap, sNx_ap, sSeq_ap, sEx_ap, sAsg_ap, sSetO_ap, sRet_ap, sRetO_ap, sRetNm_ap, sRetN_ap, sIf_ap, sNever_ap, sBk_ap, sCt_ap, gSet2_ap, gSet3_ap, sPar_ap, iL_ap, iT_ap, iR1_ap, iR2_ap, iEnL_ap, iEnT_ap, iZp_ap, iA_ap, iEnA_ap, mFn_ap, mFnT_ap, mMt_ap, mFnK_ap, mMk_ap, sFldSet_ap, mPr_ap, dChain_ap, dMl_ap, mRg1_ap, mRg2_ap, mV_ap, sParO_ap, mSortU_ap, putN, putP, rdAll, AV.pvs, oFld.eq_1, oFld.eq_2, lookP, callF, takeA, putA, okObj.eq_1, okObj.eq_2, isOf.eq_1, isOf.eq_2, PV.items.eq_1, PV.items.eq_2, PV.items.eq_3, PV.items.eq_4, dMt, PV.isLst.eq_1, PV.isLst.eq_2, S.set, MV.frz.eq_1, MV.frz.eq_2, MV.frz.eq_3, MV.frz.eq_4, heldM.eq_1, heldM.eq_2, valM.eq_1, valM.eq_2, finM, valsM, ofStr_beq, ofStr_eq, bIsi, bIsiT, PV.kind.eq_1, PV.kind.eq_2, PV.kind.eq_3, PV.kind.eq_4, PV.kind.eq_5, PV.kind.eq_6, PV.kind.eq_7, PV.kind.eq_8, isiB, BT.nm, PV.tys.eq_1, PV.tys.eq_2, PV.tys.eq_3, bLen.eq_1, bLen.eq_2, bLen.eq_3, bLen.eq_4, bLen.eq_5, bAbs.eq_1, bAbs.eq_2, bMax2.eq_1, bMax2.eq_2, bMin2.eq_1, bMin2.eq_2, bDivmod.eq_1, bDivmod.eq_2, divOk, bInt.eq_1, bInt.eq_2, bInt.eq_3, bList.eq_1, bList.eq_2, bTuple.eq_1, bTuple.eq_2, bTuple.eq_3, bAll.eq_1, bAll.eq_2, bAny.eq_1, bAny.eq_2, bls_bools, ints_ints, oEq, oNe, oIn, oNotIn, oInF, oNotInF, oIs, oIsNot, isNonP.eq_1, isNonP.eq_2, eqP_int, eqP_bl, eqP_tup, eqP_lst, inP_ints, inF_tup, inF_lst, oAdd, oSub, oMul, mulOk, oFdiv, oMod, oPow, powOk, oLt, oLe, oGt, oGe, uNeg, lExtend, lPop, lPopAt, lReverse, lIndex_ints, rgOk, valAt, S.wipe, wipeE, S.rest, restE, oI_c, oIc_c, lAppend_c, mkOut_c, oIxA_c, rngP_0, atI_0, atI_1, ixN_ok, bls_map, -List.map_map, all_tt, enP_ints, inF_items, turn_ap, lcT_ap, tTrue_ap, Option.bind_assoc, Option.map_bind]
  rw [lc_map cs.zipIdx (fun b => PV.tup [.int b.2, .int b.1]) (fun b => .int (if (b.2 : Int) ∈ hs then m else b.1)) (s1 := ⟨[some (.val (Pt ca cs)), some (.val p), some (.val (.int m)), none, none, none], sto⟩)]
  · have hw : (cs.zipIdx.map fun b => PV.int (if (b.2 : Int) ∈ hs then m else b.1)) = (withMark cs hs m).map .int := by
      simp [withMark]
    have hwl : (withMark cs hs m).length = cs.length := by simp [withMark]
    rw [hw]
    have e : f_normal ca [.val (.lst ((withMark cs hs m).map .int))] sto = some (.val (.tup ((marked cs hs m).map .int)), [.val (.lst ((withMark cs hs m).map .int))], sto) := e_normal rfl (by omega)
    have e2 := e_init (ca := ca) (sto := sto) (p := .tup ((marked cs hs m).map .int)) (Or.inr rfl) (marked_good hg)
    simp (config := { decide := false }) [dVal_ap, dC_ap, pLate_ap, dFrz_ap, pNow_ap, dOp_ap, dUn_ap, tCmp_ap, tOf_ap, tAnd_ap, tOr_ap, tNot_ap, dAnd_ap, dOr_ap, dNot_ap, dIf_ap, mOp_ap, aNil_ap, aV_ap, aIo_ap, dTup_ap, mLst_ap, qNil_ap, qC_ap, dCall_ap, mCall_ap, lNone_ap, lSome_ap, dSlT_ap, mSlL_ap, dFld_ap, gNm_ap, gsNil_ap, gsC_ap, gTp_ap, gIx_ap, sNx_ap, sSeq_ap, sEx_ap, sAsg_ap, sSetO_ap, sRet_ap, sRetO_ap, sRetNm_ap, sRetN_ap, sIf_ap, sNever_ap, sBk_ap, sCt_ap, gSet2_ap, gSet3_ap, sPar_ap, iL_ap, iT_ap, iR1_ap, iR2_ap, iEnL_ap, iEnT_ap, iZp_ap, iA_ap, iEnA_ap, mFn_ap, mFnT_ap, mMt_ap, mFnK_ap, mMk_ap, sFldSet_ap, mPr_ap, dChain_ap, dMl_ap, mRg1_ap, mRg2_ap, mV_ap, sParO_ap, mSortU_ap, putN, putP, rdAll, AV.pvs, oFld.eq_1, oFld.eq_2, lookP, callF, takeA, putA, okObj.eq_1, okObj.eq_2, isOf.eq_1, isOf.eq_2, PV.items.eq_1, PV.items.eq_2, PV.items.eq_3, PV.items.eq_4, dMt, PV.isLst.eq_1, PV.isLst.eq_2, S.set, MV.frz.eq_1, MV.frz.eq_2, MV.frz.eq_3, MV.frz.eq_4, heldM.eq_1, heldM.eq_2, valM.eq_1, valM.eq_2, finM, valsM, ofStr_beq, ofStr_eq, bIsi, bIsiT, PV.kind.eq_1, PV.kind.eq_2, PV.kind.eq_3, PV.kind.eq_4, PV.kind.eq_5, PV.kind.eq_6, PV.kind.eq_7, PV.kind.eq_8, isiB, BT.nm, PV.tys.eq_1, PV.tys.eq_2, PV.tys.eq_3, bLen.eq_1, bLen.eq_2, bLen.eq_3, bLen.eq_4, bLen.eq_5, bAbs.eq_1, bAbs.eq_2, bMax2.eq_1, bMax2.eq_2, bMin2.eq_1, bMin2.eq_2, bDivmod.eq_1, bDivmod.eq_2, divOk, bInt.eq_1, bInt.eq_2, bInt.eq_3, bList.eq_1, bList.eq_2, bTuple.eq_1, bTuple.eq_2, bTuple.eq_3, bAll.eq_1, bAll.eq_2, bAny.eq_1, bAny.eq_2, bls_bools, ints_ints, oEq, oNe, oIn, oNotIn, oInF, oNotInF, oIs, oIsNot, isNonP.eq_1, isNonP.eq_2, eqP_int, eqP_bl, eqP_tup, eqP_lst, inP_ints, inF_tup, inF_lst, oAdd, oSub, oMul, mulOk, oFdiv, oMod, oPow, powOk, oLt, oLe, oGt, oGe, uNeg, lExtend, lPop, lPopAt, lReverse, lIndex_ints, rgOk, valAt, S.wipe, wipeE, S.rest, restE, oI_c, oIc_c, lAppend_c, mkOut_c, oIxA_c, rngP_0, atI_0, atI_1, ixN_ok, bls_map, -List.map_map, all_tt, enP_ints, inF_items, turn_ap, lcT_ap, tTrue_ap, Option.bind_assoc, Option.map_bind, e, e2]
  · simp (config := { decide := false }) [dVal_ap, dC_ap, pLate_ap, dFrz_ap, pNow_ap, dOp_ap, dUn_ap, tCmp_ap, tOf_ap, tAnd_ap, tOr_ap, tNot_ap, dAnd_ap, dOr_ap, dNot_ap, dIf_ap, mOp_ap, aNil_ap, aV_ap, aIo_ap, dTup_ap, mLst_ap, qNil_ap, qC_ap, dCall_ap, mCall_ap, lNone_ap, lSome_ap, dSlT_ap, mSlL_ap, dFld_ap, gNm_ap, gsNil_ap, gsC_ap, gTp_ap, gIx_ap, sNx_ap, sSeq_ap, sEx_ap, sAsg_ap, sSetO_ap, sRet_ap, sRetO_ap, sRetNm_ap, sRetN_ap, sIf_ap, sNever_ap, sBk_ap, sCt_ap, gSet2_ap, gSet3_ap, sPar_ap, iL_ap, iT_ap, iR1_ap, iR2_ap, iEnL_ap, iEnT_ap, iZp_ap, iA_ap, iEnA_ap, mFn_ap, mFnT_ap, mMt_ap, mFnK_ap, mMk_ap, sFldSet_ap, mPr_ap, dChain_ap, dMl_ap, mRg1_ap, mRg2_ap, mV_ap, sParO_ap, mSortU_ap, putN, putP, rdAll, AV.pvs, oFld.eq_1, oFld.eq_2, lookP, callF, takeA, putA, okObj.eq_1, okObj.eq_2, isOf.eq_1, isOf.eq_2, PV.items.eq_1, PV.items.eq_2, PV.items.eq_3, PV.items.eq_4, dMt, PV.isLst.eq_1, PV.isLst.eq_2, S.set, MV.frz.eq_1, MV.frz.eq_2, MV.frz.eq_3, MV.frz.eq_4, heldM.eq_1, heldM.eq_2, valM.eq_1, valM.eq_2, finM, valsM, ofStr_beq, ofStr_eq, bIsi, bIsiT, PV.kind.eq_1, PV.kind.eq_2, PV.kind.eq_3, PV.kind.eq_4, PV.kind.eq_5, PV.kind.eq_6, PV.kind.eq_7, PV.kind.eq_8, isiB, BT.nm, PV.tys.eq_1, PV.tys.eq_2, PV.tys.eq_3, bLen.eq_1, bLen.eq_2, bLen.eq_3, bLen.eq_4, bLen.eq_5, bAbs.eq_1, bAbs.eq_2, bMax2.eq_1, bMax2.eq_2, bMin2.eq_1, bMin2.eq_2, bDivmod.eq_1, bDivmod.eq_2, divOk, bInt.eq_1, bInt.eq_2, bInt.eq_3, bList.eq_1, bList.eq_2, bTuple.eq_1, bTuple.eq_2, bTuple.eq_3, bAll.eq_1, bAll.eq_2, bAny.eq_1, bAny.eq_2, bls_bools, ints_ints, oEq, oNe, oIn, oNotIn, oInF, oNotInF, oIs, oIsNot, isNonP.eq_1, isNonP.eq_2, eqP_int, eqP_bl, eqP_tup, eqP_lst, inP_ints, inF_tup, inF_lst, oAdd, oSub, oMul, mulOk, oFdiv, oMod, oPow, powOk, oLt, oLe, oGt, oGe, uNeg, lExtend, lPop, lPopAt, lReverse, lIndex_ints, rgOk, valAt, S.wipe, wipeE, S.rest, restE, oI_c, oIc_c, lAppend_c, mkOut_c, oIxA_c, rngP_0, atI_0, atI_1, ixN_ok, bls_map, -List.map_map, all_tt, enP_ints, inF_items, turn_ap, lcT_ap, tTrue_ap, Option.bind_assoc, Option.map_bind]
  · simp (config := { decide := false }) [dVal_ap, dC_ap, pLate_ap, dFrz_ap, pNow_ap, dOp_ap, dUn_ap, tCmp_ap, tOf_ap, tAnd_ap, tOr_ap, tNot_ap, dAnd_ap, dOr_ap, dNot_ap, dIf_ap, mOp_ap, aNil_ap, aV_ap, aIo_ap, dTup_ap, mLst_ap, qNil_ap, qC_ap, dCall_ap, mCall_ap, lNone_ap, lSome_ap, dSlT_ap, mSlL_ap, dFld_ap, gNm_ap, gsNil_ap, gsC_ap, gTp_ap, gIx_ap, sNx_ap, sSeq_ap, sEx_ap, sAsg_ap, sSetO_ap, sRet_ap, sRetO_ap, sRetNm_ap, sRetN_ap, sIf_ap, sNever_ap, sBk_ap, sCt_ap, gSet2_ap, gSet3_ap, sPar_ap, iL_ap, iT_ap, iR1_ap, iR2_ap, iEnL_ap, iEnT_ap, iZp_ap, iA_ap, iEnA_ap, mFn_ap, mFnT_ap, mMt_ap, mFnK_ap, mMk_ap, sFldSet_ap, mPr_ap, dChain_ap, dMl_ap, mRg1_ap, mRg2_ap, mV_ap, sParO_ap, mSortU_ap, putN, putP, rdAll, AV.pvs, oFld.eq_1, oFld.eq_2, lookP, callF, takeA, putA, okObj.eq_1, okObj.eq_2, isOf.eq_1, isOf.eq_2, PV.items.eq_1, PV.items.eq_2, PV.items.eq_3, PV.items.eq_4, dMt, PV.isLst.eq_1, PV.isLst.eq_2, S.set, MV.frz.eq_1, MV.frz.eq_2, MV.frz.eq_3, MV.frz.eq_4, heldM.eq_1, heldM.eq_2, valM.eq_1, valM.eq_2, finM, valsM, ofStr_beq, ofStr_eq, bIsi, bIsiT, PV.kind.eq_1, PV.kind.eq_2, PV.kind.eq_3, PV.kind.eq_4, PV.kind.eq_5, PV.kind.eq_6, PV.kind.eq_7, PV.kind.eq_8, isiB, BT.nm, PV.tys.eq_1, PV.tys.eq_2, PV.tys.eq_3, bLen.eq_1, bLen.eq_2, bLen.eq_3, bLen.eq_4, bLen.eq_5, bAbs.eq_1, bAbs.eq_2, bMax2.eq_1, bMax2.eq_2, bMin2.eq_1, bMin2.eq_2, bDivmod.eq_1, bDivmod.eq_2, divOk, bInt.eq_1, bInt.eq_2, bInt.eq_3, bList.eq_1, bList.eq_2, bTuple.eq_1, bTuple.eq_2, bTuple.eq_3, bAll.eq_1, bAll.eq_2, bAny.eq_1, bAny.eq_2, bls_bools, ints_ints, oEq, oNe, oIn, oNotIn, oInF, oNotInF, oIs, oIsNot, isNonP.eq_1, isNonP.eq_2, eqP_int, eqP_bl, eqP_tup, eqP_lst, inP_ints, inF_tup, inF_lst, oAdd, oSub, oMul, mulOk, oFdiv, oMod, oPow, powOk, oLt, oLe, oGt, oGe, uNeg, lExtend, lPop, lPopAt, lReverse, lIndex_ints, rgOk, valAt, S.wipe, wipeE, S.rest, restE, oI_c, oIc_c, lAppend_c, mkOut_c, oIxA_c, rngP_0, atI_0, atI_1, ixN_ok, bls_map, -List.map_map, all_tt, enP_ints, inF_items, turn_ap, lcT_ap, tTrue_ap, Option.bind_assoc, Option.map_bind]
  · simp
    omega
  · intro b hb
    have hb := inF_items (c := (b.2 : Int)) h
    by_cases h2 : (b.2 : Int) ∈ hs <;> simp (config := { decide := false }) [dVal_ap, dC_ap, pLate_ap, dFrz_ap, pNow_ap, dOp_ap, dUn_ap, tCmp_ap, tOf_ap, tAnd_ap, tOr_ap, tNot_ap, dAnd_ap, dOr_ap, dNot_ap, dIf_ap, mOp_ap, aNil_ap, aV_ap, aIo_ap, dTup_ap, mLst_ap, qNil_ap, qC_ap, dCall_ap, mCall_ap, lNone_ap, lSome_ap, dSlT_ap, mSlL_ap, dFld_ap, gNm_ap, gsNil_ap, gsC_ap, gTp_ap, gIx_ap, sNx_ap, sSeq_ap, sEx_ap, sAsg_ap, sSetO_ap, sRet_ap, sRetO_ap, sRetNm_ap, sRetN_ap, sIf_ap, sNever_ap, sBk_ap, sCt_ap, gSet2_ap, gSet3_ap, sPar_ap, iL_ap, iT_ap, iR1_ap, iR2_ap, iEnL_ap, iEnT_ap, iZp_ap, iA_ap, iEnA_ap, mFn_ap, mFnT_ap, mMt_ap, mFnK_ap, mMk_ap, sFldSet_ap, mPr_ap, dChain_ap, dMl_ap, mRg1_ap, mRg2_ap, mV_ap, sParO_ap, mSortU_ap, putN, putP, rdAll, AV.pvs, oFld.eq_1, oFld.eq_2, lookP, callF, takeA, putA, okObj.eq_1, okObj.eq_2, isOf.eq_1, isOf.eq_2, PV.items.eq_1, PV.items.eq_2, PV.items.eq_3, PV.items.eq_4, dMt, PV.isLst.eq_1, PV.isLst.eq_2, S.set, MV.frz.eq_1, MV.frz.eq_2, MV.frz.eq_3, MV.frz.eq_4, heldM.eq_1, heldM.eq_2, valM.eq_1, valM.eq_2, finM, valsM, ofStr_beq, ofStr_eq, bIsi, bIsiT, PV.kind.eq_1, PV.kind.eq_2, PV.kind.eq_3, PV.kind.eq_4, PV.kind.eq_5, PV.kind.eq_6, PV.kind.eq_7, PV.kind.eq_8, isiB, BT.nm, PV.tys.eq_1, PV.tys.eq_2, PV.tys.eq_3, bLen.eq_1, bLen.eq_2, bLen.eq_3, bLen.eq_4, bLen.eq_5, bAbs.eq_1, bAbs.eq_2, bMax2.eq_1, bMax2.eq_2, bMin2.eq_1, bMin2.eq_2, bDivmod.eq_1, bDivmod.eq_2, divOk, bInt.eq_1, bInt.eq_2, bInt.eq_3, bList.eq_1, bList.eq_2, bTuple.eq_1, bTuple.eq_2, bTuple.eq_3, bAll.eq_1, bAll.eq_2, bAny.eq_1, bAny.eq_2, bls_bools, ints_ints, oEq, oNe, oIn, oNotIn, oInF, oNotInF, oIs, oIsNot, isNonP.eq_1, isNonP.eq_2, eqP_int, eqP_bl, eqP_tup, eqP_lst, inP_ints, inF_tup, inF_lst, oAdd, oSub, oMul, mulOk, oFdiv, oMod, oPow, powOk, oLt, oLe, oGt, oGe, uNeg, lExtend, lPop, lPopAt, lReverse, lIndex_ints, rgOk, valAt, S.wipe, wipeE, S.rest, restE, oI_c, oIc_c, lAppend_c, mkOut_c, oIxA_c, rngP_0, atI_0, atI_1, ixN_ok, bls_map, -List.map_map, all_tt, enP_ints, inF_items, turn_ap, lcT_ap, tTrue_ap, Option.bind_assoc, Option.map_bind, hb, h2]
end
end K17
namespace K17
open PySem L2 GG DD Num
section
variable {ca : Nat → Addr} {sto : List MV}
theorem atI_gv {cs : List Int} {h : Int} (h0 : 0 ≤ h) (h1 : h < cs.length) : atI (cs.map PV.int) h = some (.int (gv cs h)) := by
  rw [atI_map, atI_nn h0, gv_get h0 h1]
  rfl
theorem e_copied {cs : List Int} {h g : Int} (hg : Good cs) (hh : Holds cs [h, g]) :
    f_Partition_copied ca [.val (Pt ca cs), .val (.int h), .val (.int g)] sto = some (.mobj (ca 0) ["own_classes"] [.tup ((marked cs [h] (gv cs g)).map .int)], [.val (Pt ca cs), .val (.int h), .val (.int g)], sto) := by
  unfold f_Partition_copied runF b_Partition_copied
  have e1 := e_want (ca := ca) (sto := sto) (p := .lst [.int h, .int g]) (hs := [h, g]) rfl hh
  have e2 := e_with_mark (ca := ca) (sto := sto) (p := .lst [.int h]) (hs := [h]) (m := gv cs g) rfl hg
  have h3 := hh.2 g (by simp)
  simp (config := { decide := false }) [dVal_ap, dC_ap, pLate_ap, dFrz_ap, pNow_ap, dOp_ap, dUn_ap, tCmp_ap, tOf_ap, tAnd_ap, tOr_ap, tNot_ap, dAnd_ap, dOr_ap, dNot_ap, dIf_ap, mOp_ap, aNil_ap, aV_ap, aIo_ap, dTup_ap, mLst_ap, qNil_ap, qC_ap, dCall_ap, mCall_ap, lNone_ap, lSome_ap, dSlT_ap, mSlL_ap, dFld_ap, gNm_ap, gsNil_ap, gsC_ap, gTp_ap, gIx_ap, sNx_ap, sSeq_ap, sEx_ap, sAsg_ap, sSetO_ap, sRet_ap, sRetO_ap, sRetNm_ap, sRetN_ap, sIf_ap, sNever_ap, sBk_ap, sCt_ap, gSet2_ap, gSet3_ap, sPar_ap, iL_ap, iT_ap, iR1_ap, iR2_ap, iEnL_ap, iEnT_ap, iZp_ap, iA_ap, iEnA_ap, mFn_ap, mFnT_ap, mMt_ap, mFnK_ap, mMk_ap, sFldSet_ap, mPr_ap, dChain_ap, dMl_ap, mRg1_ap, mRg2_ap, mV_ap, sParO_ap, mSortU_ap, putN, putP, rdAll, AV.pvs, oFld.eq_1, oFld.eq_2, lookP, callF, takeA, putA, okObj.eq_1, okObj.eq_2, isOf.eq_1, isOf.eq_2, PV.items.eq_1, PV.items.eq_2, PV.items.eq_3, PV.items.eq_4, dMt, PV.isLst.eq_1, PV.isLst.eq_2, S.set, MV.frz.eq_1, MV.frz.eq_2, MV.frz.eq_3, MV.frz.eq_4, heldM.eq_1, heldM.eq_2, valM.eq_1, valM.eq_2, finM, valsM, ofStr_beq, ofStr_eq, bIsi, bIsiT, PV.kind.eq_1, PV.kind.eq_2, PV.kind.eq_3, PV.kind.eq_4, PV.kind.eq_5, PV.kind.eq_6, PV.kind.eq_7, PV.kind.eq_8, isiB, BT.nm, PV.tys.eq_1, PV.tys.eq_2, PV.tys.eq_3, bLen.eq_1, bLen.eq_2, bLen.eq_3, bLen.eq_4, bLen.eq_5, bAbs.eq_1, bAbs.eq_2, bMax2.eq_1, bMax2.eq_2, bMin2.eq_1, bMin2.eq_2, bDivmod.eq_1, bDivmod.eq_2, divOk, bInt.eq_1, bInt.eq_2, bInt.eq_3, bList.eq_1, bList.eq_2, bTuple.eq_1, bTuple.eq_2, bTuple.eq_3, bAll.eq_1, bAll.eq_2, bAny.eq_1, bAny.eq_2, bls_bools, ints_ints, oEq, oNe, oIn, oNotIn, oInF, oNotInF, oIs, oIsNot, isNonP.eq_1, isNonP.eq_2, eqP_int, eqP_bl, eqP_tup, eqP_lst, inP_ints, inF_tup, inF_lst, oAdd, oSub, oMul, mulOk, oFdiv, oMod, oPow, powOk, oLt, oLe, oGt, oGe, uNeg, lExtend, lPop, lPopAt, lReverse, lIndex_ints, rgOk, valAt, S.wipe, wipeE, S.rest, restE, oI_c, oIc_c, lAppend_c, mkOut_c, oIxA_c, rngP_0, atI_0, atI_1, ixN_ok, bls_map, -List.map_map, all_tt, enP_ints, inF_items, turn_ap, lcT_ap, tTrue_ap, Option.bind_assoc, Option.map_bind, e1, e2, atI_gv h3.1 h3.2]
theorem e_fresh {cs hs : List Int} (hg : Good cs) (hh : Holds cs hs) :
    f_Partition_fresh ca (.val (Pt ca cs) :: hs.map fun i => .val (.int i)) sto = some (.mobj (ca 0) ["own_classes"] [.tup ((marked cs hs cs.length).map .int)], .val (Pt ca cs) :: hs.map fun i => .val (.int i), sto) := by
  refine star_ints ?_ hh.1
  unfold runF b_Partition_fresh
  have e1 := e_want (ca := ca) (sto := sto) (p := .tup (hs.map .int)) (hs := hs) rfl hh
  have e2 := e_with_mark (ca := ca) (sto := sto) (p := .tup (hs.map .int)) (hs := hs) (m := cs.length) rfl hg
  simp (config := { decide := false }) [dVal_ap, dC_ap, pLate_ap, dFrz_ap, pNow_ap, dOp_ap, dUn_ap, tCmp_ap, tOf_ap, tAnd_ap, tOr_ap, tNot_ap, dAnd_ap, dOr_ap, dNot_ap, dIf_ap, mOp_ap, aNil_ap, aV_ap, aIo_ap, dTup_ap, mLst_ap, qNil_ap, qC_ap, dCall_ap, mCall_ap, lNone_ap, lSome_ap, dSlT_ap, mSlL_ap, dFld_ap, gNm_ap, gsNil_ap, gsC_ap, gTp_ap, gIx_ap, sNx_ap, sSeq_ap, sEx_ap, sAsg_ap, sSetO_ap, sRet_ap, sRetO_ap, sRetNm_ap, sRetN_ap, sIf_ap, sNever_ap, sBk_ap, sCt_ap, gSet2_ap, gSet3_ap, sPar_ap, iL_ap, iT_ap, iR1_ap, iR2_ap, iEnL_ap, iEnT_ap, iZp_ap, iA_ap, iEnA_ap, mFn_ap, mFnT_ap, mMt_ap, mFnK_ap, mMk_ap, sFldSet_ap, mPr_ap, dChain_ap, dMl_ap, mRg1_ap, mRg2_ap, mV_ap, sParO_ap, mSortU_ap, putN, putP, rdAll, AV.pvs, oFld.eq_1, oFld.eq_2, lookP, callF, takeA, putA, okObj.eq_1, okObj.eq_2, isOf.eq_1, isOf.eq_2, PV.items.eq_1, PV.items.eq_2, PV.items.eq_3, PV.items.eq_4, dMt, PV.isLst.eq_1, PV.isLst.eq_2, S.set, MV.frz.eq_1, MV.frz.eq_2, MV.frz.eq_3, MV.frz.eq_4, heldM.eq_1, heldM.eq_2, valM.eq_1, valM.eq_2, finM, valsM, ofStr_beq, ofStr_eq, bIsi, bIsiT, PV.kind.eq_1, PV.kind.eq_2, PV.kind.eq_3, PV.kind.eq_4, PV.kind.eq_5, PV.kind.eq_6, PV.kind.eq_7, PV.kind.eq_8, isiB, BT.nm, PV.tys.eq_1, PV.tys.eq_2, PV.tys.eq_3, bLen.eq_1, bLen.eq_2, bLen.eq_3, bLen.eq_4, bLen.eq_5, bAbs.eq_1, bAbs.eq_2, bMax2.eq_1, bMax2.eq_2, bMin2.eq_1, bMin2.eq_2, bDivmod.eq_1, bDivmod.eq_2, divOk, bInt.eq_1, bInt.eq_2, bInt.eq_3, bList.eq_1, bList.eq_2, bTuple.eq_1, bTuple.eq_2, bTuple.eq_3, bAll.eq_1, bAll.eq_2, bAny.eq_1, bAny.eq_2, bls_bools, ints_ints, oEq, oNe, oIn, oNotIn, oInF, oNotInF, oIs, oIsNot, isNonP.eq_1, isNonP.eq_2, eqP_int, eqP_bl, eqP_tup, eqP_lst, inP_ints, inF_tup, inF_lst, oAdd, oSub, oMul, mulOk, oFdiv, oMod, oPow, powOk, oLt, oLe, oGt, oGe, uNeg, lExtend, lPop, lPopAt, lReverse, lIndex_ints, rgOk, valAt, S.wipe, wipeE, S.rest, restE, oI_c, oIc_c, lAppend_c, mkOut_c, oIxA_c, rngP_0, atI_0, atI_1, ixN_ok, bls_map, -List.map_map, all_tt, enP_ints, inF_items, turn_ap, lcT_ap, tTrue_ap, Option.bind_assoc, Option.map_bind, e1, e2]
theorem e_without {cs hs : List Int} (hg : Good cs) (hh : Holds cs hs) :
    f_Partition_without ca (.val (Pt ca cs) :: hs.map fun i => .val (.int i)) sto = some (.mobj (ca 0) ["own_classes"] [.tup ((marked cs hs (-1)).map .int)], .val (Pt ca cs) :: hs.map fun i => .val (.int i), sto) := by
  refine star_ints ?_ hh.1
  unfold runF b_Partition_without
  have e1 := e_want (ca := ca) (sto := sto) (p := .tup (hs.map .int)) (hs := hs) rfl hh
  have e2 := e_with_mark (ca := ca) (sto := sto) (p := .tup (hs.map .int)) (hs := hs) (m := -1) rfl hg
  simp (config := { decide := false }) [dVal_ap, dC_ap, pLate_ap, dFrz_ap, pNow_ap, dOp_ap, dUn_ap, tCmp_ap, tOf_ap, tAnd_ap, tOr_ap, tNot_ap, dAnd_ap, dOr_ap, dNot_ap, dIf_ap, mOp_ap, aNil_ap, aV_ap, aIo_ap, dTup_ap, mLst_ap, qNil_ap, qC_ap, dCall_ap, mCall_ap, lNone_ap, lSome_ap, dSlT_ap, mSlL_ap, dFld_ap, gNm_ap, gsNil_ap, gsC_ap, gTp_ap, gIx_ap, sNx_ap, sSeq_ap, sEx_ap, sAsg_ap, sSetO_ap, sRet_ap, sRetO_ap, sRetNm_ap, sRetN_ap, sIf_ap, sNever_ap, sBk_ap, sCt_ap, gSet2_ap, gSet3_ap, sPar_ap, iL_ap, iT_ap, iR1_ap, iR2_ap, iEnL_ap, iEnT_ap, iZp_ap, iA_ap, iEnA_ap, mFn_ap, mFnT_ap, mMt_ap, mFnK_ap, mMk_ap, sFldSet_ap, mPr_ap, dChain_ap, dMl_ap, mRg1_ap, mRg2_ap, mV_ap, sParO_ap, mSortU_ap, putN, putP, rdAll, AV.pvs, oFld.eq_1, oFld.eq_2, lookP, callF, takeA, putA, okObj.eq_1, okObj.eq_2, isOf.eq_1, isOf.eq_2, PV.items.eq_1, PV.items.eq_2, PV.items.eq_3, PV.items.eq_4, dMt, PV.isLst.eq_1, PV.isLst.eq_2, S.set, MV.frz.eq_1, MV.frz.eq_2, MV.frz.eq_3, MV.frz.eq_4, heldM.eq_1, heldM.eq_2, valM.eq_1, valM.eq_2, finM, valsM, ofStr_beq, ofStr_eq, bIsi, bIsiT, PV.kind.eq_1, PV.kind.eq_2, PV.kind.eq_3, PV.kind.eq_4, PV.kind.eq_5, PV.kind.eq_6, PV.kind.eq_7, PV.kind.eq_8, isiB, BT.nm, PV.tys.eq_1, PV.tys.eq_2, PV.tys.eq_3, bLen.eq_1, bLen.eq_2, bLen.eq_3, bLen.eq_4, bLen.eq_5, bAbs.eq_1, bAbs.eq_2, bMax2.eq_1, bMax2.eq_2, bMin2.eq_1, bMin2.eq_2, bDivmod.eq_1, bDivmod.eq_2, divOk, bInt.eq_1, bInt.eq_2, bInt.eq_3, bList.eq_1, bList.eq_2, bTuple.eq_1, bTuple.eq_2, bTuple.eq_3, bAll.eq_1, bAll.eq_2, bAny.eq_1, bAny.eq_2, bls_bools, ints_ints, oEq, oNe, oIn, oNotIn, oInF, oNotInF, oIs, oIsNot, isNonP.eq_1, isNonP.eq_2, eqP_int, eqP_bl, eqP_tup, eqP_lst, inP_ints, inF_tup, inF_lst, oAdd, oSub, oMul, mulOk, oFdiv, oMod, oPow, powOk, oLt, oLe, oGt, oGe, uNeg, lExtend, lPop, lPopAt, lReverse, lIndex_ints, rgOk, valAt, S.wipe, wipeE, S.rest, restE, oI_c, oIc_c, lAppend_c, mkOut_c, oIxA_c, rngP_0, atI_0, atI_1, ixN_ok, bls_map, -List.map_map, all_tt, enP_ints, inF_items, turn_ap, lcT_ap, tTrue_ap, Option.bind_assoc, Option.map_bind, e1, e2]
theorem e_alike {cs hs : List Int} (hh : Holds cs hs) :
    f_Partition_is_alike ca (.val (Pt ca cs) :: hs.map fun i => .val (.int i)) sto = some (.val (.bl (alike cs hs)), .val (Pt ca cs) :: hs.map fun i => .val (.int i), sto) := by
  refine star_ints ?_ hh.1
  have hl := hh.1
  unfold runF b_Partition_is_alike
  have e1 := e_want (ca := ca) (sto := sto) (p := .tup (hs.map .int)) (hs := hs) rfl hh
  simp (config := { decide := false }) [dVal_ap, dC_ap, pLate_ap, dFrz_ap, pNow_ap, dOp_ap, dUn_ap, tCmp_ap, tOf_ap, tAnd_ap, tOr_ap, tNot_ap, dAnd_ap, dOr_ap, dNot_ap, dIf_ap, mOp_ap, aNil_ap, aV_ap, aIo_ap, dTup_ap, mLst_ap, qNil_ap, qC_ap, dCall_ap, mCall_ap, lNone_ap, lSome_ap, dSlT_ap, mSlL_ap, dFld_ap, gNm_ap, gsNil_ap, gsC_ap, gTp_ap, gIx_ap, sNx_ap, sSeq_ap, sEx_ap, sAsg_ap, sSetO_ap, sRet_ap, sRetO_ap, sRetNm_ap, sRetN_ap, sIf_ap, sNever_ap, sBk_ap, sCt_ap, gSet2_ap, gSet3_ap, sPar_ap, iL_ap, iT_ap, iR1_ap, iR2_ap, iEnL_ap, iEnT_ap, iZp_ap, iA_ap, iEnA_ap, mFn_ap, mFnT_ap, mMt_ap, mFnK_ap, mMk_ap, sFldSet_ap, mPr_ap, dChain_ap, dMl_ap, mRg1_ap, mRg2_ap, mV_ap, sParO_ap, mSortU_ap, putN, putP, rdAll, AV.pvs, oFld.eq_1, oFld.eq_2, lookP, callF, takeA, putA, okObj.eq_1, okObj.eq_2, isOf.eq_1, isOf.eq_2, PV.items.eq_1, PV.items.eq_2, PV.items.eq_3, PV.items.eq_4, dMt, PV.isLst.eq_1, PV.isLst.eq_2, S.set, MV.frz.eq_1, MV.frz.eq_2, MV.frz.eq_3, MV.frz.eq_4, heldM.eq_1, heldM.eq_2, valM.eq_1, valM.eq_2, finM, valsM, ofStr_beq, ofStr_eq, bIsi, bIsiT, PV.kind.eq_1, PV.kind.eq_2, PV.kind.eq_3, PV.kind.eq_4, PV.kind.eq_5, PV.kind.eq_6, PV.kind.eq_7, PV.kind.eq_8, isiB, BT.nm, PV.tys.eq_1, PV.tys.eq_2, PV.tys.eq_3, bLen.eq_1, bLen.eq_2, bLen.eq_3, bLen.eq_4, bLen.eq_5, bAbs.eq_1, bAbs.eq_2, bMax2.eq_1, bMax2.eq_2, bMin2.eq_1, bMin2.eq_2, bDivmod.eq_1, bDivmod.eq_2, divOk, bInt.eq_1, bInt.eq_2, bInt.eq_3, bList.eq_1, bList.eq_2, bTuple.eq_1, bTuple.eq_2, bTuple.eq_3, bAll.eq_1, bAll.eq_2, bAny.eq_1, bAny.eq_2, bls_bools, ints_ints, oEq, oNe, oIn, oNotIn, oInF, oNotInF, oIs, oIsNot, isNonP.eq_1, isNonP.eq_2, eqP_int, eqP_bl, eqP_tup, eqP_lst, inP_ints, inF_tup, inF_lst, oAdd, oSub, oMul, mulOk, oFdiv, oMod, oPow, powOk, oLt, oLe, oGt, oGe, uNeg, lExtend, lPop, lPopAt, lReverse, lIndex_ints, rgOk, valAt, S.wipe, wipeE, S.rest, restE, oI_c, oIc_c, lAppend_c, mkOut_c, oIxA_c, rngP_0, atI_0, atI_1, ixN_ok, bls_map, -List.map_map, all_tt, enP_ints, inF_items, turn_ap, lcT_ap, tTrue_ap, Option.bind_assoc, Option.map_bind, e1]
  rw [lc_map hs .int (fun h => .int (gv cs h)) (s1 := ⟨[some (.val (Pt ca cs)), some (.val (.tup (hs.map .int))), none, none, none], sto⟩)]
  · have hw : (hs.map fun h => PV.int (gv cs h)) = (hs.map (gv cs)).map .int := by simp
    rw [hw]
    unfold alike
    have hl2 : (hs.map (gv cs)).length ≤ 1000 := by simpa using hl
    generalize hs.map (gv cs) = ms at hl2 ⊢
    simp (config := { decide := false }) [dVal_ap, dC_ap, pLate_ap, dFrz_ap, pNow_ap, dOp_ap, dUn_ap, tCmp_ap, tOf_ap, tAnd_ap, tOr_ap, tNot_ap, dAnd_ap, dOr_ap, dNot_ap, dIf_ap, mOp_ap, aNil_ap, aV_ap, aIo_ap, dTup_ap, mLst_ap, qNil_ap, qC_ap, dCall_ap, mCall_ap, lNone_ap, lSome_ap, dSlT_ap, mSlL_ap, dFld_ap, gNm_ap, gsNil_ap, gsC_ap, gTp_ap, gIx_ap, sNx_ap, sSeq_ap, sEx_ap, sAsg_ap, sSetO_ap, sRet_ap, sRetO_ap, sRetNm_ap, sRetN_ap, sIf_ap, sNever_ap, sBk_ap, sCt_ap, gSet2_ap, gSet3_ap, sPar_ap, iL_ap, iT_ap, iR1_ap, iR2_ap, iEnL_ap, iEnT_ap, iZp_ap, iA_ap, iEnA_ap, mFn_ap, mFnT_ap, mMt_ap, mFnK_ap, mMk_ap, sFldSet_ap, mPr_ap, dChain_ap, dMl_ap, mRg1_ap, mRg2_ap, mV_ap, sParO_ap, mSortU_ap, putN, putP, rdAll, AV.pvs, oFld.eq_1, oFld.eq_2, lookP, callF, takeA, putA, okObj.eq_1, okObj.eq_2, isOf.eq_1, isOf.eq_2, PV.items.eq_1, PV.items.eq_2, PV.items.eq_3, PV.items.eq_4, dMt, PV.isLst.eq_1, PV.isLst.eq_2, S.set, MV.frz.eq_1, MV.frz.eq_2, MV.frz.eq_3, MV.frz.eq_4, heldM.eq_1, heldM.eq_2, valM.eq_1, valM.eq_2, finM, valsM, ofStr_beq, ofStr_eq, bIsi, bIsiT, PV.kind.eq_1, PV.kind.eq_2, PV.kind.eq_3, PV.kind.eq_4, PV.kind.eq_5, PV.kind.eq_6, PV.kind.eq_7, PV.kind.eq_8, isiB, BT.nm, PV.tys.eq_1, PV.tys.eq_2, PV.tys.eq_3, bLen.eq_1, bLen.eq_2, bLen.eq_3, bLen.eq_4, bLen.eq_5, bAbs.eq_1, bAbs.eq_2, bMax2.eq_1, bMax2.eq_2, bMin2.eq_1, bMin2.eq_2, bDivmod.eq_1, bDivmod.eq_2, divOk, bInt.eq_1, bInt.eq_2, bInt.eq_3, bList.eq_1, bList.eq_2, bTuple.eq_1, bTuple.eq_2, bTuple.eq_3, bAll.eq_1, bAll.eq_2, bAny.eq_1, bAny.eq_2, bls_bools, ints_ints, oEq, oNe, oIn, oNotIn, oInF, oNotInF, oIs, oIsNot, isNonP.eq_1, isNonP.eq_2, eqP_int, eqP_bl, eqP_tup, eqP_lst, inP_ints, inF_tup, inF_lst, oAdd, oSub, oMul, mulOk, oFdiv, oMod, oPow, powOk, oLt, oLe, oGt, oGe, uNeg, lExtend, lPop, lPopAt, lReverse, lIndex_ints, rgOk, valAt, S.wipe, wipeE, S.rest, restE, oI_c, oIc_c, lAppend_c, mkOut_c, oIxA_c, rngP_0, atI_0, atI_1, ixN_ok, bls_map, -List.map_map, all_tt, enP_ints, inF_items, turn_ap, lcT_ap, tTrue_ap, Option.bind_assoc, Option.map_bind]
    rw [lc_map ms .int (fun m => .bl (decide (m ≠ -1 ∧ m = ms.getD 0 0))) (s1 := ⟨[some (.val (Pt ca cs)), some (.val (.tup (hs.map .int))), some (.val (.lst (ms.map .int))), none, none], sto⟩)]
    · simp (config := { decide := false }) [dVal_ap, dC_ap, pLate_ap, dFrz_ap, pNow_ap, dOp_ap, dUn_ap, tCmp_ap, tOf_ap, tAnd_ap, tOr_ap, tNot_ap, dAnd_ap, dOr_ap, dNot_ap, dIf_ap, mOp_ap, aNil_ap, aV_ap, aIo_ap, dTup_ap, mLst_ap, qNil_ap, qC_ap, dCall_ap, mCall_ap, lNone_ap, lSome_ap, dSlT_ap, mSlL_ap, dFld_ap, gNm_ap, gsNil_ap, gsC_ap, gTp_ap, gIx_ap, sNx_ap, sSeq_ap, sEx_ap, sAsg_ap, sSetO_ap, sRet_ap, sRetO_ap, sRetNm_ap, sRetN_ap, sIf_ap, sNever_ap, sBk_ap, sCt_ap, gSet2_ap, gSet3_ap, sPar_ap, iL_ap, iT_ap, iR1_ap, iR2_ap, iEnL_ap, iEnT_ap, iZp_ap, iA_ap, iEnA_ap, mFn_ap, mFnT_ap, mMt_ap, mFnK_ap, mMk_ap, sFldSet_ap, mPr_ap, dChain_ap, dMl_ap, mRg1_ap, mRg2_ap, mV_ap, sParO_ap, mSortU_ap, putN, putP, rdAll, AV.pvs, oFld.eq_1, oFld.eq_2, lookP, callF, takeA, putA, okObj.eq_1, okObj.eq_2, isOf.eq_1, isOf.eq_2, PV.items.eq_1, PV.items.eq_2, PV.items.eq_3, PV.items.eq_4, dMt, PV.isLst.eq_1, PV.isLst.eq_2, S.set, MV.frz.eq_1, MV.frz.eq_2, MV.frz.eq_3, MV.frz.eq_4, heldM.eq_1, heldM.eq_2, valM.eq_1, valM.eq_2, finM, valsM, ofStr_beq, ofStr_eq, bIsi, bIsiT, PV.kind.eq_1, PV.kind.eq_2, PV.kind.eq_3, PV.kind.eq_4, PV.kind.eq_5, PV.kind.eq_6, PV.kind.eq_7, PV.kind.eq_8, isiB, BT.nm, PV.tys.eq_1, PV.tys.eq_2, PV.tys.eq_3, bLen.eq_1, bLen.eq_2, bLen.eq_3, bLen.eq_4, bLen.eq_5, bAbs.eq_1, bAbs.eq_2, bMax2.eq_1, bMax2.eq_2, bMin2.eq_1, bMin2.eq_2, bDivmod.eq_1, bDivmod.eq_2, divOk, bInt.eq_1, bInt.eq_2, bInt.eq_3, bList.eq_1, bList.eq_2, bTuple.eq_1, bTuple.eq_2, bTuple.eq_3, bAll.eq_1, bAll.eq_2, bAny.eq_1, bAny.eq_2, bls_bools, ints_ints, oEq, oNe, oIn, oNotIn, oInF, oNotInF, oIs, oIsNot, isNonP.eq_1, isNonP.eq_2, eqP_int, eqP_bl, eqP_tup, eqP_lst, inP_ints, inF_tup, inF_lst, oAdd, oSub, oMul, mulOk, oFdiv, oMod, oPow, powOk, oLt, oLe, oGt, oGe, uNeg, lExtend, lPop, lPopAt, lReverse, lIndex_ints, rgOk, valAt, S.wipe, wipeE, S.rest, restE, oI_c, oIc_c, lAppend_c, mkOut_c, oIxA_c, rngP_0, atI_0, atI_1, ixN_ok, bls_map, -List.map_map, all_tt, enP_ints, inF_items, turn_ap, lcT_ap, tTrue_ap, Option.bind_assoc, Option.map_bind]
    · simp (config := { decide := false }) [dVal_ap, dC_ap, pLate_ap, dFrz_ap, pNow_ap, dOp_ap, dUn_ap, tCmp_ap, tOf_ap, tAnd_ap, tOr_ap, tNot_ap, dAnd_ap, dOr_ap, dNot_ap, dIf_ap, mOp_ap, aNil_ap, aV_ap, aIo_ap, dTup_ap, mLst_ap, qNil_ap, qC_ap, dCall_ap, mCall_ap, lNone_ap, lSome_ap, dSlT_ap, mSlL_ap, dFld_ap, gNm_ap, gsNil_ap, gsC_ap, gTp_ap, gIx_ap, sNx_ap, sSeq_ap, sEx_ap, sAsg_ap, sSetO_ap, sRet_ap, sRetO_ap, sRetNm_ap, sRetN_ap, sIf_ap, sNever_ap, sBk_ap, sCt_ap, gSet2_ap, gSet3_ap, sPar_ap, iL_ap, iT_ap, iR1_ap, iR2_ap, iEnL_ap, iEnT_ap, iZp_ap, iA_ap, iEnA_ap, mFn_ap, mFnT_ap, mMt_ap, mFnK_ap, mMk_ap, sFldSet_ap, mPr_ap, dChain_ap, dMl_ap, mRg1_ap, mRg2_ap, mV_ap, sParO_ap, mSortU_ap, putN, putP, rdAll, AV.pvs, oFld.eq_1, oFld.eq_2, lookP, callF, takeA, putA, okObj.eq_1, okObj.eq_2, isOf.eq_1, isOf.eq_2, PV.items.eq_1, PV.items.eq_2, PV.items.eq_3, PV.items.eq_4, dMt, PV.isLst.eq_1, PV.isLst.eq_2, S.set, MV.frz.eq_1, MV.frz.eq_2, MV.frz.eq_3, MV.frz.eq_4, heldM.eq_1, heldM.eq_2, valM.eq_1, valM.eq_2, finM, valsM, ofStr_beq, ofStr_eq, bIsi, bIsiT, PV.kind.eq_1, PV.kind.eq_2, PV.kind.eq_3, PV.kind.eq_4, PV.kind.eq_5, PV.kind.eq_6, PV.kind.eq_7, PV.kind.eq_8, isiB, BT.nm, PV.tys.eq_1, PV.tys.eq_2, PV.tys.eq_3, bLen.eq_1, bLen.eq_2, bLen.eq_3, bLen.eq_4, bLen.eq_5, bAbs.eq_1, bAbs.eq_2, bMax2.eq_1, bMax2.eq_2, bMin2.eq_1, bMin2.eq_2, bDivmod.eq_1, bDivmod.eq_2, divOk, bInt.eq_1, bInt.eq_2, bInt.eq_3, bList.eq_1, bList.eq_2, bTuple.eq_1, bTuple.eq_2, bTuple.eq_3, bAll.eq_1, bAll.eq_2, bAny.eq_1, bAny.eq_2, bls_bools, ints_ints, oEq, oNe, oIn, oNotIn, oInF, oNotInF, oIs, oIsNot, isNonP.eq_1, isNonP.eq_2, eqP_int, eqP_bl, eqP_tup, eqP_lst, inP_ints, inF_tup, inF_lst, oAdd, oSub, oMul, mulOk, oFdiv, oMod, oPow, powOk, oLt, oLe, oGt, oGe, uNeg, lExtend, lPop, lPopAt, lReverse, lIndex_ints, rgOk, valAt, S.wipe, wipeE, S.rest, restE, oI_c, oIc_c, lAppend_c, mkOut_c, oIxA_c, rngP_0, atI_0, atI_1, ixN_ok, bls_map, -List.map_map, all_tt, enP_ints, inF_items, turn_ap, lcT_ap, tTrue_ap, Option.bind_assoc, Option.map_bind]
    · simp (config := { decide := false }) [dVal_ap, dC_ap, pLate_ap, dFrz_ap, pNow_ap, dOp_ap, dUn_ap, tCmp_ap, tOf_ap, tAnd_ap, tOr_ap, tNot_ap, dAnd_ap, dOr_ap, dNot_ap, dIf_ap, mOp_ap, aNil_ap, aV_ap, aIo_ap, dTup_ap, mLst_ap, qNil_ap, qC_ap, dCall_ap, mCall_ap, lNone_ap, lSome_ap, dSlT_ap, mSlL_ap, dFld_ap, gNm_ap, gsNil_ap, gsC_ap, gTp_ap, gIx_ap, sNx_ap, sSeq_ap, sEx_ap, sAsg_ap, sSetO_ap, sRet_ap, sRetO_ap, sRetNm_ap, sRetN_ap, sIf_ap, sNever_ap, sBk_ap, sCt_ap, gSet2_ap, gSet3_ap, sPar_ap, iL_ap, iT_ap, iR1_ap, iR2_ap, iEnL_ap, iEnT_ap, iZp_ap, iA_ap, iEnA_ap, mFn_ap, mFnT_ap, mMt_ap, mFnK_ap, mMk_ap, sFldSet_ap, mPr_ap, dChain_ap, dMl_ap, mRg1_ap, mRg2_ap, mV_ap, sParO_ap, mSortU_ap, putN, putP, rdAll, AV.pvs, oFld.eq_1, oFld.eq_2, lookP, callF, takeA, putA, okObj.eq_1, okObj.eq_2, isOf.eq_1, isOf.eq_2, PV.items.eq_1, PV.items.eq_2, PV.items.eq_3, PV.items.eq_4, dMt, PV.isLst.eq_1, PV.isLst.eq_2, S.set, MV.frz.eq_1, MV.frz.eq_2, MV.frz.eq_3, MV.frz.eq_4, heldM.eq_1, heldM.eq_2, valM.eq_1, valM.eq_2, finM, valsM, ofStr_beq, ofStr_eq, bIsi, bIsiT, PV.kind.eq_1, PV.kind.eq_2, PV.kind.eq_3, PV.kind.eq_4, PV.kind.eq_5, PV.kind.eq_6, PV.kind.eq_7, PV.kind.eq_8, isiB, BT.nm, PV.tys.eq_1, PV.tys.eq_2, PV.tys.eq_3, bLen.eq_1, bLen.eq_2, bLen.eq_3, bLen.eq_4, bLen.eq_5, bAbs.eq_1, bAbs.eq_2, bMax2.eq_1, bMax2.eq_2, bMin2.eq_1, bMin2.eq_2, bDivmod.eq_1, bDivmod.eq_2, divOk, bInt.eq_1, bInt.eq_2, bInt.eq_3, bList.eq_1, bList.eq_2, bTuple.eq_1, bTuple.eq_2, bTuple.eq_3, bAll.eq_1, bAll.eq_2, bAny.eq_1, bAny.eq_2, bls_bools, ints_ints, oEq, oNe, oIn, oNotIn, oInF, oNotInF, oIs, oIsNot, isNonP.eq_1, isNonP.eq_2, eqP_int, eqP_bl, eqP_tup, eqP_lst, inP_ints, inF_tup, inF_lst, oAdd, oSub, oMul, mulOk, oFdiv, oMod, oPow, powOk, oLt, oLe, oGt, oGe, uNeg, lExtend, lPop, lPopAt, lReverse, lIndex_ints, rgOk, valAt, S.wipe, wipeE, S.rest, restE, oI_c, oIc_c, lAppend_c, mkOut_c, oIxA_c, rngP_0, atI_0, atI_1, ixN_ok, bls_map, -List.map_map, all_tt, enP_ints, inF_items, turn_ap, lcT_ap, tTrue_ap, Option.bind_assoc, Option.map_bind]
    · omega
    · intro m hm
      have h0 : atI (ms.map PV.int) 0 = some (.int (ms.getD 0 0)) := by
        rw [atI_map, atI_nn (by decide)]
        cases hc : ms with
        | nil => rw [hc] at hm; cases hm
        | cons x xs => rfl
      by_cases h1 : m = -1
      · subst h1
        simp (config := { decide := false }) [dVal_ap, dC_ap, pLate_ap, dFrz_ap, pNow_ap, dOp_ap, dUn_ap, tCmp_ap, tOf_ap, tAnd_ap, tOr_ap, tNot_ap, dAnd_ap, dOr_ap, dNot_ap, dIf_ap, mOp_ap, aNil_ap, aV_ap, aIo_ap, dTup_ap, mLst_ap, qNil_ap, qC_ap, dCall_ap, mCall_ap, lNone_ap, lSome_ap, dSlT_ap, mSlL_ap, dFld_ap, gNm_ap, gsNil_ap, gsC_ap, gTp_ap, gIx_ap, sNx_ap, sSeq_ap, sEx_ap, sAsg_ap, sSetO_ap, sRet_ap, sRetO_ap, sRetNm_ap, sRetN_ap, sIf_ap, sNever_ap, sBk_ap, sCt_ap, gSet2_ap, gSet3_ap, sPar_ap, iL_ap, iT_ap, iR1_ap, iR2_ap, iEnL_ap, iEnT_ap, iZp_ap, iA_ap, iEnA_ap, mFn_ap, mFnT_ap, mMt_ap, mFnK_ap, mMk_ap, sFldSet_ap, mPr_ap, dChain_ap, dMl_ap, mRg1_ap, mRg2_ap, mV_ap, sParO_ap, mSortU_ap, putN, putP, rdAll, AV.pvs, oFld.eq_1, oFld.eq_2, lookP, callF, takeA, putA, okObj.eq_1, okObj.eq_2, isOf.eq_1, isOf.eq_2, PV.items.eq_1, PV.items.eq_2, PV.items.eq_3, PV.items.eq_4, dMt, PV.isLst.eq_1, PV.isLst.eq_2, S.set, MV.frz.eq_1, MV.frz.eq_2, MV.frz.eq_3, MV.frz.eq_4, heldM.eq_1, heldM.eq_2, valM.eq_1, valM.eq_2, finM, valsM, ofStr_beq, ofStr_eq, bIsi, bIsiT, PV.kind.eq_1, PV.kind.eq_2, PV.kind.eq_3, PV.kind.eq_4, PV.kind.eq_5, PV.kind.eq_6, PV.kind.eq_7, PV.kind.eq_8, isiB, BT.nm, PV.tys.eq_1, PV.tys.eq_2, PV.tys.eq_3, bLen.eq_1, bLen.eq_2, bLen.eq_3, bLen.eq_4, bLen.eq_5, bAbs.eq_1, bAbs.eq_2, bMax2.eq_1, bMax2.eq_2, bMin2.eq_1, bMin2.eq_2, bDivmod.eq_1, bDivmod.eq_2, divOk, bInt.eq_1, bInt.eq_2, bInt.eq_3, bList.eq_1, bList.eq_2, bTuple.eq_1, bTuple.eq_2, bTuple.eq_3, bAll.eq_1, bAll.eq_2, bAny.eq_1, bAny.eq_2, bls_bools, ints_ints, oEq, oNe, oIn, oNotIn, oInF, oNotInF, oIs, oIsNot, isNonP.eq_1, isNonP.eq_2, eqP_int, eqP_bl, eqP_tup, eqP_lst, inP_ints, inF_tup, inF_lst, oAdd, oSub, oMul, mulOk, oFdiv, oMod, oPow, powOk, oLt, oLe, oGt, oGe, uNeg, lExtend, lPop, lPopAt, lReverse, lIndex_ints, rgOk, valAt, S.wipe, wipeE, S.rest, restE, oI_c, oIc_c, lAppend_c, mkOut_c, oIxA_c, rngP_0, atI_0, atI_1, ixN_ok, bls_map, -List.map_map, all_tt, enP_ints, inF_items, turn_ap, lcT_ap, tTrue_ap, Option.bind_assoc, Option.map_bind]
      · simp (config := { decide := false }) [dVal_ap, dC_ap, pLate_ap, dFrz_ap, pNow_ap, dOp_ap, dUn_ap, tCmp_ap, tOf_ap, tAnd_ap, tOr_ap, tNot_ap, dAnd_ap, dOr_ap, dNot_ap, dIf_ap, mOp_ap, aNil_ap, aV_ap, aIo_ap, dTup_ap, mLst_ap, qNil_ap, qC_ap, dCall_ap, mCall_ap, lNone_ap, lSome_ap, dSlT_ap, mSlL_ap, dFld_ap, gNm_ap, gsNil_ap, gsC_ap, gTp_ap, gIx_ap, sNx_ap, sSeq_ap, sEx_ap, sAsg_ap, sSetO_ap, sRet_ap, sRetO_ap, sRetNm_ap, sRetN_ap, sIf_ap, sNever_ap, sBk_ap, sCt_ap, gSet2_ap, gSet3_ap, sPar_ap, iL_ap, iT_ap, iR1_ap, iR2_ap, iEnL_ap, iEnT_ap, iZp_ap, iA_ap, iEnA_ap, mFn_ap, mFnT_ap, mMt_ap, mFnK_ap, mMk_ap, sFldSet_ap, mPr_ap, dChain_ap, dMl_ap, mRg1_ap, mRg2_ap, mV_ap, sParO_ap, mSortU_ap, putN, putP, rdAll, AV.pvs, oFld.eq_1, oFld.eq_2, lookP, callF, takeA, putA, okObj.eq_1, okObj.eq_2, isOf.eq_1, isOf.eq_2, PV.items.eq_1, PV.items.eq_2, PV.items.eq_3, PV.items.eq_4, dMt, PV.isLst.eq_1, PV.isLst.eq_2, S.set, MV.frz.eq_1, MV.frz.eq_2, MV.frz.eq_3, MV.frz.eq_4, heldM.eq_1, heldM.eq_2, valM.eq_1, valM.eq_2, finM, valsM, ofStr_beq, ofStr_eq, bIsi, bIsiT, PV.kind.eq_1, PV.kind.eq_2, PV.kind.eq_3, PV.kind.eq_4, PV.kind.eq_5, PV.kind.eq_6, PV.kind.eq_7, PV.kind.eq_8, isiB, BT.nm, PV.tys.eq_1, PV.tys.eq_2, PV.tys.eq_3, bLen.eq_1, bLen.eq_2, bLen.eq_3, bLen.eq_4, bLen.eq_5, bAbs.eq_1, bAbs.eq_2, bMax2.eq_1, bMax2.eq_2, bMin2.eq_1, bMin2.eq_2, bDivmod.eq_1, bDivmod.eq_2, divOk, bInt.eq_1, bInt.eq_2, bInt.eq_3, bList.eq_1, bList.eq_2, bTuple.eq_1, bTuple.eq_2, bTuple.eq_3, bAll.eq_1, bAll.eq_2, bAny.eq_1, bAny.eq_2, bls_bools, ints_ints, oEq, oNe, oIn, oNotIn, oInF, oNotInF, oIs, oIsNot, isNonP.eq_1, isNonP.eq_2, eqP_int, eqP_bl, eqP_tup, eqP_lst, inP_ints, inF_tup, inF_lst, oAdd, oSub, oMul, mulOk, oFdiv, oMod, oPow, powOk, oLt, oLe, oGt, oGe, uNeg, lExtend, lPop, lPopAt, lReverse, lIndex_ints, rgOk, valAt, S.wipe, wipeE, S.rest, restE, oI_c, oIc_c, lAppend_c, mkOut_c, oIxA_c, rngP_0, atI_0, atI_1, ixN_ok, bls_map, -List.map_map, all_tt, enP_ints, inF_items, turn_ap, lcT_ap, tTrue_ap, Option.bind_assoc, Option.map_bind, h1, h0]
  · simp (config := { decide := false }) [dVal_ap, dC_ap, pLate_ap, dFrz_ap, pNow_ap, dOp_ap, dUn_ap, tCmp_ap, tOf_ap, tAnd_ap, tOr_ap, tNot_ap, dAnd_ap, dOr_ap, dNot_ap, dIf_ap, mOp_ap, aNil_ap, aV_ap, aIo_ap, dTup_ap, mLst_ap, qNil_ap, qC_ap, dCall_ap, mCall_ap, lNone_ap, lSome_ap, dSlT_ap, mSlL_ap, dFld_ap, gNm_ap, gsNil_ap, gsC_ap, gTp_ap, gIx_ap, sNx_ap, sSeq_ap, sEx_ap, sAsg_ap, sSetO_ap, sRet_ap, sRetO_ap, sRetNm_ap, sRetN_ap, sIf_ap, sNever_ap, sBk_ap, sCt_ap, gSet2_ap, gSet3_ap, sPar_ap, iL_ap, iT_ap, iR1_ap, iR2_ap, iEnL_ap, iEnT_ap, iZp_ap, iA_ap, iEnA_ap, mFn_ap, mFnT_ap, mMt_ap, mFnK_ap, mMk_ap, sFldSet_ap, mPr_ap, dChain_ap, dMl_ap, mRg1_ap, mRg2_ap, mV_ap, sParO_ap, mSortU_ap, putN, putP, rdAll, AV.pvs, oFld.eq_1, oFld.eq_2, lookP, callF, takeA, putA, okObj.eq_1, okObj.eq_2, isOf.eq_1, isOf.eq_2, PV.items.eq_1, PV.items.eq_2, PV.items.eq_3, PV.items.eq_4, dMt, PV.isLst.eq_1, PV.isLst.eq_2, S.set, MV.frz.eq_1, MV.frz.eq_2, MV.frz.eq_3, MV.frz.eq_4, heldM.eq_1, heldM.eq_2, valM.eq_1, valM.eq_2, finM, valsM, ofStr_beq, ofStr_eq, bIsi, bIsiT, PV.kind.eq_1, PV.kind.eq_2, PV.kind.eq_3, PV.kind.eq_4, PV.kind.eq_5, PV.kind.eq_6, PV.kind.eq_7, PV.kind.eq_8, isiB, BT.nm, PV.tys.eq_1, PV.tys.eq_2, PV.tys.eq_3, bLen.eq_1, bLen.eq_2, bLen.eq_3, bLen.eq_4, bLen.eq_5, bAbs.eq_1, bAbs.eq_2, bMax2.eq_1, bMax2.eq_2, bMin2.eq_1, bMin2.eq_2, bDivmod.eq_1, bDivmod.eq_2, divOk, bInt.eq_1, bInt.eq_2, bInt.eq_3, bList.eq_1, bList.eq_2, bTuple.eq_1, bTuple.eq_2, bTuple.eq_3, bAll.eq_1, bAll.eq_2, bAny.eq_1, bAny.eq_2, bls_bools, ints_ints, oEq, oNe, oIn, oNotIn, oInF, oNotInF, oIs, oIsNot, isNonP.eq_1, isNonP.eq_2, eqP_int, eqP_bl, eqP_tup, eqP_lst, inP_ints, inF_tup, inF_lst, oAdd, oSub, oMul, mulOk, oFdiv, oMod, oPow, powOk, oLt, oLe, oGt, oGe, uNeg, lExtend, lPop, lPopAt, lReverse, lIndex_ints, rgOk, valAt, S.wipe, wipeE, S.rest, restE, oI_c, oIc_c, lAppend_c, mkOut_c, oIxA_c, rngP_0, atI_0, atI_1, ixN_ok, bls_map, -List.map_map, all_tt, enP_ints, inF_items, turn_ap, lcT_ap, tTrue_ap, Option.bind_assoc, Option.map_bind]
  · simp (config := { decide := false }) [dVal_ap, dC_ap, pLate_ap, dFrz_ap, pNow_ap, dOp_ap, dUn_ap, tCmp_ap, tOf_ap, tAnd_ap, tOr_ap, tNot_ap, dAnd_ap, dOr_ap, dNot_ap, dIf_ap, mOp_ap, aNil_ap, aV_ap, aIo_ap, dTup_ap, mLst_ap, qNil_ap, qC_ap, dCall_ap, mCall_ap, lNone_ap, lSome_ap, dSlT_ap, mSlL_ap, dFld_ap, gNm_ap, gsNil_ap, gsC_ap, gTp_ap, gIx_ap, sNx_ap, sSeq_ap, sEx_ap, sAsg_ap, sSetO_ap, sRet_ap, sRetO_ap, sRetNm_ap, sRetN_ap, sIf_ap, sNever_ap, sBk_ap, sCt_ap, gSet2_ap, gSet3_ap, sPar_ap, iL_ap, iT_ap, iR1_ap, iR2_ap, iEnL_ap, iEnT_ap, iZp_ap, iA_ap, iEnA_ap, mFn_ap, mFnT_ap, mMt_ap, mFnK_ap, mMk_ap, sFldSet_ap, mPr_ap, dChain_ap, dMl_ap, mRg1_ap, mRg2_ap, mV_ap, sParO_ap, mSortU_ap, putN, putP, rdAll, AV.pvs, oFld.eq_1, oFld.eq_2, lookP, callF, takeA, putA, okObj.eq_1, okObj.eq_2, isOf.eq_1, isOf.eq_2, PV.items.eq_1, PV.items.eq_2, PV.items.eq_3, PV.items.eq_4, dMt, PV.isLst.eq_1, PV.isLst.eq_2, S.set, MV.frz.eq_1, MV.frz.eq_2, MV.frz.eq_3, MV.frz.eq_4, heldM.eq_1, heldM.eq_2, valM.eq_1, valM.eq_2, finM, valsM, ofStr_beq, ofStr_eq, bIsi, bIsiT, PV.kind.eq_1, PV.kind.eq_2, PV.kind.eq_3, PV.kind.eq_4, PV.kind.eq_5, PV.kind.eq_6, PV.kind.eq_7, PV.kind.eq_8, isiB, BT.nm, PV.tys.eq_1, PV.tys.eq_2, PV.tys.eq_3, bLen.eq_1, bLen.eq_2, bLen.eq_3, bLen.eq_4, bLen.eq_5, bAbs.eq_1, bAbs.eq_2, bMax2.eq_1, bMax2.eq_2, bMin2.eq_1, bMin2.eq_2, bDivmod.eq_1, bDivmod.eq_2, divOk, bInt.eq_1, bInt.eq_2, bInt.eq_3, bList.eq_1, bList.eq_2, bTuple.eq_1, bTuple.eq_2, bTuple.eq_3, bAll.eq_1, bAll.eq_2, bAny.eq_1, bAny.eq_2, bls_bools, ints_ints, oEq, oNe, oIn, oNotIn, oInF, oNotInF, oIs, oIsNot, isNonP.eq_1, isNonP.eq_2, eqP_int, eqP_bl, eqP_tup, eqP_lst, inP_ints, inF_tup, inF_lst, oAdd, oSub, oMul, mulOk, oFdiv, oMod, oPow, powOk, oLt, oLe, oGt, oGe, uNeg, lExtend, lPop, lPopAt, lReverse, lIndex_ints, rgOk, valAt, S.wipe, wipeE, S.rest, restE, oI_c, oIc_c, lAppend_c, mkOut_c, oIxA_c, rngP_0, atI_0, atI_1, ixN_ok, bls_map, -List.map_map, all_tt, enP_ints, inF_items, turn_ap, lcT_ap, tTrue_ap, Option.bind_assoc, Option.map_bind]
  · omega
  · intro h hm
    have h3 := hh.2 h hm
    simp (config := { decide := false }) [dVal_ap, dC_ap, pLate_ap, dFrz_ap, pNow_ap, dOp_ap, dUn_ap, tCmp_ap, tOf_ap, tAnd_ap, tOr_ap, tNot_ap, dAnd_ap, dOr_ap, dNot_ap, dIf_ap, mOp_ap, aNil_ap, aV_ap, aIo_ap, dTup_ap, mLst_ap, qNil_ap, qC_ap, dCall_ap, mCall_ap, lNone_ap, lSome_ap, dSlT_ap, mSlL_ap, dFld_ap, gNm_ap, gsNil_ap, gsC_ap, gTp_ap, gIx_ap, sNx_ap, sSeq_ap, sEx_ap, sAsg_ap, sSetO_ap, sRet_ap, sRetO_ap, sRetNm_ap, sRetN_ap, sIf_ap, sNever_ap, sBk_ap, sCt_ap, gSet2_ap, gSet3_ap, sPar_ap, iL_ap, iT_ap, iR1_ap, iR2_ap, iEnL_ap, iEnT_ap, iZp_ap, iA_ap, iEnA_ap, mFn_ap, mFnT_ap, mMt_ap, mFnK_ap, mMk_ap, sFldSet_ap, mPr_ap, dChain_ap, dMl_ap, mRg1_ap, mRg2_ap, mV_ap, sParO_ap, mSortU_ap, putN, putP, rdAll, AV.pvs, oFld.eq_1, oFld.eq_2, lookP, callF, takeA, putA, okObj.eq_1, okObj.eq_2, isOf.eq_1, isOf.eq_2, PV.items.eq_1, PV.items.eq_2, PV.items.eq_3, PV.items.eq_4, dMt, PV.isLst.eq_1, PV.isLst.eq_2, S.set, MV.frz.eq_1, MV.frz.eq_2, MV.frz.eq_3, MV.frz.eq_4, heldM.eq_1, heldM.eq_2, valM.eq_1, valM.eq_2, finM, valsM, ofStr_beq, ofStr_eq, bIsi, bIsiT, PV.kind.eq_1, PV.kind.eq_2, PV.kind.eq_3, PV.kind.eq_4, PV.kind.eq_5, PV.kind.eq_6, PV.kind.eq_7, PV.kind.eq_8, isiB, BT.nm, PV.tys.eq_1, PV.tys.eq_2, PV.tys.eq_3, bLen.eq_1, bLen.eq_2, bLen.eq_3, bLen.eq_4, bLen.eq_5, bAbs.eq_1, bAbs.eq_2, bMax2.eq_1, bMax2.eq_2, bMin2.eq_1, bMin2.eq_2, bDivmod.eq_1, bDivmod.eq_2, divOk, bInt.eq_1, bInt.eq_2, bInt.eq_3, bList.eq_1, bList.eq_2, bTuple.eq_1, bTuple.eq_2, bTuple.eq_3, bAll.eq_1, bAll.eq_2, bAny.eq_1, bAny.eq_2, bls_bools, ints_ints, oEq, oNe, oIn, oNotIn, oInF, oNotInF, oIs, oIsNot, isNonP.eq_1, isNonP.eq_2, eqP_int, eqP_bl, eqP_tup, eqP_lst, inP_ints, inF_tup, inF_lst, oAdd, oSub, oMul, mulOk, oFdiv, oMod, oPow, powOk, oLt, oLe, oGt, oGe, uNeg, lExtend, lPop, lPopAt, lReverse, lIndex_ints, rgOk, valAt, S.wipe, wipeE, S.rest, restE, oI_c, oIc_c, lAppend_c, mkOut_c, oIxA_c, rngP_0, atI_0, atI_1, ixN_ok, bls_map, -List.map_map, all_tt, enP_ints, inF_items, turn_ap, lcT_ap, tTrue_ap, Option.bind_assoc, Option.map_bind, atI_gv h3.1 h3.2]
theorem e_groups {cs : List Int} (hl : cs.length ≤ 1000) : f_Partition_groups ca [.val (Pt ca cs)] sto = some (.mlst ((groupsOf cs).map fun g => .lst (g.map .int)), [.val (Pt ca cs)], sto) := by
  unfold f_Partition_groups runF b_Partition_groups
  simp (config := { decide := false }) [dVal_ap, dC_ap, pLate_ap, dFrz_ap, pNow_ap, dOp_ap, dUn_ap, tCmp_ap, tOf_ap, tAnd_ap, tOr_ap, tNot_ap, dAnd_ap, dOr_ap, dNot_ap, dIf_ap, mOp_ap, aNil_ap, aV_ap, aIo_ap, dTup_ap, mLst_ap, qNil_ap, qC_ap, dCall_ap, mCall_ap, lNone_ap, lSome_ap, dSlT_ap, mSlL_ap, dFld_ap, gNm_ap, gsNil_ap, gsC_ap, gTp_ap, gIx_ap, sNx_ap, sSeq_ap, sEx_ap, sAsg_ap, sSetO_ap, sRet_ap, sRetO_ap, sRetNm_ap, sRetN_ap, sIf_ap, sNever_ap, sBk_ap, sCt_ap, gSet2_ap, gSet3_ap, sPar_ap, iL_ap, iT_ap, iR1_ap, iR2_ap, iEnL_ap, iEnT_ap, iZp_ap, iA_ap, iEnA_ap, mFn_ap, mFnT_ap, mMt_ap, mFnK_ap, mMk_ap, sFldSet_ap, mPr_ap, dChain_ap, dMl_ap, mRg1_ap, mRg2_ap, mV_ap, sParO_ap, mSortU_ap, putN, putP, rdAll, AV.pvs, oFld.eq_1, oFld.eq_2, lookP, callF, takeA, putA, okObj.eq_1, okObj.eq_2, isOf.eq_1, isOf.eq_2, PV.items.eq_1, PV.items.eq_2, PV.items.eq_3, PV.items.eq_4, dMt, PV.isLst.eq_1, PV.isLst.eq_2, S.set, MV.frz.eq_1, MV.frz.eq_2, MV.frz.eq_3, MV.frz.eq_4, heldM.eq_1, heldM.eq_2, valM.eq_1, valM.eq_2, finM, valsM, ofStr_beq, ofStr_eq, bIsi, bIsiT, PV.kind.eq_1, PV.kind.eq_2, PV.kind.eq_3, PV.kind.eq_4, PV.kind.eq_5, PV.kind.eq_6, PV.kind.eq_7, PV.kind.eq_8, isiB, BT.nm, PV.tys.eq_1, PV.tys.eq_2, PV.tys.eq_3, bLen.eq_1, bLen.eq_2, bLen.eq_3, bLen.eq_4, bLen.eq_5, bAbs.eq_1, bAbs.eq_2, bMax2.eq_1, bMax2.eq_2, bMin2.eq_1, bMin2.eq_2, bDivmod.eq_1, bDivmod.eq_2, divOk, bInt.eq_1, bInt.eq_2, bInt.eq_3, bList.eq_1, bList.eq_2, bTuple.eq_1, bTuple.eq_2, bTuple.eq_3, bAll.eq_1, bAll.eq_2, bAny.eq_1, bAny.eq_2, bls_bools, ints_ints, oEq, oNe, oIn, oNotIn, oInF, oNotInF, oIs, oIsNot, isNonP.eq_1, isNonP.eq_2, eqP_int, eqP_bl, eqP_tup, eqP_lst, inP_ints, inF_tup, inF_lst, oAdd, oSub, oMul, mulOk, oFdiv, oMod, oPow, powOk, oLt, oLe, oGt, oGe, uNeg, lExtend, lPop, lPopAt, lReverse, lIndex_ints, rgOk, valAt, S.wipe, wipeE, S.rest, restE, oI_c, oIc_c, lAppend_c, mkOut_c, oIxA_c, rngP_0, atI_0, atI_1, ixN_ok, bls_map, -List.map_map, all_tt, enP_ints, inF_items, turn_ap, lcT_ap, tTrue_ap, Option.bind_assoc, Option.map_bind]
  rw [lc_pick cs.zipIdx (fun b => PV.tup [.int b.2, .int b.1]) (fun b => if b.1 ≠ -1 ∧ b.1 ∉ cs.take b.2 then some (.int b.2) else none) (s1 := ⟨[some (.val (Pt ca cs)), some (.val (.tup (cs.map .int))), none, none, none, none], sto⟩)]
  · have hw : (cs.zipIdx.filterMap fun b => if b.1 ≠ -1 ∧ b.1 ∉ cs.take b.2 then some (PV.int b.2) else none) = (firstsOf cs).map .int := by
      unfold firstsOf
      rw [List.map_filterMap]
      congr 1
      funext b
      split <;> rfl
    rw [hw]
    simp (config := { decide := false }) [dVal_ap, dC_ap, pLate_ap, dFrz_ap, pNow_ap, dOp_ap, dUn_ap, tCmp_ap, tOf_ap, tAnd_ap, tOr_ap, tNot_ap, dAnd_ap, dOr_ap, dNot_ap, dIf_ap, mOp_ap, aNil_ap, aV_ap, aIo_ap, dTup_ap, mLst_ap, qNil_ap, qC_ap, dCall_ap, mCall_ap, lNone_ap, lSome_ap, dSlT_ap, mSlL_ap, dFld_ap, gNm_ap, gsNil_ap, gsC_ap, gTp_ap, gIx_ap, sNx_ap, sSeq_ap, sEx_ap, sAsg_ap, sSetO_ap, sRet_ap, sRetO_ap, sRetNm_ap, sRetN_ap, sIf_ap, sNever_ap, sBk_ap, sCt_ap, gSet2_ap, gSet3_ap, sPar_ap, iL_ap, iT_ap, iR1_ap, iR2_ap, iEnL_ap, iEnT_ap, iZp_ap, iA_ap, iEnA_ap, mFn_ap, mFnT_ap, mMt_ap, mFnK_ap, mMk_ap, sFldSet_ap, mPr_ap, dChain_ap, dMl_ap, mRg1_ap, mRg2_ap, mV_ap, sParO_ap, mSortU_ap, putN, putP, rdAll, AV.pvs, oFld.eq_1, oFld.eq_2, lookP, callF, takeA, putA, okObj.eq_1, okObj.eq_2, isOf.eq_1, isOf.eq_2, PV.items.eq_1, PV.items.eq_2, PV.items.eq_3, PV.items.eq_4, dMt, PV.isLst.eq_1, PV.isLst.eq_2, S.set, MV.frz.eq_1, MV.frz.eq_2, MV.frz.eq_3, MV.frz.eq_4, heldM.eq_1, heldM.eq_2, valM.eq_1, valM.eq_2, finM, valsM, ofStr_beq, ofStr_eq, bIsi, bIsiT, PV.kind.eq_1, PV.kind.eq_2, PV.kind.eq_3, PV.kind.eq_4, PV.kind.eq_5, PV.kind.eq_6, PV.kind.eq_7, PV.kind.eq_8, isiB, BT.nm, PV.tys.eq_1, PV.tys.eq_2, PV.tys.eq_3, bLen.eq_1, bLen.eq_2, bLen.eq_3, bLen.eq_4, bLen.eq_5, bAbs.eq_1, bAbs.eq_2, bMax2.eq_1, bMax2.eq_2, bMin2.eq_1, bMin2.eq_2, bDivmod.eq_1, bDivmod.eq_2, divOk, bInt.eq_1, bInt.eq_2, bInt.eq_3, bList.eq_1, bList.eq_2, bTuple.eq_1, bTuple.eq_2, bTuple.eq_3, bAll.eq_1, bAll.eq_2, bAny.eq_1, bAny.eq_2, bls_bools, ints_ints, oEq, oNe, oIn, oNotIn, oInF, oNotInF, oIs, oIsNot, isNonP.eq_1, isNonP.eq_2, eqP_int, eqP_bl, eqP_tup, eqP_lst, inP_ints, inF_tup, inF_lst, oAdd, oSub, oMul, mulOk, oFdiv, oMod, oPow, powOk, oLt, oLe, oGt, oGe, uNeg, lExtend, lPop, lPopAt, lReverse, lIndex_ints, rgOk, valAt, S.wipe, wipeE, S.rest, restE, oI_c, oIc_c, lAppend_c, mkOut_c, oIxA_c, rngP_0, atI_0, atI_1, ixN_ok, bls_map, -List.map_map, all_tt, enP_ints, inF_items, turn_ap, lcT_ap, tTrue_ap, Option.bind_assoc, Option.map_bind]
    rw [lc_map (firstsOf cs) .int (fun f => .lst ((membersOf cs (gv cs f)).map .int)) (s1 := ⟨[some (.val (Pt ca cs)), some (.val (.tup (cs.map .int))), some (.val (.lst ((firstsOf cs).map .int))), none, none, none], sto⟩)]
    · simp (config := { decide := false }) [dVal_ap, dC_ap, pLate_ap, dFrz_ap, pNow_ap, dOp_ap, dUn_ap, tCmp_ap, tOf_ap, tAnd_ap, tOr_ap, tNot_ap, dAnd_ap, dOr_ap, dNot_ap, dIf_ap, mOp_ap, aNil_ap, aV_ap, aIo_ap, dTup_ap, mLst_ap, qNil_ap, qC_ap, dCall_ap, mCall_ap, lNone_ap, lSome_ap, dSlT_ap, mSlL_ap, dFld_ap, gNm_ap, gsNil_ap, gsC_ap, gTp_ap, gIx_ap, sNx_ap, sSeq_ap, sEx_ap, sAsg_ap, sSetO_ap, sRet_ap, sRetO_ap, sRetNm_ap, sRetN_ap, sIf_ap, sNever_ap, sBk_ap, sCt_ap, gSet2_ap, gSet3_ap, sPar_ap, iL_ap, iT_ap, iR1_ap, iR2_ap, iEnL_ap, iEnT_ap, iZp_ap, iA_ap, iEnA_ap, mFn_ap, mFnT_ap, mMt_ap, mFnK_ap, mMk_ap, sFldSet_ap, mPr_ap, dChain_ap, dMl_ap, mRg1_ap, mRg2_ap, mV_ap, sParO_ap, mSortU_ap, putN, putP, rdAll, AV.pvs, oFld.eq_1, oFld.eq_2, lookP, callF, takeA, putA, okObj.eq_1, okObj.eq_2, isOf.eq_1, isOf.eq_2, PV.items.eq_1, PV.items.eq_2, PV.items.eq_3, PV.items.eq_4, dMt, PV.isLst.eq_1, PV.isLst.eq_2, S.set, MV.frz.eq_1, MV.frz.eq_2, MV.frz.eq_3, MV.frz.eq_4, heldM.eq_1, heldM.eq_2, valM.eq_1, valM.eq_2, finM, valsM, ofStr_beq, ofStr_eq, bIsi, bIsiT, PV.kind.eq_1, PV.kind.eq_2, PV.kind.eq_3, PV.kind.eq_4, PV.kind.eq_5, PV.kind.eq_6, PV.kind.eq_7, PV.kind.eq_8, isiB, BT.nm, PV.tys.eq_1, PV.tys.eq_2, PV.tys.eq_3, bLen.eq_1, bLen.eq_2, bLen.eq_3, bLen.eq_4, bLen.eq_5, bAbs.eq_1, bAbs.eq_2, bMax2.eq_1, bMax2.eq_2, bMin2.eq_1, bMin2.eq_2, bDivmod.eq_1, bDivmod.eq_2, divOk, bInt.eq_1, bInt.eq_2, bInt.eq_3, bList.eq_1, bList.eq_2, bTuple.eq_1, bTuple.eq_2, bTuple.eq_3, bAll.eq_1, bAll.eq_2, bAny.eq_1, bAny.eq_2, bls_bools, ints_ints, oEq, oNe, oIn, oNotIn, oInF, oNotInF, oIs, oIsNot, isNonP.eq_1, isNonP.eq_2, eqP_int, eqP_bl, eqP_tup, eqP_lst, inP_ints, inF_tup, inF_lst, oAdd, oSub, oMul, mulOk, oFdiv, oMod, oPow, powOk, oLt, oLe, oGt, oGe, uNeg, lExtend, lPop, lPopAt, lReverse, lIndex_ints, rgOk, valAt, S.wipe, wipeE, S.rest, restE, oI_c, oIc_c, lAppend_c, mkOut_c, oIxA_c, rngP_0, atI_0, atI_1, ixN_ok, bls_map, -List.map_map, all_tt, enP_ints, inF_items, turn_ap, lcT_ap, tTrue_ap, Option.bind_assoc, Option.map_bind]
      simp [groupsOf]
    · simp (config := { decide := false }) [dVal_ap, dC_ap, pLate_ap, dFrz_ap, pNow_ap, dOp_ap, dUn_ap, tCmp_ap, tOf_ap, tAnd_ap, tOr_ap, tNot_ap, dAnd_ap, dOr_ap, dNot_ap, dIf_ap, mOp_ap, aNil_ap, aV_ap, aIo_ap, dTup_ap, mLst_ap, qNil_ap, qC_ap, dCall_ap, mCall_ap, lNone_ap, lSome_ap, dSlT_ap, mSlL_ap, dFld_ap, gNm_ap, gsNil_ap, gsC_ap, gTp_ap, gIx_ap, sNx_ap, sSeq_ap, sEx_ap, sAsg_ap, sSetO_ap, sRet_ap, sRetO_ap, sRetNm_ap, sRetN_ap, sIf_ap, sNever_ap, sBk_ap, sCt_ap, gSet2_ap, gSet3_ap, sPar_ap, iL_ap, iT_ap, iR1_ap, iR2_ap, iEnL_ap, iEnT_ap, iZp_ap, iA_ap, iEnA_ap, mFn_ap, mFnT_ap, mMt_ap, mFnK_ap, mMk_ap, sFldSet_ap, mPr_ap, dChain_ap, dMl_ap, mRg1_ap, mRg2_ap, mV_ap, sParO_ap, mSortU_ap, putN, putP, rdAll, AV.pvs, oFld.eq_1, oFld.eq_2, lookP, callF, takeA, putA, okObj.eq_1, okObj.eq_2, isOf.eq_1, isOf.eq_2, PV.items.eq_1, PV.items.eq_2, PV.items.eq_3, PV.items.eq_4, dMt, PV.isLst.eq_1, PV.isLst.eq_2, S.set, MV.frz.eq_1, MV.frz.eq_2, MV.frz.eq_3, MV.frz.eq_4, heldM.eq_1, heldM.eq_2, valM.eq_1, valM.eq_2, finM, valsM, ofStr_beq, ofStr_eq, bIsi, bIsiT, PV.kind.eq_1, PV.kind.eq_2, PV.kind.eq_3, PV.kind.eq_4, PV.kind.eq_5, PV.kind.eq_6, PV.kind.eq_7, PV.kind.eq_8, isiB, BT.nm, PV.tys.eq_1, PV.tys.eq_2, PV.tys.eq_3, bLen.eq_1, bLen.eq_2, bLen.eq_3, bLen.eq_4, bLen.eq_5, bAbs.eq_1, bAbs.eq_2, bMax2.eq_1, bMax2.eq_2, bMin2.eq_1, bMin2.eq_2, bDivmod.eq_1, bDivmod.eq_2, divOk, bInt.eq_1, bInt.eq_2, bInt.eq_3, bList.eq_1, bList.eq_2, bTuple.eq_1, bTuple.eq_2, bTuple.eq_3, bAll.eq_1, bAll.eq_2, bAny.eq_1, bAny.eq_2, bls_bools, ints_ints, oEq, oNe, oIn, oNotIn, oInF, oNotInF, oIs, oIsNot, isNonP.eq_1, isNonP.eq_2, eqP_int, eqP_bl, eqP_tup, eqP_lst, inP_ints, inF_tup, inF_lst, oAdd, oSub, oMul, mulOk, oFdiv, oMod, oPow, powOk, oLt, oLe, oGt, oGe, uNeg, lExtend, lPop, lPopAt, lReverse, lIndex_ints, rgOk, valAt, S.wipe, wipeE, S.rest, restE, oI_c, oIc_c, lAppend_c, mkOut_c, oIxA_c, rngP_0, atI_0, atI_1, ixN_ok, bls_map, -List.map_map, all_tt, enP_ints, inF_items, turn_ap, lcT_ap, tTrue_ap, Option.bind_assoc, Option.map_bind]
    · simp (config := { decide := false }) [dVal_ap, dC_ap, pLate_ap, dFrz_ap, pNow_ap, dOp_ap, dUn_ap, tCmp_ap, tOf_ap, tAnd_ap, tOr_ap, tNot_ap, dAnd_ap, dOr_ap, dNot_ap, dIf_ap, mOp_ap, aNil_ap, aV_ap, aIo_ap, dTup_ap, mLst_ap, qNil_ap, qC_ap, dCall_ap, mCall_ap, lNone_ap, lSome_ap, dSlT_ap, mSlL_ap, dFld_ap, gNm_ap, gsNil_ap, gsC_ap, gTp_ap, gIx_ap, sNx_ap, sSeq_ap, sEx_ap, sAsg_ap, sSetO_ap, sRet_ap, sRetO_ap, sRetNm_ap, sRetN_ap, sIf_ap, sNever_ap, sBk_ap, sCt_ap, gSet2_ap, gSet3_ap, sPar_ap, iL_ap, iT_ap, iR1_ap, iR2_ap, iEnL_ap, iEnT_ap, iZp_ap, iA_ap, iEnA_ap, mFn_ap, mFnT_ap, mMt_ap, mFnK_ap, mMk_ap, sFldSet_ap, mPr_ap, dChain_ap, dMl_ap, mRg1_ap, mRg2_ap, mV_ap, sParO_ap, mSortU_ap, putN, putP, rdAll, AV.pvs, oFld.eq_1, oFld.eq_2, lookP, callF, takeA, putA, okObj.eq_1, okObj.eq_2, isOf.eq_1, isOf.eq_2, PV.items.eq_1, PV.items.eq_2, PV.items.eq_3, PV.items.eq_4, dMt, PV.isLst.eq_1, PV.isLst.eq_2, S.set, MV.frz.eq_1, MV.frz.eq_2, MV.frz.eq_3, MV.frz.eq_4, heldM.eq_1, heldM.eq_2, valM.eq_1, valM.eq_2, finM, valsM, ofStr_beq, ofStr_eq, bIsi, bIsiT, PV.kind.eq_1, PV.kind.eq_2, PV.kind.eq_3, PV.kind.eq_4, PV.kind.eq_5, PV.kind.eq_6, PV.kind.eq_7, PV.kind.eq_8, isiB, BT.nm, PV.tys.eq_1, PV.tys.eq_2, PV.tys.eq_3, bLen.eq_1, bLen.eq_2, bLen.eq_3, bLen.eq_4, bLen.eq_5, bAbs.eq_1, bAbs.eq_2, bMax2.eq_1, bMax2.eq_2, bMin2.eq_1, bMin2.eq_2, bDivmod.eq_1, bDivmod.eq_2, divOk, bInt.eq_1, bInt.eq_2, bInt.eq_3, bList.eq_1, bList.eq_2, bTuple.eq_1, bTuple.eq_2, bTuple.eq_3, bAll.eq_1, bAll.eq_2, bAny.eq_1, bAny.eq_2, bls_bools, ints_ints, oEq, oNe, oIn, oNotIn, oInF, oNotInF, oIs, oIsNot, isNonP.eq_1, isNonP.eq_2, eqP_int, eqP_bl, eqP_tup, eqP_lst, inP_ints, inF_tup, inF_lst, oAdd, oSub, oMul, mulOk, oFdiv, oMod, oPow, powOk, oLt, oLe, oGt, oGe, uNeg, lExtend, lPop, lPopAt, lReverse, lIndex_ints, rgOk, valAt, S.wipe, wipeE, S.rest, restE, oI_c, oIc_c, lAppend_c, mkOut_c, oIxA_c, rngP_0, atI_0, atI_1, ixN_ok, bls_map, -List.map_map, all_tt, enP_ints, inF_items, turn_ap, lcT_ap, tTrue_ap, Option.bind_assoc, Option.map_bind]
    · have := firsts_len (cs := cs)
      omega
    · intro f hf
      have h3 := firsts_in hf
      simp (config := { decide := false }) [dVal_ap, dC_ap, pLate_ap, dFrz_ap, pNow_ap, dOp_ap, dUn_ap, tCmp_ap, tOf_ap, tAnd_ap, tOr_ap, tNot_ap, dAnd_ap, dOr_ap, dNot_ap, dIf_ap, mOp_ap, aNil_ap, aV_ap, aIo_ap, dTup_ap, mLst_ap, qNil_ap, qC_ap, dCall_ap, mCall_ap, lNone_ap, lSome_ap, dSlT_ap, mSlL_ap, dFld_ap, gNm_ap, gsNil_ap, gsC_ap, gTp_ap, gIx_ap, sNx_ap, sSeq_ap, sEx_ap, sAsg_ap, sSetO_ap, sRet_ap, sRetO_ap, sRetNm_ap, sRetN_ap, sIf_ap, sNever_ap, sBk_ap, sCt_ap, gSet2_ap, gSet3_ap, sPar_ap, iL_ap, iT_ap, iR1_ap, iR2_ap, iEnL_ap, iEnT_ap, iZp_ap, iA_ap, iEnA_ap, mFn_ap, mFnT_ap, mMt_ap, mFnK_ap, mMk_ap, sFldSet_ap, mPr_ap, dChain_ap, dMl_ap, mRg1_ap, mRg2_ap, mV_ap, sParO_ap, mSortU_ap, putN, putP, rdAll, AV.pvs, oFld.eq_1, oFld.eq_2, lookP, callF, takeA, putA, okObj.eq_1, okObj.eq_2, isOf.eq_1, isOf.eq_2, PV.items.eq_1, PV.items.eq_2, PV.items.eq_3, PV.items.eq_4, dMt, PV.isLst.eq_1, PV.isLst.eq_2, S.set, MV.frz.eq_1, MV.frz.eq_2, MV.frz.eq_3, MV.frz.eq_4, heldM.eq_1, heldM.eq_2, valM.eq_1, valM.eq_2, finM, valsM, ofStr_beq, ofStr_eq, bIsi, bIsiT, PV.kind.eq_1, PV.kind.eq_2, PV.kind.eq_3, PV.kind.eq_4, PV.kind.eq_5, PV.kind.eq_6, PV.kind.eq_7, PV.kind.eq_8, isiB, BT.nm, PV.tys.eq_1, PV.tys.eq_2, PV.tys.eq_3, bLen.eq_1, bLen.eq_2, bLen.eq_3, bLen.eq_4, bLen.eq_5, bAbs.eq_1, bAbs.eq_2, bMax2.eq_1, bMax2.eq_2, bMin2.eq_1, bMin2.eq_2, bDivmod.eq_1, bDivmod.eq_2, divOk, bInt.eq_1, bInt.eq_2, bInt.eq_3, bList.eq_1, bList.eq_2, bTuple.eq_1, bTuple.eq_2, bTuple.eq_3, bAll.eq_1, bAll.eq_2, bAny.eq_1, bAny.eq_2, bls_bools, ints_ints, oEq, oNe, oIn, oNotIn, oInF, oNotInF, oIs, oIsNot, isNonP.eq_1, isNonP.eq_2, eqP_int, eqP_bl, eqP_tup, eqP_lst, inP_ints, inF_tup, inF_lst, oAdd, oSub, oMul, mulOk, oFdiv, oMod, oPow, powOk, oLt, oLe, oGt, oGe, uNeg, lExtend, lPop, lPopAt, lReverse, lIndex_ints, rgOk, valAt, S.wipe, wipeE, S.rest, restE, oI_c, oIc_c, lAppend_c, mkOut_c, oIxA_c, rngP_0, atI_0, atI_1, ixN_ok, bls_map, -List.map_map, all_tt, enP_ints, inF_items, turn_ap, lcT_ap, tTrue_ap, Option.bind_assoc, Option.map_bind]
      rw [lc_pick cs.zipIdx (fun b => PV.tup [.int b.2, .int b.1]) (fun b => if b.1 = gv cs f then some (.int b.2) else none) (s1 := ⟨[some (.val (Pt ca cs)), some (.val (.tup (cs.map .int))), some (.val (.lst ((firstsOf cs).map .int))), none, none, some (.val (.int f))], sto⟩)]
      · have hw : (cs.zipIdx.filterMap fun b => if b.1 = gv cs f then some (PV.int b.2) else none) = (membersOf cs (gv cs f)).map .int := by
          unfold membersOf
          rw [List.map_filterMap]
          congr 1
          funext b
          split <;> rfl
        rw [hw]
        simp (config := { decide := false }) [dVal_ap, dC_ap, pLate_ap, dFrz_ap, pNow_ap, dOp_ap, dUn_ap, tCmp_ap, tOf_ap, tAnd_ap, tOr_ap, tNot_ap, dAnd_ap, dOr_ap, dNot_ap, dIf_ap, mOp_ap, aNil_ap, aV_ap, aIo_ap, dTup_ap, mLst_ap, qNil_ap, qC_ap, dCall_ap, mCall_ap, lNone_ap, lSome_ap, dSlT_ap, mSlL_ap, dFld_ap, gNm_ap, gsNil_ap, gsC_ap, gTp_ap, gIx_ap, sNx_ap, sSeq_ap, sEx_ap, sAsg_ap, sSetO_ap, sRet_ap, sRetO_ap, sRetNm_ap, sRetN_ap, sIf_ap, sNever_ap, sBk_ap, sCt_ap, gSet2_ap, gSet3_ap, sPar_ap, iL_ap, iT_ap, iR1_ap, iR2_ap, iEnL_ap, iEnT_ap, iZp_ap, iA_ap, iEnA_ap, mFn_ap, mFnT_ap, mMt_ap, mFnK_ap, mMk_ap, sFldSet_ap, mPr_ap, dChain_ap, dMl_ap, mRg1_ap, mRg2_ap, mV_ap, sParO_ap, mSortU_ap, putN, putP, rdAll, AV.pvs, oFld.eq_1, oFld.eq_2, lookP, callF, takeA, putA, okObj.eq_1, okObj.eq_2, isOf.eq_1, isOf.eq_2, PV.items.eq_1, PV.items.eq_2, PV.items.eq_3, PV.items.eq_4, dMt, PV.isLst.eq_1, PV.isLst.eq_2, S.set, MV.frz.eq_1, MV.frz.eq_2, MV.frz.eq_3, MV.frz.eq_4, heldM.eq_1, heldM.eq_2, valM.eq_1, valM.eq_2, finM, valsM, ofStr_beq, ofStr_eq, bIsi, bIsiT, PV.kind.eq_1, PV.kind.eq_2, PV.kind.eq_3, PV.kind.eq_4, PV.kind.eq_5, PV.kind.eq_6, PV.kind.eq_7, PV.kind.eq_8, isiB, BT.nm, PV.tys.eq_1, PV.tys.eq_2, PV.tys.eq_3, bLen.eq_1, bLen.eq_2, bLen.eq_3, bLen.eq_4, bLen.eq_5, bAbs.eq_1, bAbs.eq_2, bMax2.eq_1, bMax2.eq_2, bMin2.eq_1, bMin2.eq_2, bDivmod.eq_1, bDivmod.eq_2, divOk, bInt.eq_1, bInt.eq_2, bInt.eq_3, bList.eq_1, bList.eq_2, bTuple.eq_1, bTuple.eq_2, bTuple.eq_3, bAll.eq_1, bAll.eq_2, bAny.eq_1, bAny.eq_2, bls_bools, ints_ints, oEq, oNe, oIn, oNotIn, oInF, oNotInF, oIs, oIsNot, isNonP.eq_1, isNonP.eq_2, eqP_int, eqP_bl, eqP_tup, eqP_lst, inP_ints, inF_tup, inF_lst, oAdd, oSub, oMul, mulOk, oFdiv, oMod, oPow, powOk, oLt, oLe, oGt, oGe, uNeg, lExtend, lPop, lPopAt, lReverse, lIndex_ints, rgOk, valAt, S.wipe, wipeE, S.rest, restE, oI_c, oIc_c, lAppend_c, mkOut_c, oIxA_c, rngP_0, atI_0, atI_1, ixN_ok, bls_map, -List.map_map, all_tt, enP_ints, inF_items, turn_ap, lcT_ap, tTrue_ap, Option.bind_assoc, Option.map_bind]
      · simp (config := { decide := false }) [dVal_ap, dC_ap, pLate_ap, dFrz_ap, pNow_ap, dOp_ap, dUn_ap, tCmp_ap, tOf_ap, tAnd_ap, tOr_ap, tNot_ap, dAnd_ap, dOr_ap, dNot_ap, dIf_ap, mOp_ap, aNil_ap, aV_ap, aIo_ap, dTup_ap, mLst_ap, qNil_ap, qC_ap, dCall_ap, mCall_ap, lNone_ap, lSome_ap, dSlT_ap, mSlL_ap, dFld_ap, gNm_ap, gsNil_ap, gsC_ap, gTp_ap, gIx_ap, sNx_ap, sSeq_ap, sEx_ap, sAsg_ap, sSetO_ap, sRet_ap, sRetO_ap, sRetNm_ap, sRetN_ap, sIf_ap, sNever_ap, sBk_ap, sCt_ap, gSet2_ap, gSet3_ap, sPar_ap, iL_ap, iT_ap, iR1_ap, iR2_ap, iEnL_ap, iEnT_ap, iZp_ap, iA_ap, iEnA_ap, mFn_ap, mFnT_ap, mMt_ap, mFnK_ap, mMk_ap, sFldSet_ap, mPr_ap, dChain_ap, dMl_ap, mRg1_ap, mRg2_ap, mV_ap, sParO_ap, mSortU_ap, putN, putP, rdAll, AV.pvs, oFld.eq_1, oFld.eq_2, lookP, callF, takeA, putA, okObj.eq_1, okObj.eq_2, isOf.eq_1, isOf.eq_2, PV.items.eq_1, PV.items.eq_2, PV.items.eq_3, PV.items.eq_4, dMt, PV.isLst.eq_1, PV.isLst.eq_2, S.set, MV.frz.eq_1, MV.frz.eq_2, MV.frz.eq_3, MV.frz.eq_4, heldM.eq_1, heldM.eq_2, valM.eq_1, valM.eq_2, finM, valsM, ofStr_beq, ofStr_eq, bIsi, bIsiT, PV.kind.eq_1, PV.kind.eq_2, PV.kind.eq_3, PV.kind.eq_4, PV.kind.eq_5, PV.kind.eq_6, PV.kind.eq_7, PV.kind.eq_8, isiB, BT.nm, PV.tys.eq_1, PV.tys.eq_2, PV.tys.eq_3, bLen.eq_1, bLen.eq_2, bLen.eq_3, bLen.eq_4, bLen.eq_5, bAbs.eq_1, bAbs.eq_2, bMax2.eq_1, bMax2.eq_2, bMin2.eq_1, bMin2.eq_2, bDivmod.eq_1, bDivmod.eq_2, divOk, bInt.eq_1, bInt.eq_2, bInt.eq_3, bList.eq_1, bList.eq_2, bTuple.eq_1, bTuple.eq_2, bTuple.eq_3, bAll.eq_1, bAll.eq_2, bAny.eq_1, bAny.eq_2, bls_bools, ints_ints, oEq, oNe, oIn, oNotIn, oInF, oNotInF, oIs, oIsNot, isNonP.eq_1, isNonP.eq_2, eqP_int, eqP_bl, eqP_tup, eqP_lst, inP_ints, inF_tup, inF_lst, oAdd, oSub, oMul, mulOk, oFdiv, oMod, oPow, powOk, oLt, oLe, oGt, oGe, uNeg, lExtend, lPop, lPopAt, lReverse, lIndex_ints, rgOk, valAt, S.wipe, wipeE, S.rest, restE, oI_c, oIc_c, lAppend_c, mkOut_c, oIxA_c, rngP_0, atI_0, atI_1, ixN_ok, bls_map, -List.map_map, all_tt, enP_ints, inF_items, turn_ap, lcT_ap, tTrue_ap, Option.bind_assoc, Option.map_bind]
      · simp (config := { decide := false }) [dVal_ap, dC_ap, pLate_ap, dFrz_ap, pNow_ap, dOp_ap, dUn_ap, tCmp_ap, tOf_ap, tAnd_ap, tOr_ap, tNot_ap, dAnd_ap, dOr_ap, dNot_ap, dIf_ap, mOp_ap, aNil_ap, aV_ap, aIo_ap, dTup_ap, mLst_ap, qNil_ap, qC_ap, dCall_ap, mCall_ap, lNone_ap, lSome_ap, dSlT_ap, mSlL_ap, dFld_ap, gNm_ap, gsNil_ap, gsC_ap, gTp_ap, gIx_ap, sNx_ap, sSeq_ap, sEx_ap, sAsg_ap, sSetO_ap, sRet_ap, sRetO_ap, sRetNm_ap, sRetN_ap, sIf_ap, sNever_ap, sBk_ap, sCt_ap, gSet2_ap, gSet3_ap, sPar_ap, iL_ap, iT_ap, iR1_ap, iR2_ap, iEnL_ap, iEnT_ap, iZp_ap, iA_ap, iEnA_ap, mFn_ap, mFnT_ap, mMt_ap, mFnK_ap, mMk_ap, sFldSet_ap, mPr_ap, dChain_ap, dMl_ap, mRg1_ap, mRg2_ap, mV_ap, sParO_ap, mSortU_ap, putN, putP, rdAll, AV.pvs, oFld.eq_1, oFld.eq_2, lookP, callF, takeA, putA, okObj.eq_1, okObj.eq_2, isOf.eq_1, isOf.eq_2, PV.items.eq_1, PV.items.eq_2, PV.items.eq_3, PV.items.eq_4, dMt, PV.isLst.eq_1, PV.isLst.eq_2, S.set, MV.frz.eq_1, MV.frz.eq_2, MV.frz.eq_3, MV.frz.eq_4, heldM.eq_1, heldM.eq_2, valM.eq_1, valM.eq_2, finM, valsM, ofStr_beq, ofStr_eq, bIsi, bIsiT, PV.kind.eq_1, PV.kind.eq_2, PV.kind.eq_3, PV.kind.eq_4, PV.kind.eq_5, PV.kind.eq_6, PV.kind.eq_7, PV.kind.eq_8, isiB, BT.nm, PV.tys.eq_1, PV.tys.eq_2, PV.tys.eq_3, bLen.eq_1, bLen.eq_2, bLen.eq_3, bLen.eq_4, bLen.eq_5, bAbs.eq_1, bAbs.eq_2, bMax2.eq_1, bMax2.eq_2, bMin2.eq_1, bMin2.eq_2, bDivmod.eq_1, bDivmod.eq_2, divOk, bInt.eq_1, bInt.eq_2, bInt.eq_3, bList.eq_1, bList.eq_2, bTuple.eq_1, bTuple.eq_2, bTuple.eq_3, bAll.eq_1, bAll.eq_2, bAny.eq_1, bAny.eq_2, bls_bools, ints_ints, oEq, oNe, oIn, oNotIn, oInF, oNotInF, oIs, oIsNot, isNonP.eq_1, isNonP.eq_2, eqP_int, eqP_bl, eqP_tup, eqP_lst, inP_ints, inF_tup, inF_lst, oAdd, oSub, oMul, mulOk, oFdiv, oMod, oPow, powOk, oLt, oLe, oGt, oGe, uNeg, lExtend, lPop, lPopAt, lReverse, lIndex_ints, rgOk, valAt, S.wipe, wipeE, S.rest, restE, oI_c, oIc_c, lAppend_c, mkOut_c, oIxA_c, rngP_0, atI_0, atI_1, ixN_ok, bls_map, -List.map_map, all_tt, enP_ints, inF_items, turn_ap, lcT_ap, tTrue_ap, Option.bind_assoc, Option.map_bind]
      · simp
        omega
      · intro b hb
        by_cases h1 : b.1 = gv cs f <;> simp (config := { decide := false }) [dVal_ap, dC_ap, pLate_ap, dFrz_ap, pNow_ap, dOp_ap, dUn_ap, tCmp_ap, tOf_ap, tAnd_ap, tOr_ap, tNot_ap, dAnd_ap, dOr_ap, dNot_ap, dIf_ap, mOp_ap, aNil_ap, aV_ap, aIo_ap, dTup_ap, mLst_ap, qNil_ap, qC_ap, dCall_ap, mCall_ap, lNone_ap, lSome_ap, dSlT_ap, mSlL_ap, dFld_ap, gNm_ap, gsNil_ap, gsC_ap, gTp_ap, gIx_ap, sNx_ap, sSeq_ap, sEx_ap, sAsg_ap, sSetO_ap, sRet_ap, sRetO_ap, sRetNm_ap, sRetN_ap, sIf_ap, sNever_ap, sBk_ap, sCt_ap, gSet2_ap, gSet3_ap, sPar_ap, iL_ap, iT_ap, iR1_ap, iR2_ap, iEnL_ap, iEnT_ap, iZp_ap, iA_ap, iEnA_ap, mFn_ap, mFnT_ap, mMt_ap, mFnK_ap, mMk_ap, sFldSet_ap, mPr_ap, dChain_ap, dMl_ap, mRg1_ap, mRg2_ap, mV_ap, sParO_ap, mSortU_ap, putN, putP, rdAll, AV.pvs, oFld.eq_1, oFld.eq_2, lookP, callF, takeA, putA, okObj.eq_1, okObj.eq_2, isOf.eq_1, isOf.eq_2, PV.items.eq_1, PV.items.eq_2, PV.items.eq_3, PV.items.eq_4, dMt, PV.isLst.eq_1, PV.isLst.eq_2, S.set, MV.frz.eq_1, MV.frz.eq_2, MV.frz.eq_3, MV.frz.eq_4, heldM.eq_1, heldM.eq_2, valM.eq_1, valM.eq_2, finM, valsM, ofStr_beq, ofStr_eq, bIsi, bIsiT, PV.kind.eq_1, PV.kind.eq_2, PV.kind.eq_3, PV.kind.eq_4, PV.kind.eq_5, PV.kind.eq_6, PV.kind.eq_7, PV.kind.eq_8, isiB, BT.nm, PV.tys.eq_1, PV.tys.eq_2, PV.tys.eq_3, bLen.eq_1, bLen.eq_2, bLen.eq_3, bLen.eq_4, bLen.eq_5, bAbs.eq_1, bAbs.eq_2, bMax2.eq_1, bMax2.eq_2, bMin2.eq_1, bMin2.eq_2, bDivmod.eq_1, bDivmod.eq_2, divOk, bInt.eq_1, bInt.eq_2, bInt.eq_3, bList.eq_1, bList.eq_2, bTuple.eq_1, bTuple.eq_2, bTuple.eq_3, bAll.eq_1, bAll.eq_2, bAny.eq_1, bAny.eq_2, bls_bools, ints_ints, oEq, oNe, oIn, oNotIn, oInF, oNotInF, oIs, oIsNot, isNonP.eq_1, isNonP.eq_2, eqP_int, eqP_bl, eqP_tup, eqP_lst, inP_ints, inF_tup, inF_lst, oAdd, oSub, oMul, mulOk, oFdiv, oMod, oPow, powOk, oLt, oLe, oGt, oGe, uNeg, lExtend, lPop, lPopAt, lReverse, lIndex_ints, rgOk, valAt, S.wipe, wipeE, S.rest, restE, oI_c, oIc_c, lAppend_c, mkOut_c, oIxA_c, rngP_0, atI_0, atI_1, ixN_ok, bls_map, -List.map_map, all_tt, enP_ints, inF_items, turn_ap, lcT_ap, tTrue_ap, Option.bind_assoc, Option.map_bind, h1, atI_gv h3.1 h3.2]
  · simp (config := { decide := false }) [dVal_ap, dC_ap, pLate_ap, dFrz_ap, pNow_ap, dOp_ap, dUn_ap, tCmp_ap, tOf_ap, tAnd_ap, tOr_ap, tNot_ap, dAnd_ap, dOr_ap, dNot_ap, dIf_ap, mOp_ap, aNil_ap, aV_ap, aIo_ap, dTup_ap, mLst_ap, qNil_ap, qC_ap, dCall_ap, mCall_ap, lNone_ap, lSome_ap, dSlT_ap, mSlL_ap, dFld_ap, gNm_ap, gsNil_ap, gsC_ap, gTp_ap, gIx_ap, sNx_ap, sSeq_ap, sEx_ap, sAsg_ap, sSetO_ap, sRet_ap, sRetO_ap, sRetNm_ap, sRetN_ap, sIf_ap, sNever_ap, sBk_ap, sCt_ap, gSet2_ap, gSet3_ap, sPar_ap, iL_ap, iT_ap, iR1_ap, iR2_ap, iEnL_ap, iEnT_ap, iZp_ap, iA_ap, iEnA_ap, mFn_ap, mFnT_ap, mMt_ap, mFnK_ap, mMk_ap, sFldSet_ap, mPr_ap, dChain_ap, dMl_ap, mRg1_ap, mRg2_ap, mV_ap, sParO_ap, mSortU_ap, putN, putP, rdAll, AV.pvs, oFld.eq_1, oFld.eq_2, lookP, callF, takeA, putA, okObj.eq_1, okObj.eq_2, isOf.eq_1, isOf.eq_2, PV.items.eq_1, PV.items.eq_2, PV.items.eq_3, PV.items.eq_4, dMt, PV.isLst.eq_1, PV.isLst.eq_2, S.set, MV.frz.eq_1, MV.frz.eq_2, MV.frz.eq_3, MV.frz.eq_4, heldM.eq_1, heldM.eq_2, valM.eq_1, valM.eq_2, finM, valsM, ofStr_beq, ofStr_eq, bIsi, bIsiT, PV.kind.eq_1, PV.kind.eq_2, PV.kind.eq_3, PV.kind.eq_4, PV.kind.eq_5, PV.kind.eq_6, PV.kind.eq_7, PV.kind.eq_8, isiB, BT.nm, PV.tys.eq_1, PV.tys.eq_2, PV.tys.eq_3, bLen.eq_1, bLen.eq_2, bLen.eq_3, bLen.eq_4, bLen.eq_5, bAbs.eq_1, bAbs.eq_2, bMax2.eq_1, bMax2.eq_2, bMin2.eq_1, bMin2.eq_2, bDivmod.eq_1, bDivmod.eq_2, divOk, bInt.eq_1, bInt.eq_2, bInt.eq_3, bList.eq_1, bList.eq_2, bTuple.eq_1, bTuple.eq_2, bTuple.eq_3, bAll.eq_1, bAll.eq_2, bAny.eq_1, bAny.eq_2, bls_bools, ints_ints, oEq, oNe, oIn, oNotIn, oInF, oNotInF, oIs, oIsNot, isNonP.eq_1, isNonP.eq_2, eqP_int, eqP_bl, eqP_tup, eqP_lst, inP_ints, inF_tup, inF_lst, oAdd, oSub, oMul, mulOk, oFdiv, oMod, oPow, powOk, oLt, oLe, oGt, oGe, uNeg, lExtend, lPop, lPopAt, lReverse, lIndex_ints, rgOk, valAt, S.wipe, wipeE, S.rest, restE, oI_c, oIc_c, lAppend_c, mkOut_c, oIxA_c, rngP_0, atI_0, atI_1, ixN_ok, bls_map, -List.map_map, all_tt, enP_ints, inF_items, turn_ap, lcT_ap, tTrue_ap, Option.bind_assoc, Option.map_bind]
  · simp (config := { decide := false }) [dVal_ap, dC_ap, pLate_ap, dFrz_ap, pNow_ap, dOp_ap, dUn_ap, tCmp_ap, tOf_ap, tAnd_ap, tOr_ap, tNot_ap, dAnd_ap, dOr_ap, dNot_ap, dIf_ap, mOp_ap, aNil_ap, aV_ap, aIo_ap, dTup_ap, mLst_ap, qNil_ap, qC_ap, dCall_ap, mCall_ap, lNone_ap, lSome_ap, dSlT_ap, mSlL_ap, dFld_ap, gNm_ap, gsNil_ap, gsC_ap, gTp_ap, gIx_ap, sNx_ap, sSeq_ap, sEx_ap, sAsg_ap, sSetO_ap, sRet_ap, sRetO_ap, sRetNm_ap, sRetN_ap, sIf_ap, sNever_ap, sBk_ap, sCt_ap, gSet2_ap, gSet3_ap, sPar_ap, iL_ap, iT_ap, iR1_ap, iR2_ap, iEnL_ap, iEnT_ap, iZp_ap, iA_ap, iEnA_ap, mFn_ap, mFnT_ap, mMt_ap, mFnK_ap, mMk_ap, sFldSet_ap, mPr_ap, dChain_ap, dMl_ap, mRg1_ap, mRg2_ap, mV_ap, sParO_ap, mSortU_ap, putN, putP, rdAll, AV.pvs, oFld.eq_1, oFld.eq_2, lookP, callF, takeA, putA, okObj.eq_1, okObj.eq_2, isOf.eq_1, isOf.eq_2, PV.items.eq_1, PV.items.eq_2, PV.items.eq_3, PV.items.eq_4, dMt, PV.isLst.eq_1, PV.isLst.eq_2, S.set, MV.frz.eq_1, MV.frz.eq_2, MV.frz.eq_3, MV.frz.eq_4, heldM.eq_1, heldM.eq_2, valM.eq_1, valM.eq_2, finM, valsM, ofStr_beq, ofStr_eq, bIsi, bIsiT, PV.kind.eq_1, PV.kind.eq_2, PV.kind.eq_3, PV.kind.eq_4, PV.kind.eq_5, PV.kind.eq_6, PV.kind.eq_7, PV.kind.eq_8, isiB, BT.nm, PV.tys.eq_1, PV.tys.eq_2, PV.tys.eq_3, bLen.eq_1, bLen.eq_2, bLen.eq_3, bLen.eq_4, bLen.eq_5, bAbs.eq_1, bAbs.eq_2, bMax2.eq_1, bMax2.eq_2, bMin2.eq_1, bMin2.eq_2, bDivmod.eq_1, bDivmod.eq_2, divOk, bInt.eq_1, bInt.eq_2, bInt.eq_3, bList.eq_1, bList.eq_2, bTuple.eq_1, bTuple.eq_2, bTuple.eq_3, bAll.eq_1, bAll.eq_2, bAny.eq_1, bAny.eq_2, bls_bools, ints_ints, oEq, oNe, oIn, oNotIn, oInF, oNotInF, oIs, oIsNot, isNonP.eq_1, isNonP.eq_2, eqP_int, eqP_bl, eqP_tup, eqP_lst, inP_ints, inF_tup, inF_lst, oAdd, oSub, oMul, mulOk, oFdiv, oMod, oPow, powOk, oLt, oLe, oGt, oGe, uNeg, lExtend, lPop, lPopAt, lReverse, lIndex_ints, rgOk, valAt, S.wipe, wipeE, S.rest, restE, oI_c, oIc_c, lAppend_c, mkOut_c, oIxA_c, rngP_0, atI_0, atI_1, ixN_ok, bls_map, -List.map_map, all_tt, enP_ints, inF_items, turn_ap, lcT_ap, tTrue_ap, Option.bind_assoc, Option.map_bind]
  · simp
    omega
  · intro b hb
    have := List.snd_lt_of_mem_zipIdx hb
    have e1 : HT.sIx cs.length cs.length (some (b.2 : Int)) = b.2 := by
      rw [HT.sIx_nat]
      omega
    by_cases h1 : b.1 = -1
    · simp (config := { decide := false }) [dVal_ap, dC_ap, pLate_ap, dFrz_ap, pNow_ap, dOp_ap, dUn_ap, tCmp_ap, tOf_ap, tAnd_ap, tOr_ap, tNot_ap, dAnd_ap, dOr_ap, dNot_ap, dIf_ap, mOp_ap, aNil_ap, aV_ap, aIo_ap, dTup_ap, mLst_ap, qNil_ap, qC_ap, dCall_ap, mCall_ap, lNone_ap, lSome_ap, dSlT_ap, mSlL_ap, dFld_ap, gNm_ap, gsNil_ap, gsC_ap, gTp_ap, gIx_ap, sNx_ap, sSeq_ap, sEx_ap, sAsg_ap, sSetO_ap, sRet_ap, sRetO_ap, sRetNm_ap, sRetN_ap, sIf_ap, sNever_ap, sBk_ap, sCt_ap, gSet2_ap, gSet3_ap, sPar_ap, iL_ap, iT_ap, iR1_ap, iR2_ap, iEnL_ap, iEnT_ap, iZp_ap, iA_ap, iEnA_ap, mFn_ap, mFnT_ap, mMt_ap, mFnK_ap, mMk_ap, sFldSet_ap, mPr_ap, dChain_ap, dMl_ap, mRg1_ap, mRg2_ap, mV_ap, sParO_ap, mSortU_ap, putN, putP, rdAll, AV.pvs, oFld.eq_1, oFld.eq_2, lookP, callF, takeA, putA, okObj.eq_1, okObj.eq_2, isOf.eq_1, isOf.eq_2, PV.items.eq_1, PV.items.eq_2, PV.items.eq_3, PV.items.eq_4, dMt, PV.isLst.eq_1, PV.isLst.eq_2, S.set, MV.frz.eq_1, MV.frz.eq_2, MV.frz.eq_3, MV.frz.eq_4, heldM.eq_1, heldM.eq_2, valM.eq_1, valM.eq_2, finM, valsM, ofStr_beq, ofStr_eq, bIsi, bIsiT, PV.kind.eq_1, PV.kind.eq_2, PV.kind.eq_3, PV.kind.eq_4, PV.kind.eq_5, PV.kind.eq_6, PV.kind.eq_7, PV.kind.eq_8, isiB, BT.nm, PV.tys.eq_1, PV.tys.eq_2, PV.tys.eq_3, bLen.eq_1, bLen.eq_2, bLen.eq_3, bLen.eq_4, bLen.eq_5, bAbs.eq_1, bAbs.eq_2, bMax2.eq_1, bMax2.eq_2, bMin2.eq_1, bMin2.eq_2, bDivmod.eq_1, bDivmod.eq_2, divOk, bInt.eq_1, bInt.eq_2, bInt.eq_3, bList.eq_1, bList.eq_2, bTuple.eq_1, bTuple.eq_2, bTuple.eq_3, bAll.eq_1, bAll.eq_2, bAny.eq_1, bAny.eq_2, bls_bools, ints_ints, oEq, oNe, oIn, oNotIn, oInF, oNotInF, oIs, oIsNot, isNonP.eq_1, isNonP.eq_2, eqP_int, eqP_bl, eqP_tup, eqP_lst, inP_ints, inF_tup, inF_lst, oAdd, oSub, oMul, mulOk, oFdiv, oMod, oPow, powOk, oLt, oLe, oGt, oGe, uNeg, lExtend, lPop, lPopAt, lReverse, lIndex_ints, rgOk, valAt, S.wipe, wipeE, S.rest, restE, oI_c, oIc_c, lAppend_c, mkOut_c, oIxA_c, rngP_0, atI_0, atI_1, ixN_ok, bls_map, -List.map_map, all_tt, enP_ints, inF_items, turn_ap, lcT_ap, tTrue_ap, Option.bind_assoc, Option.map_bind, h1]
    · have h2 : inF (.int b.1) (.tup ((cs.map PV.int).take b.2)) = some (decide (b.1 ∈ cs.take b.2)) := by
        rw [← List.map_take]
        exact inF_tup
      by_cases h3 : b.1 ∈ cs.take b.2 <;> simp (config := { decide := false }) [dVal_ap, dC_ap, pLate_ap, dFrz_ap, pNow_ap, dOp_ap, dUn_ap, tCmp_ap, tOf_ap, tAnd_ap, tOr_ap, tNot_ap, dAnd_ap, dOr_ap, dNot_ap, dIf_ap, mOp_ap, aNil_ap, aV_ap, aIo_ap, dTup_ap, mLst_ap, qNil_ap, qC_ap, dCall_ap, mCall_ap, lNone_ap, lSome_ap, dSlT_ap, mSlL_ap, dFld_ap, gNm_ap, gsNil_ap, gsC_ap, gTp_ap, gIx_ap, sNx_ap, sSeq_ap, sEx_ap, sAsg_ap, sSetO_ap, sRet_ap, sRetO_ap, sRetNm_ap, sRetN_ap, sIf_ap, sNever_ap, sBk_ap, sCt_ap, gSet2_ap, gSet3_ap, sPar_ap, iL_ap, iT_ap, iR1_ap, iR2_ap, iEnL_ap, iEnT_ap, iZp_ap, iA_ap, iEnA_ap, mFn_ap, mFnT_ap, mMt_ap, mFnK_ap, mMk_ap, sFldSet_ap, mPr_ap, dChain_ap, dMl_ap, mRg1_ap, mRg2_ap, mV_ap, sParO_ap, mSortU_ap, putN, putP, rdAll, AV.pvs, oFld.eq_1, oFld.eq_2, lookP, callF, takeA, putA, okObj.eq_1, okObj.eq_2, isOf.eq_1, isOf.eq_2, PV.items.eq_1, PV.items.eq_2, PV.items.eq_3, PV.items.eq_4, dMt, PV.isLst.eq_1, PV.isLst.eq_2, S.set, MV.frz.eq_1, MV.frz.eq_2, MV.frz.eq_3, MV.frz.eq_4, heldM.eq_1, heldM.eq_2, valM.eq_1, valM.eq_2, finM, valsM, ofStr_beq, ofStr_eq, bIsi, bIsiT, PV.kind.eq_1, PV.kind.eq_2, PV.kind.eq_3, PV.kind.eq_4, PV.kind.eq_5, PV.kind.eq_6, PV.kind.eq_7, PV.kind.eq_8, isiB, BT.nm, PV.tys.eq_1, PV.tys.eq_2, PV.tys.eq_3, bLen.eq_1, bLen.eq_2, bLen.eq_3, bLen.eq_4, bLen.eq_5, bAbs.eq_1, bAbs.eq_2, bMax2.eq_1, bMax2.eq_2, bMin2.eq_1, bMin2.eq_2, bDivmod.eq_1, bDivmod.eq_2, divOk, bInt.eq_1, bInt.eq_2, bInt.eq_3, bList.eq_1, bList.eq_2, bTuple.eq_1, bTuple.eq_2, bTuple.eq_3, bAll.eq_1, bAll.eq_2, bAny.eq_1, bAny.eq_2, bls_bools, ints_ints, oEq, oNe, oIn, oNotIn, oInF, oNotInF, oIs, oIsNot, isNonP.eq_1, isNonP.eq_2, eqP_int, eqP_bl, eqP_tup, eqP_lst, inP_ints, inF_tup, inF_lst, oAdd, oSub, oMul, mulOk, oFdiv, oMod, oPow, powOk, oLt, oLe, oGt, oGe, uNeg, lExtend, lPop, lPopAt, lReverse, lIndex_ints, rgOk, valAt, S.wipe, wipeE, S.rest, restE, oI_c, oIc_c, lAppend_c, mkOut_c, oIxA_c, rngP_0, atI_0, atI_1, ixN_ok, bls_map, -List.map_map, all_tt, enP_ints, inF_items, turn_ap, lcT_ap, tTrue_ap, Option.bind_assoc, Option.map_bind, h1, e1, HT.sIx_none, h2, h3]
end
end K17
namespace K17
open PySem L2 GG DD Num
section
variable {ca : Nat → Addr} {sto : List MV}
def PotV (a b : Int) : Prop := 0 ≤ a ∧ 0 ≤ b ∧ b < 2147483648
@[reducible] def pot (a b : Int) : MV := .mlst [.int a, .int b]
theorem e_pot {p : PV} {ns : List Int} {k : Int} (h : p.items = some (ns.map .int)) (hl : bLen [p] = some (.int ns.length)) (h0 : 0 ≤ k) (h3 : k ≤ 3) :
    ∃ a b, PotV a b ∧ f_l_pot ca [.val p, .val (.int k)] sto = some (pot a b, [.val p, .val (.int k)], sto) := by
  have main : ∀ c : Int, PotV (if 1000000000000000000 < c then c - 1000000000000000000 else 0) ((c % 2147483549 + 19) * (2 * k + 3) ^ 3 % 2147483477 + 1) := fun c => ⟨by split <;> omega, by omega, by omega⟩
  have mA : ∀ c : Int, -18446744073709551616 < c % 2147483549 + 19 := fun c => by omega
  have mB : ∀ c : Int, c % 2147483549 + 19 < 18446744073709551616 := fun c => by omega
  have mC : (2 * k + 3).natAbs < 18446744073709551616 := by omega
  unfold f_l_pot runF b_l_pot
  by_cases hk : k < ns.length
  · have ha : atI (ns.map PV.int) k = some (.int (gv ns k)) := atI_gv h0 hk
    refine ⟨_, _, main (if gv ns k < 0 then -gv ns k else gv ns k), ?_⟩
    generalize (ns.length : Int) = n at hl hk
    simp (config := { decide := false }) [dVal_ap, dC_ap, pLate_ap, dFrz_ap, pNow_ap, dOp_ap, dUn_ap, tCmp_ap, tOf_ap, tAnd_ap, tOr_ap, tNot_ap, dAnd_ap, dOr_ap, dNot_ap, dIf_ap, mOp_ap, aNil_ap, aV_ap, aIo_ap, dTup_ap, mLst_ap, qNil_ap, qC_ap, dCall_ap, mCall_ap, lNone_ap, lSome_ap, dSlT_ap, mSlL_ap, dFld_ap, gNm_ap, gsNil_ap, gsC_ap, gTp_ap, gIx_ap, sNx_ap, sSeq_ap, sEx_ap, sAsg_ap, sSetO_ap, sRet_ap, sRetO_ap, sRetNm_ap, sRetN_ap, sIf_ap, sNever_ap, sBk_ap, sCt_ap, gSet2_ap, gSet3_ap, sPar_ap, iL_ap, iT_ap, iR1_ap, iR2_ap, iEnL_ap, iEnT_ap, iZp_ap, iA_ap, iEnA_ap, mFn_ap, mFnT_ap, mMt_ap, mFnK_ap, mMk_ap, sFldSet_ap, mPr_ap, dChain_ap, dMl_ap, mRg1_ap, mRg2_ap, mV_ap, sParO_ap, mSortU_ap, putN, putP, rdAll, AV.pvs, oFld.eq_1, oFld.eq_2, lookP, callF, takeA, putA, okObj.eq_1, okObj.eq_2, isOf.eq_1, isOf.eq_2, PV.items.eq_1, PV.items.eq_2, PV.items.eq_3, PV.items.eq_4, dMt, PV.isLst.eq_1, PV.isLst.eq_2, S.set, MV.frz.eq_1, MV.frz.eq_2, MV.frz.eq_3, MV.frz.eq_4, heldM.eq_1, heldM.eq_2, valM.eq_1, valM.eq_2, finM, valsM, ofStr_beq, ofStr_eq, bIsi, bIsiT, PV.kind.eq_1, PV.kind.eq_2, PV.kind.eq_3, PV.kind.eq_4, PV.kind.eq_5, PV.kind.eq_6, PV.kind.eq_7, PV.kind.eq_8, isiB, BT.nm, PV.tys.eq_1, PV.tys.eq_2, PV.tys.eq_3, bLen.eq_1, bLen.eq_2, bLen.eq_3, bLen.eq_4, bLen.eq_5, bAbs.eq_1, bAbs.eq_2, bMax2.eq_1, bMax2.eq_2, bMin2.eq_1, bMin2.eq_2, bDivmod.eq_1, bDivmod.eq_2, divOk, bInt.eq_1, bInt.eq_2, bInt.eq_3, bList.eq_1, bList.eq_2, bTuple.eq_1, bTuple.eq_2, bTuple.eq_3, bAll.eq_1, bAll.eq_2, bAny.eq_1, bAny.eq_2, bls_bools, ints_ints, oEq, oNe, oIn, oNotIn, oInF, oNotInF, oIs, oIsNot, isNonP.eq_1, isNonP.eq_2, eqP_int, eqP_bl, eqP_tup, eqP_lst, inP_ints, inF_tup, inF_lst, oAdd, oSub, oMul, mulOk, oFdiv, oMod, oPow, powOk, oLt, oLe, oGt, oGe, uNeg, lExtend, lPop, lPopAt, lReverse, lIndex_ints, rgOk, valAt, S.wipe, wipeE, S.rest, restE, oI_c, oIc_c, lAppend_c, mkOut_c, oIxA_c, rngP_0, atI_0, atI_1, ixN_ok, bls_map, -List.map_map, all_tt, enP_ints, inF_items, turn_ap, lcT_ap, tTrue_ap, Option.bind_assoc, Option.map_bind, h, hk, hl, ha, mA, mB, mC]
  · refine ⟨_, _, main (41 * k + 9), ?_⟩
    generalize (ns.length : Int) = n at hl hk
    simp (config := { decide := false }) [dVal_ap, dC_ap, pLate_ap, dFrz_ap, pNow_ap, dOp_ap, dUn_ap, tCmp_ap, tOf_ap, tAnd_ap, tOr_ap, tNot_ap, dAnd_ap, dOr_ap, dNot_ap, dIf_ap, mOp_ap, aNil_ap, aV_ap, aIo_ap, dTup_ap, mLst_ap, qNil_ap, qC_ap, dCall_ap, mCall_ap, lNone_ap, lSome_ap, dSlT_ap, mSlL_ap, dFld_ap, gNm_ap, gsNil_ap, gsC_ap, gTp_ap, gIx_ap, sNx_ap, sSeq_ap, sEx_ap, sAsg_ap, sSetO_ap, sRet_ap, sRetO_ap, sRetNm_ap, sRetN_ap, sIf_ap, sNever_ap, sBk_ap, sCt_ap, gSet2_ap, gSet3_ap, sPar_ap, iL_ap, iT_ap, iR1_ap, iR2_ap, iEnL_ap, iEnT_ap, iZp_ap, iA_ap, iEnA_ap, mFn_ap, mFnT_ap, mMt_ap, mFnK_ap, mMk_ap, sFldSet_ap, mPr_ap, dChain_ap, dMl_ap, mRg1_ap, mRg2_ap, mV_ap, sParO_ap, mSortU_ap, putN, putP, rdAll, AV.pvs, oFld.eq_1, oFld.eq_2, lookP, callF, takeA, putA, okObj.eq_1, okObj.eq_2, isOf.eq_1, isOf.eq_2, PV.items.eq_1, PV.items.eq_2, PV.items.eq_3, PV.items.eq_4, dMt, PV.isLst.eq_1, PV.isLst.eq_2, S.set, MV.frz.eq_1, MV.frz.eq_2, MV.frz.eq_3, MV.frz.eq_4, heldM.eq_1, heldM.eq_2, valM.eq_1, valM.eq_2, finM, valsM, ofStr_beq, ofStr_eq, bIsi, bIsiT, PV.kind.eq_1, PV.kind.eq_2, PV.kind.eq_3, PV.kind.eq_4, PV.kind.eq_5, PV.kind.eq_6, PV.kind.eq_7, PV.kind.eq_8, isiB, BT.nm, PV.tys.eq_1, PV.tys.eq_2, PV.tys.eq_3, bLen.eq_1, bLen.eq_2, bLen.eq_3, bLen.eq_4, bLen.eq_5, bAbs.eq_1, bAbs.eq_2, bMax2.eq_1, bMax2.eq_2, bMin2.eq_1, bMin2.eq_2, bDivmod.eq_1, bDivmod.eq_2, divOk, bInt.eq_1, bInt.eq_2, bInt.eq_3, bList.eq_1, bList.eq_2, bTuple.eq_1, bTuple.eq_2, bTuple.eq_3, bAll.eq_1, bAll.eq_2, bAny.eq_1, bAny.eq_2, bls_bools, ints_ints, oEq, oNe, oIn, oNotIn, oInF, oNotInF, oIs, oIsNot, isNonP.eq_1, isNonP.eq_2, eqP_int, eqP_bl, eqP_tup, eqP_lst, inP_ints, inF_tup, inF_lst, oAdd, oSub, oMul, mulOk, oFdiv, oMod, oPow, powOk, oLt, oLe, oGt, oGe, uNeg, lExtend, lPop, lPopAt, lReverse, lIndex_ints, rgOk, valAt, S.wipe, wipeE, S.rest, restE, oI_c, oIc_c, lAppend_c, mkOut_c, oIxA_c, rngP_0, atI_0, atI_1, ixN_ok, bls_map, -List.map_map, all_tt, enP_ints, inF_items, turn_ap, lcT_ap, tTrue_ap, Option.bind_assoc, Option.map_bind, h, hk, hl, mA, mB, mC]
theorem e_draw {a b n : Int} (h : PotV a b) (n0 : 0 < n) (n1 : n ≤ 1000000) :
    ∃ a' b' d, PotV a' b' ∧ 0 ≤ d ∧ d < n ∧ f_l_draw ca [pot a b, .val (.int n)] sto = some (.val (.int d), [pot a' b', .val (.int n)], sto) := by
  obtain ⟨ha, hb, hc⟩ := h
  have n2 : n < 1073741824 := by omega
  by_cases h0 : 0 < a
  · refine ⟨a / n, b, a % n, ⟨Int.ediv_nonneg ha (by omega), hb, hc⟩, Int.emod_nonneg _ (by omega), Int.emod_lt_of_pos _ n0, ?_⟩
    unfold f_l_draw runF b_l_draw
    simp (config := { decide := false }) [dVal_ap, dC_ap, pLate_ap, dFrz_ap, pNow_ap, dOp_ap, dUn_ap, tCmp_ap, tOf_ap, tAnd_ap, tOr_ap, tNot_ap, dAnd_ap, dOr_ap, dNot_ap, dIf_ap, mOp_ap, aNil_ap, aV_ap, aIo_ap, dTup_ap, mLst_ap, qNil_ap, qC_ap, dCall_ap, mCall_ap, lNone_ap, lSome_ap, dSlT_ap, mSlL_ap, dFld_ap, gNm_ap, gsNil_ap, gsC_ap, gTp_ap, gIx_ap, sNx_ap, sSeq_ap, sEx_ap, sAsg_ap, sSetO_ap, sRet_ap, sRetO_ap, sRetNm_ap, sRetN_ap, sIf_ap, sNever_ap, sBk_ap, sCt_ap, gSet2_ap, gSet3_ap, sPar_ap, iL_ap, iT_ap, iR1_ap, iR2_ap, iEnL_ap, iEnT_ap, iZp_ap, iA_ap, iEnA_ap, mFn_ap, mFnT_ap, mMt_ap, mFnK_ap, mMk_ap, sFldSet_ap, mPr_ap, dChain_ap, dMl_ap, mRg1_ap, mRg2_ap, mV_ap, sParO_ap, mSortU_ap, putN, putP, rdAll, AV.pvs, oFld.eq_1, oFld.eq_2, lookP, callF, takeA, putA, okObj.eq_1, okObj.eq_2, isOf.eq_1, isOf.eq_2, PV.items.eq_1, PV.items.eq_2, PV.items.eq_3, PV.items.eq_4, dMt, PV.isLst.eq_1, PV.isLst.eq_2, S.set, MV.frz.eq_1, MV.frz.eq_2, MV.frz.eq_3, MV.frz.eq_4, heldM.eq_1, heldM.eq_2, valM.eq_1, valM.eq_2, finM, valsM, ofStr_beq, ofStr_eq, bIsi, bIsiT, PV.kind.eq_1, PV.kind.eq_2, PV.kind.eq_3, PV.kind.eq_4, PV.kind.eq_5, PV.kind.eq_6, PV.kind.eq_7, PV.kind.eq_8, isiB, BT.nm, PV.tys.eq_1, PV.tys.eq_2, PV.tys.eq_3, bLen.eq_1, bLen.eq_2, bLen.eq_3, bLen.eq_4, bLen.eq_5, bAbs.eq_1, bAbs.eq_2, bMax2.eq_1, bMax2.eq_2, bMin2.eq_1, bMin2.eq_2, bDivmod.eq_1, bDivmod.eq_2, divOk, bInt.eq_1, bInt.eq_2, bInt.eq_3, bList.eq_1, bList.eq_2, bTuple.eq_1, bTuple.eq_2, bTuple.eq_3, bAll.eq_1, bAll.eq_2, bAny.eq_1, bAny.eq_2, bls_bools, ints_ints, oEq, oNe, oIn, oNotIn, oInF, oNotInF, oIs, oIsNot, isNonP.eq_1, isNonP.eq_2, eqP_int, eqP_bl, eqP_tup, eqP_lst, inP_ints, inF_tup, inF_lst, oAdd, oSub, oMul, mulOk, oFdiv, oMod, oPow, powOk, oLt, oLe, oGt, oGe, uNeg, lExtend, lPop, lPopAt, lReverse, lIndex_ints, rgOk, valAt, S.wipe, wipeE, S.rest, restE, oI_c, oIc_c, lAppend_c, mkOut_c, oIxA_c, rngP_0, atI_0, atI_1, ixN_ok, bls_map, -List.map_map, all_tt, enP_ints, inF_items, turn_ap, lcT_ap, tTrue_ap, Option.bind_assoc, Option.map_bind, h0, n0, n2]
  · have m0 := Int.emod_nonneg (b * 48271 + 12391) (b := 2147483587) (by decide)
    have m1 := Int.emod_lt_of_pos (b * 48271 + 12391) (b := 2147483587) (by decide)
    refine ⟨a, (b * 48271 + 12391) % 2147483587, ((((b * 48271 + 12391) % 2147483587) * ((b * 48271 + 12391) % 2147483587)) % 2147483549 / 17) % n, ⟨ha, m0, by omega⟩, Int.emod_nonneg _ (by omega), Int.emod_lt_of_pos _ n0, ?_⟩
    have m2 : -18446744073709551616 < (b * 48271 + 12391) % 2147483587 := by omega
    have m3 : (b * 48271 + 12391) % 2147483587 < 18446744073709551616 := by omega
    unfold f_l_draw runF b_l_draw
    simp (config := { decide := false }) [dVal_ap, dC_ap, pLate_ap, dFrz_ap, pNow_ap, dOp_ap, dUn_ap, tCmp_ap, tOf_ap, tAnd_ap, tOr_ap, tNot_ap, dAnd_ap, dOr_ap, dNot_ap, dIf_ap, mOp_ap, aNil_ap, aV_ap, aIo_ap, dTup_ap, mLst_ap, qNil_ap, qC_ap, dCall_ap, mCall_ap, lNone_ap, lSome_ap, dSlT_ap, mSlL_ap, dFld_ap, gNm_ap, gsNil_ap, gsC_ap, gTp_ap, gIx_ap, sNx_ap, sSeq_ap, sEx_ap, sAsg_ap, sSetO_ap, sRet_ap, sRetO_ap, sRetNm_ap, sRetN_ap, sIf_ap, sNever_ap, sBk_ap, sCt_ap, gSet2_ap, gSet3_ap, sPar_ap, iL_ap, iT_ap, iR1_ap, iR2_ap, iEnL_ap, iEnT_ap, iZp_ap, iA_ap, iEnA_ap, mFn_ap, mFnT_ap, mMt_ap, mFnK_ap, mMk_ap, sFldSet_ap, mPr_ap, dChain_ap, dMl_ap, mRg1_ap, mRg2_ap, mV_ap, sParO_ap, mSortU_ap, putN, putP, rdAll, AV.pvs, oFld.eq_1, oFld.eq_2, lookP, callF, takeA, putA, okObj.eq_1, okObj.eq_2, isOf.eq_1, isOf.eq_2, PV.items.eq_1, PV.items.eq_2, PV.items.eq_3, PV.items.eq_4, dMt, PV.isLst.eq_1, PV.isLst.eq_2, S.set, MV.frz.eq_1, MV.frz.eq_2, MV.frz.eq_3, MV.frz.eq_4, heldM.eq_1, heldM.eq_2, valM.eq_1, valM.eq_2, finM, valsM, ofStr_beq, ofStr_eq, bIsi, bIsiT, PV.kind.eq_1, PV.kind.eq_2, PV.kind.eq_3, PV.kind.eq_4, PV.kind.eq_5, PV.kind.eq_6, PV.kind.eq_7, PV.kind.eq_8, isiB, BT.nm, PV.tys.eq_1, PV.tys.eq_2, PV.tys.eq_3, bLen.eq_1, bLen.eq_2, bLen.eq_3, bLen.eq_4, bLen.eq_5, bAbs.eq_1, bAbs.eq_2, bMax2.eq_1, bMax2.eq_2, bMin2.eq_1, bMin2.eq_2, bDivmod.eq_1, bDivmod.eq_2, divOk, bInt.eq_1, bInt.eq_2, bInt.eq_3, bList.eq_1, bList.eq_2, bTuple.eq_1, bTuple.eq_2, bTuple.eq_3, bAll.eq_1, bAll.eq_2, bAny.eq_1, bAny.eq_2, bls_bools, ints_ints, oEq, oNe, oIn, oNotIn, oInF, oNotInF, oIs, oIsNot, isNonP.eq_1, isNonP.eq_2, eqP_int, eqP_bl, eqP_tup, eqP_lst, inP_ints, inF_tup, inF_lst, oAdd, oSub, oMul, mulOk, oFdiv, oMod, oPow, powOk, oLt, oLe, oGt, oGe, uNeg, lExtend, lPop, lPopAt, lReverse, lIndex_ints, rgOk, valAt, S.wipe, wipeE, S.rest, restE, oI_c, oIc_c, lAppend_c, mkOut_c, oIxA_c, rngP_0, atI_0, atI_1, ixN_ok, bls_map, -List.map_map, all_tt, enP_ints, inF_items, turn_ap, lcT_ap, tTrue_ap, Option.bind_assoc, Option.map_bind, h0, n0, n2, m2, m3]
theorem e_numbers {bs : List Int} (hl : bs.length ≤ 1000) : f_l_numbers ca [.val (.lst (bs.map .int))] sto = some (.mlst ((Num.numsOf bs).map .int), [.val (.lst (bs.map .int))], sto) := by
  unfold f_l_numbers runF b_l_numbers
  simp (config := { decide := false }) [dVal_ap, dC_ap, pLate_ap, dFrz_ap, pNow_ap, dOp_ap, dUn_ap, tCmp_ap, tOf_ap, tAnd_ap, tOr_ap, tNot_ap, dAnd_ap, dOr_ap, dNot_ap, dIf_ap, mOp_ap, aNil_ap, aV_ap, aIo_ap, dTup_ap, mLst_ap, qNil_ap, qC_ap, dCall_ap, mCall_ap, lNone_ap, lSome_ap, dSlT_ap, mSlL_ap, dFld_ap, gNm_ap, gsNil_ap, gsC_ap, gTp_ap, gIx_ap, sNx_ap, sSeq_ap, sEx_ap, sAsg_ap, sSetO_ap, sRet_ap, sRetO_ap, sRetNm_ap, sRetN_ap, sIf_ap, sNever_ap, sBk_ap, sCt_ap, gSet2_ap, gSet3_ap, sPar_ap, iL_ap, iT_ap, iR1_ap, iR2_ap, iEnL_ap, iEnT_ap, iZp_ap, iA_ap, iEnA_ap, mFn_ap, mFnT_ap, mMt_ap, mFnK_ap, mMk_ap, sFldSet_ap, mPr_ap, dChain_ap, dMl_ap, mRg1_ap, mRg2_ap, mV_ap, sParO_ap, mSortU_ap, putN, putP, rdAll, AV.pvs, oFld.eq_1, oFld.eq_2, lookP, callF, takeA, putA, okObj.eq_1, okObj.eq_2, isOf.eq_1, isOf.eq_2, PV.items.eq_1, PV.items.eq_2, PV.items.eq_3, PV.items.eq_4, dMt, PV.isLst.eq_1, PV.isLst.eq_2, S.set, MV.frz.eq_1, MV.frz.eq_2, MV.frz.eq_3, MV.frz.eq_4, heldM.eq_1, heldM.eq_2, valM.eq_1, valM.eq_2, finM, valsM, ofStr_beq, ofStr_eq, bIsi, bIsiT, PV.kind.eq_1, PV.kind.eq_2, PV.kind.eq_3, PV.kind.eq_4, PV.kind.eq_5, PV.kind.eq_6, PV.kind.eq_7, PV.kind.eq_8, isiB, BT.nm, PV.tys.eq_1, PV.tys.eq_2, PV.tys.eq_3, bLen.eq_1, bLen.eq_2, bLen.eq_3, bLen.eq_4, bLen.eq_5, bAbs.eq_1, bAbs.eq_2, bMax2.eq_1, bMax2.eq_2, bMin2.eq_1, bMin2.eq_2, bDivmod.eq_1, bDivmod.eq_2, divOk, bInt.eq_1, bInt.eq_2, bInt.eq_3, bList.eq_1, bList.eq_2, bTuple.eq_1, bTuple.eq_2, bTuple.eq_3, bAll.eq_1, bAll.eq_2, bAny.eq_1, bAny.eq_2, bls_bools, ints_ints, oEq, oNe, oIn, oNotIn, oInF, oNotInF, oIs, oIsNot, isNonP.eq_1, isNonP.eq_2, eqP_int, eqP_bl, eqP_tup, eqP_lst, inP_ints, inF_tup, inF_lst, oAdd, oSub, oMul, mulOk, oFdiv, oMod, oPow, powOk, oLt, oLe, oGt, oGe, uNeg, lExtend, lPop, lPopAt, lReverse, lIndex_ints, rgOk, valAt, S.wipe, wipeE, S.rest, restE, oI_c, oIc_c, lAppend_c, mkOut_c, oIxA_c, rngP_0, atI_0, atI_1, ixN_ok, bls_map, -List.map_map, all_tt, enP_ints, inF_items, turn_ap, lcT_ap, tTrue_ap, Option.bind_assoc, Option.map_bind]
  refine for_bind bs .int (fun i s => ∃ v : Option PV, s = ⟨[some (.val (.lst (bs.map .int))), some (.mlst ((((bs.map some).take i).foldl addK []).map .int)), some (.mlst (((bs.take i).map fun b => numOf (knownOf (bs.map some)) (some b)).map .int)), v.map .val], sto⟩) (s0 := ⟨[some (.val (.lst (bs.map .int))), some (.mlst []), some (.mlst []), none], sto⟩) ?_ ⟨none, rfl⟩ ?_ ?_
  · simp (config := { decide := false }) [dVal_ap, dC_ap, pLate_ap, dFrz_ap, pNow_ap, dOp_ap, dUn_ap, tCmp_ap, tOf_ap, tAnd_ap, tOr_ap, tNot_ap, dAnd_ap, dOr_ap, dNot_ap, dIf_ap, mOp_ap, aNil_ap, aV_ap, aIo_ap, dTup_ap, mLst_ap, qNil_ap, qC_ap, dCall_ap, mCall_ap, lNone_ap, lSome_ap, dSlT_ap, mSlL_ap, dFld_ap, gNm_ap, gsNil_ap, gsC_ap, gTp_ap, gIx_ap, sNx_ap, sSeq_ap, sEx_ap, sAsg_ap, sSetO_ap, sRet_ap, sRetO_ap, sRetNm_ap, sRetN_ap, sIf_ap, sNever_ap, sBk_ap, sCt_ap, gSet2_ap, gSet3_ap, sPar_ap, iL_ap, iT_ap, iR1_ap, iR2_ap, iEnL_ap, iEnT_ap, iZp_ap, iA_ap, iEnA_ap, mFn_ap, mFnT_ap, mMt_ap, mFnK_ap, mMk_ap, sFldSet_ap, mPr_ap, dChain_ap, dMl_ap, mRg1_ap, mRg2_ap, mV_ap, sParO_ap, mSortU_ap, putN, putP, rdAll, AV.pvs, oFld.eq_1, oFld.eq_2, lookP, callF, takeA, putA, okObj.eq_1, okObj.eq_2, isOf.eq_1, isOf.eq_2, PV.items.eq_1, PV.items.eq_2, PV.items.eq_3, PV.items.eq_4, dMt, PV.isLst.eq_1, PV.isLst.eq_2, S.set, MV.frz.eq_1, MV.frz.eq_2, MV.frz.eq_3, MV.frz.eq_4, heldM.eq_1, heldM.eq_2, valM.eq_1, valM.eq_2, finM, valsM, ofStr_beq, ofStr_eq, bIsi, bIsiT, PV.kind.eq_1, PV.kind.eq_2, PV.kind.eq_3, PV.kind.eq_4, PV.kind.eq_5, PV.kind.eq_6, PV.kind.eq_7, PV.kind.eq_8, isiB, BT.nm, PV.tys.eq_1, PV.tys.eq_2, PV.tys.eq_3, bLen.eq_1, bLen.eq_2, bLen.eq_3, bLen.eq_4, bLen.eq_5, bAbs.eq_1, bAbs.eq_2, bMax2.eq_1, bMax2.eq_2, bMin2.eq_1, bMin2.eq_2, bDivmod.eq_1, bDivmod.eq_2, divOk, bInt.eq_1, bInt.eq_2, bInt.eq_3, bList.eq_1, bList.eq_2, bTuple.eq_1, bTuple.eq_2, bTuple.eq_3, bAll.eq_1, bAll.eq_2, bAny.eq_1, bAny.eq_2, bls_bools, ints_ints, oEq, oNe, oIn, oNotIn, oInF, oNotInF, oIs, oIsNot, isNonP.eq_1, isNonP.eq_2, eqP_int, eqP_bl, eqP_tup, eqP_lst, inP_ints, inF_tup, inF_lst, oAdd, oSub, oMul, mulOk, oFdiv, oMod, oPow, powOk, oLt, oLe, oGt, oGe, uNeg, lExtend, lPop, lPopAt, lReverse, lIndex_ints, rgOk, valAt, S.wipe, wipeE, S.rest, restE, oI_c, oIc_c, lAppend_c, mkOut_c, oIxA_c, rngP_0, atI_0, atI_1, ixN_ok, bls_map, -List.map_map, all_tt, enP_ints, inF_items, turn_ap, lcT_ap, tTrue_ap, Option.bind_assoc, Option.map_bind]
  · rintro i b s hi ⟨v, rfl⟩
    have ht : (bs.map some)[i]? = some (some b) := by rw [List.getElem?_map, hi]; rfl
    have hn := num_last hi
    rw [take_succ ht, take_succ hi, List.foldl_append]
    rw [take_succ ht, List.foldl_append] at hn
    have hk := fold_len ((bs.map some).take i) []
    rw [List.length_take, List.length_map] at hk
    generalize ((bs.map some).take i).foldl addK [] = kn at hk hn ⊢
    have hq : (bs.take i).length ≤ 1000 := by simp; omega
    generalize bs.take i = bi at hq ⊢
    simp only [List.length_nil] at hk
    have h4 : bi.length < 100000 := by omega
    simp only [List.foldl_cons, List.foldl_nil] at hn ⊢
    rw [List.map_append, List.map_append, List.map_cons, List.map_cons, List.map_nil, List.map_nil, ← hn]
    by_cases h2 : b ∈ kn
    · refine ⟨_, ?_, some (.int b), rfl⟩
      rw [show addK kn (some b) = kn by simp [addK, h2]]
      simp (config := { decide := false }) [dVal_ap, dC_ap, pLate_ap, dFrz_ap, pNow_ap, dOp_ap, dUn_ap, tCmp_ap, tOf_ap, tAnd_ap, tOr_ap, tNot_ap, dAnd_ap, dOr_ap, dNot_ap, dIf_ap, mOp_ap, aNil_ap, aV_ap, aIo_ap, dTup_ap, mLst_ap, qNil_ap, qC_ap, dCall_ap, mCall_ap, lNone_ap, lSome_ap, dSlT_ap, mSlL_ap, dFld_ap, gNm_ap, gsNil_ap, gsC_ap, gTp_ap, gIx_ap, sNx_ap, sSeq_ap, sEx_ap, sAsg_ap, sSetO_ap, sRet_ap, sRetO_ap, sRetNm_ap, sRetN_ap, sIf_ap, sNever_ap, sBk_ap, sCt_ap, gSet2_ap, gSet3_ap, sPar_ap, iL_ap, iT_ap, iR1_ap, iR2_ap, iEnL_ap, iEnT_ap, iZp_ap, iA_ap, iEnA_ap, mFn_ap, mFnT_ap, mMt_ap, mFnK_ap, mMk_ap, sFldSet_ap, mPr_ap, dChain_ap, dMl_ap, mRg1_ap, mRg2_ap, mV_ap, sParO_ap, mSortU_ap, putN, putP, rdAll, AV.pvs, oFld.eq_1, oFld.eq_2, lookP, callF, takeA, putA, okObj.eq_1, okObj.eq_2, isOf.eq_1, isOf.eq_2, PV.items.eq_1, PV.items.eq_2, PV.items.eq_3, PV.items.eq_4, dMt, PV.isLst.eq_1, PV.isLst.eq_2, S.set, MV.frz.eq_1, MV.frz.eq_2, MV.frz.eq_3, MV.frz.eq_4, heldM.eq_1, heldM.eq_2, valM.eq_1, valM.eq_2, finM, valsM, ofStr_beq, ofStr_eq, bIsi, bIsiT, PV.kind.eq_1, PV.kind.eq_2, PV.kind.eq_3, PV.kind.eq_4, PV.kind.eq_5, PV.kind.eq_6, PV.kind.eq_7, PV.kind.eq_8, isiB, BT.nm, PV.tys.eq_1, PV.tys.eq_2, PV.tys.eq_3, bLen.eq_1, bLen.eq_2, bLen.eq_3, bLen.eq_4, bLen.eq_5, bAbs.eq_1, bAbs.eq_2, bMax2.eq_1, bMax2.eq_2, bMin2.eq_1, bMin2.eq_2, bDivmod.eq_1, bDivmod.eq_2, divOk, bInt.eq_1, bInt.eq_2, bInt.eq_3, bList.eq_1, bList.eq_2, bTuple.eq_1, bTuple.eq_2, bTuple.eq_3, bAll.eq_1, bAll.eq_2, bAny.eq_1, bAny.eq_2, bls_bools, ints_ints, oEq, oNe, oIn, oNotIn, oInF, oNotInF, oIs, oIsNot, isNonP.eq_1, isNonP.eq_2, eqP_int, eqP_bl, eqP_tup, eqP_lst, inP_ints, inF_tup, inF_lst, oAdd, oSub, oMul, mulOk, oFdiv, oMod, oPow, powOk, oLt, oLe, oGt, oGe, uNeg, lExtend, lPop, lPopAt, lReverse, lIndex_ints, rgOk, valAt, S.wipe, wipeE, S.rest, restE, oI_c, oIc_c, lAppend_c, mkOut_c, oIxA_c, rngP_0, atI_0, atI_1, ixN_ok, bls_map, -List.map_map, all_tt, enP_ints, inF_items, turn_ap, lcT_ap, tTrue_ap, Option.bind_assoc, Option.map_bind, h2, h4, lIndex_ints h2]
      rfl
    · have h3 : kn.length < 100000 := by omega
      refine ⟨_, ?_, some (.int b), rfl⟩
      rw [show addK kn (some b) = kn ++ [b] by simp [addK, h2]]
      have h5 : lIndex (.lst (kn.map PV.int ++ [PV.int b])) [.int b] = some (.int ((kn ++ [b]).idxOf b : Nat)) := by
        have := lIndex_ints (c := b) (ns := kn ++ [b]) (by simp)
        rwa [List.map_append] at this
      simp (config := { decide := false }) [dVal_ap, dC_ap, pLate_ap, dFrz_ap, pNow_ap, dOp_ap, dUn_ap, tCmp_ap, tOf_ap, tAnd_ap, tOr_ap, tNot_ap, dAnd_ap, dOr_ap, dNot_ap, dIf_ap, mOp_ap, aNil_ap, aV_ap, aIo_ap, dTup_ap, mLst_ap, qNil_ap, qC_ap, dCall_ap, mCall_ap, lNone_ap, lSome_ap, dSlT_ap, mSlL_ap, dFld_ap, gNm_ap, gsNil_ap, gsC_ap, gTp_ap, gIx_ap, sNx_ap, sSeq_ap, sEx_ap, sAsg_ap, sSetO_ap, sRet_ap, sRetO_ap, sRetNm_ap, sRetN_ap, sIf_ap, sNever_ap, sBk_ap, sCt_ap, gSet2_ap, gSet3_ap, sPar_ap, iL_ap, iT_ap, iR1_ap, iR2_ap, iEnL_ap, iEnT_ap, iZp_ap, iA_ap, iEnA_ap, mFn_ap, mFnT_ap, mMt_ap, mFnK_ap, mMk_ap, sFldSet_ap, mPr_ap, dChain_ap, dMl_ap, mRg1_ap, mRg2_ap, mV_ap, sParO_ap, mSortU_ap, putN, putP, rdAll, AV.pvs, oFld.eq_1, oFld.eq_2, lookP, callF, takeA, putA, okObj.eq_1, okObj.eq_2, isOf.eq_1, isOf.eq_2, PV.items.eq_1, PV.items.eq_2, PV.items.eq_3, PV.items.eq_4, dMt, PV.isLst.eq_1, PV.isLst.eq_2, S.set, MV.frz.eq_1, MV.frz.eq_2, MV.frz.eq_3, MV.frz.eq_4, heldM.eq_1, heldM.eq_2, valM.eq_1, valM.eq_2, finM, valsM, ofStr_beq, ofStr_eq, bIsi, bIsiT, PV.kind.eq_1, PV.kind.eq_2, PV.kind.eq_3, PV.kind.eq_4, PV.kind.eq_5, PV.kind.eq_6, PV.kind.eq_7, PV.kind.eq_8, isiB, BT.nm, PV.tys.eq_1, PV.tys.eq_2, PV.tys.eq_3, bLen.eq_1, bLen.eq_2, bLen.eq_3, bLen.eq_4, bLen.eq_5, bAbs.eq_1, bAbs.eq_2, bMax2.eq_1, bMax2.eq_2, bMin2.eq_1, bMin2.eq_2, bDivmod.eq_1, bDivmod.eq_2, divOk, bInt.eq_1, bInt.eq_2, bInt.eq_3, bList.eq_1, bList.eq_2, bTuple.eq_1, bTuple.eq_2, bTuple.eq_3, bAll.eq_1, bAll.eq_2, bAny.eq_1, bAny.eq_2, bls_bools, ints_ints, oEq, oNe, oIn, oNotIn, oInF, oNotInF, oIs, oIsNot, isNonP.eq_1, isNonP.eq_2, eqP_int, eqP_bl, eqP_tup, eqP_lst, inP_ints, inF_tup, inF_lst, oAdd, oSub, oMul, mulOk, oFdiv, oMod, oPow, powOk, oLt, oLe, oGt, oGe, uNeg, lExtend, lPop, lPopAt, lReverse, lIndex_ints, rgOk, valAt, S.wipe, wipeE, S.rest, restE, oI_c, oIc_c, lAppend_c, mkOut_c, oIxA_c, rngP_0, atI_0, atI_1, ixN_ok, bls_map, -List.map_map, all_tt, enP_ints, inF_items, turn_ap, lcT_ap, tTrue_ap, Option.bind_assoc, Option.map_bind, h2, h3, h4, h5]
      rfl
  · rintro s ⟨v, rfl⟩
    rw [List.take_of_length_le (by simp), List.take_length]
    simp (config := { decide := false }) [dVal_ap, dC_ap, pLate_ap, dFrz_ap, pNow_ap, dOp_ap, dUn_ap, tCmp_ap, tOf_ap, tAnd_ap, tOr_ap, tNot_ap, dAnd_ap, dOr_ap, dNot_ap, dIf_ap, mOp_ap, aNil_ap, aV_ap, aIo_ap, dTup_ap, mLst_ap, qNil_ap, qC_ap, dCall_ap, mCall_ap, lNone_ap, lSome_ap, dSlT_ap, mSlL_ap, dFld_ap, gNm_ap, gsNil_ap, gsC_ap, gTp_ap, gIx_ap, sNx_ap, sSeq_ap, sEx_ap, sAsg_ap, sSetO_ap, sRet_ap, sRetO_ap, sRetNm_ap, sRetN_ap, sIf_ap, sNever_ap, sBk_ap, sCt_ap, gSet2_ap, gSet3_ap, sPar_ap, iL_ap, iT_ap, iR1_ap, iR2_ap, iEnL_ap, iEnT_ap, iZp_ap, iA_ap, iEnA_ap, mFn_ap, mFnT_ap, mMt_ap, mFnK_ap, mMk_ap, sFldSet_ap, mPr_ap, dChain_ap, dMl_ap, mRg1_ap, mRg2_ap, mV_ap, sParO_ap, mSortU_ap, putN, putP, rdAll, AV.pvs, oFld.eq_1, oFld.eq_2, lookP, callF, takeA, putA, okObj.eq_1, okObj.eq_2, isOf.eq_1, isOf.eq_2, PV.items.eq_1, PV.items.eq_2, PV.items.eq_3, PV.items.eq_4, dMt, PV.isLst.eq_1, PV.isLst.eq_2, S.set, MV.frz.eq_1, MV.frz.eq_2, MV.frz.eq_3, MV.frz.eq_4, heldM.eq_1, heldM.eq_2, valM.eq_1, valM.eq_2, finM, valsM, ofStr_beq, ofStr_eq, bIsi, bIsiT, PV.kind.eq_1, PV.kind.eq_2, PV.kind.eq_3, PV.kind.eq_4, PV.kind.eq_5, PV.kind.eq_6, PV.kind.eq_7, PV.kind.eq_8, isiB, BT.nm, PV.tys.eq_1, PV.tys.eq_2, PV.tys.eq_3, bLen.eq_1, bLen.eq_2, bLen.eq_3, bLen.eq_4, bLen.eq_5, bAbs.eq_1, bAbs.eq_2, bMax2.eq_1, bMax2.eq_2, bMin2.eq_1, bMin2.eq_2, bDivmod.eq_1, bDivmod.eq_2, divOk, bInt.eq_1, bInt.eq_2, bInt.eq_3, bList.eq_1, bList.eq_2, bTuple.eq_1, bTuple.eq_2, bTuple.eq_3, bAll.eq_1, bAll.eq_2, bAny.eq_1, bAny.eq_2, bls_bools, ints_ints, oEq, oNe, oIn, oNotIn, oInF, oNotInF, oIs, oIsNot, isNonP.eq_1, isNonP.eq_2, eqP_int, eqP_bl, eqP_tup, eqP_lst, inP_ints, inF_tup, inF_lst, oAdd, oSub, oMul, mulOk, oFdiv, oMod, oPow, powOk, oLt, oLe, oGt, oGe, uNeg, lExtend, lPop, lPopAt, lReverse, lIndex_ints, rgOk, valAt, S.wipe, wipeE, S.rest, restE, oI_c, oIc_c, lAppend_c, mkOut_c, oIxA_c, rngP_0, atI_0, atI_1, ixN_ok, bls_map, -List.map_map, all_tt, enP_ints, inF_items, turn_ap, lcT_ap, tTrue_ap, Option.bind_assoc, Option.map_bind]
    simp [Num.numsOf, norm]
end
end K17
namespace K17
open PySem L2 GG DD Num
section
variable {ca : Nat → Addr} {sto : List MV}
/-- the boxes of two sides -/
structure Boxes (n t : Int) (bs : List Int) : Prop where
  n0 : 1 ≤ n
  n4 : n ≤ 4
  len : (bs.length : Int) = 2 * n
  lt : ∀ x ∈ bs, x < t
@[reducible] def PtN (ca : Nat → Addr) (bs : List Int) : PV := Pt ca (Num.numsOf bs)
theorem e_moved {a b n t : Int} {bs : List Int} (h : PotV a b) (hb : Boxes n t bs) :
    ∃ a' b' bs', PotV a' b' ∧ Boxes n (t + 2) bs' ∧ f_l_moved ca [pot a b, .val (.int n), .val (.lst (bs.map .int)), .val (PtN ca bs), .val (.int t)] sto =
      some (.val (.tup [.lst (bs'.map .int), PtN ca bs']), [pot a' b', .val (.int n), .val (.lst (bs.map .int)), .val (PtN ca bs), .val (.int t)], sto) := by
  obtain ⟨n0, n4, hl, hlt⟩ := hb
  have hg : Good (Num.numsOf bs) := nums_good (by omega) (by omega)
  have hnl : (Num.numsOf bs).length = bs.length := nums_len
  obtain ⟨a1, b1, way, p1, w0, w6, e1⟩ := e_draw (ca := ca) (sto := sto) h (n := 6) (by decide) (by decide)
  obtain ⟨a2, b2, one, p2, o0, o1, e2⟩ := e_draw (ca := ca) (sto := sto) p1 (n := n) (by omega) (by omega)
  obtain ⟨a3, b3, two, p3, t0, t1, e3⟩ := e_draw (ca := ca) (sto := sto) p2 (n := n) (by omega) (by omega)
  obtain ⟨a4, b4, sd, p4, s0, s1, e4⟩ := e_draw (ca := ca) (sto := sto) p3 (n := 2) (by decide) (by decide)
  have hs : sd = 0 ∨ sd = 1 := by omega
  obtain ⟨side, hside⟩ : ∃ side, side = n * sd := ⟨_, rfl⟩
  have hsd : side = 0 ∨ side = n := by
    rcases hs with rfl | rfl <;> simp at hside <;> omega
  have q1 : -18446744073709551616 < n := by omega
  have q2 : n < 18446744073709551616 := by omega
  have lt2 : ∀ x ∈ bs, x < t + 2 := fun x hx => by have := hlt x hx; omega
  unfold f_l_moved runF b_l_moved
  have hw : (way = 0 ∨ way = 1 ∨ way = 2) ∨ (way = 3 ∨ way = 4 ∨ way = 5) := by omega
  rcases hw with (rfl | rfl | rfl) | (rfl | rfl | rfl)
  · have h1 : 0 ≤ side + one := by omega
    have h2 : side + one < bs.length := by omega
    refine ⟨a4, b4, bs.set (side + one).toNat t, p4, ⟨n0, n4, by simpa using hl, set_lt lt2 (by omega)⟩, ?_⟩
    have f1 := e_fresh (ca := ca) (sto := sto) (hs := [side + one]) hg (holds1 h1 (by omega))
    rw [nums_fresh1 h1 hlt] at f1
    simp only [List.map_cons, List.map_nil] at f1
    simp (config := { decide := false }) [dVal_ap, dC_ap, pLate_ap, dFrz_ap, pNow_ap, dOp_ap, dUn_ap, tCmp_ap, tOf_ap, tAnd_ap, tOr_ap, tNot_ap, dAnd_ap, dOr_ap, dNot_ap, dIf_ap, mOp_ap, aNil_ap, aV_ap, aIo_ap, dTup_ap, mLst_ap, qNil_ap, qC_ap, dCall_ap, mCall_ap, lNone_ap, lSome_ap, dSlT_ap, mSlL_ap, dFld_ap, gNm_ap, gsNil_ap, gsC_ap, gTp_ap, gIx_ap, sNx_ap, sSeq_ap, sEx_ap, sAsg_ap, sSetO_ap, sRet_ap, sRetO_ap, sRetNm_ap, sRetN_ap, sIf_ap, sNever_ap, sBk_ap, sCt_ap, gSet2_ap, gSet3_ap, sPar_ap, iL_ap, iT_ap, iR1_ap, iR2_ap, iEnL_ap, iEnT_ap, iZp_ap, iA_ap, iEnA_ap, mFn_ap, mFnT_ap, mMt_ap, mFnK_ap, mMk_ap, sFldSet_ap, mPr_ap, dChain_ap, dMl_ap, mRg1_ap, mRg2_ap, mV_ap, sParO_ap, mSortU_ap, putN, putP, rdAll, AV.pvs, oFld.eq_1, oFld.eq_2, lookP, callF, takeA, putA, okObj.eq_1, okObj.eq_2, isOf.eq_1, isOf.eq_2, PV.items.eq_1, PV.items.eq_2, PV.items.eq_3, PV.items.eq_4, dMt, PV.isLst.eq_1, PV.isLst.eq_2, S.set, MV.frz.eq_1, MV.frz.eq_2, MV.frz.eq_3, MV.frz.eq_4, heldM.eq_1, heldM.eq_2, valM.eq_1, valM.eq_2, finM, valsM, ofStr_beq, ofStr_eq, bIsi, bIsiT, PV.kind.eq_1, PV.kind.eq_2, PV.kind.eq_3, PV.kind.eq_4, PV.kind.eq_5, PV.kind.eq_6, PV.kind.eq_7, PV.kind.eq_8, isiB, BT.nm, PV.tys.eq_1, PV.tys.eq_2, PV.tys.eq_3, bLen.eq_1, bLen.eq_2, bLen.eq_3, bLen.eq_4, bLen.eq_5, bAbs.eq_1, bAbs.eq_2, bMax2.eq_1, bMax2.eq_2, bMin2.eq_1, bMin2.eq_2, bDivmod.eq_1, bDivmod.eq_2, divOk, bInt.eq_1, bInt.eq_2, bInt.eq_3, bList.eq_1, bList.eq_2, bTuple.eq_1, bTuple.eq_2, bTuple.eq_3, bAll.eq_1, bAll.eq_2, bAny.eq_1, bAny.eq_2, bls_bools, ints_ints, oEq, oNe, oIn, oNotIn, oInF, oNotInF, oIs, oIsNot, isNonP.eq_1, isNonP.eq_2, eqP_int, eqP_bl, eqP_tup, eqP_lst, inP_ints, inF_tup, inF_lst, oAdd, oSub, oMul, mulOk, oFdiv, oMod, oPow, powOk, oLt, oLe, oGt, oGe, uNeg, lExtend, lPop, lPopAt, lReverse, lIndex_ints, rgOk, valAt, S.wipe, wipeE, S.rest, restE, oI_c, oIc_c, lAppend_c, mkOut_c, oIxA_c, rngP_0, atI_0, atI_1, ixN_ok, bls_map, -List.map_map, all_tt, enP_ints, inF_items, turn_ap, lcT_ap, tTrue_ap, Option.bind_assoc, Option.map_bind, e1, e2, e3, e4, ← hside, q1, q2, h1, h2, f1]
  · have h1 : 0 ≤ one := by omega
    have h2 : one < bs.length := by omega
    have h3 : 0 ≤ n + one := by omega
    have h4 : n + one < bs.length := by omega
    refine ⟨a4, b4, (bs.set one.toNat t).set (n + one).toNat t, p4, ⟨n0, n4, by simpa using hl, set_lt (set_lt lt2 (by omega)) (by omega)⟩, ?_⟩
    have f1 := e_fresh (ca := ca) (sto := sto) (hs := [one, n + one]) hg (holds2 h1 (by omega) h3 (by omega))
    rw [nums_fresh2 h1 h3 hlt (fun x => by simp)] at f1
    simp only [List.map_cons, List.map_nil] at f1
    simp (config := { decide := false }) [dVal_ap, dC_ap, pLate_ap, dFrz_ap, pNow_ap, dOp_ap, dUn_ap, tCmp_ap, tOf_ap, tAnd_ap, tOr_ap, tNot_ap, dAnd_ap, dOr_ap, dNot_ap, dIf_ap, mOp_ap, aNil_ap, aV_ap, aIo_ap, dTup_ap, mLst_ap, qNil_ap, qC_ap, dCall_ap, mCall_ap, lNone_ap, lSome_ap, dSlT_ap, mSlL_ap, dFld_ap, gNm_ap, gsNil_ap, gsC_ap, gTp_ap, gIx_ap, sNx_ap, sSeq_ap, sEx_ap, sAsg_ap, sSetO_ap, sRet_ap, sRetO_ap, sRetNm_ap, sRetN_ap, sIf_ap, sNever_ap, sBk_ap, sCt_ap, gSet2_ap, gSet3_ap, sPar_ap, iL_ap, iT_ap, iR1_ap, iR2_ap, iEnL_ap, iEnT_ap, iZp_ap, iA_ap, iEnA_ap, mFn_ap, mFnT_ap, mMt_ap, mFnK_ap, mMk_ap, sFldSet_ap, mPr_ap, dChain_ap, dMl_ap, mRg1_ap, mRg2_ap, mV_ap, sParO_ap, mSortU_ap, putN, putP, rdAll, AV.pvs, oFld.eq_1, oFld.eq_2, lookP, callF, takeA, putA, okObj.eq_1, okObj.eq_2, isOf.eq_1, isOf.eq_2, PV.items.eq_1, PV.items.eq_2, PV.items.eq_3, PV.items.eq_4, dMt, PV.isLst.eq_1, PV.isLst.eq_2, S.set, MV.frz.eq_1, MV.frz.eq_2, MV.frz.eq_3, MV.frz.eq_4, heldM.eq_1, heldM.eq_2, valM.eq_1, valM.eq_2, finM, valsM, ofStr_beq, ofStr_eq, bIsi, bIsiT, PV.kind.eq_1, PV.kind.eq_2, PV.kind.eq_3, PV.kind.eq_4, PV.kind.eq_5, PV.kind.eq_6, PV.kind.eq_7, PV.kind.eq_8, isiB, BT.nm, PV.tys.eq_1, PV.tys.eq_2, PV.tys.eq_3, bLen.eq_1, bLen.eq_2, bLen.eq_3, bLen.eq_4, bLen.eq_5, bAbs.eq_1, bAbs.eq_2, bMax2.eq_1, bMax2.eq_2, bMin2.eq_1, bMin2.eq_2, bDivmod.eq_1, bDivmod.eq_2, divOk, bInt.eq_1, bInt.eq_2, bInt.eq_3, bList.eq_1, bList.eq_2, bTuple.eq_1, bTuple.eq_2, bTuple.eq_3, bAll.eq_1, bAll.eq_2, bAny.eq_1, bAny.eq_2, bls_bools, ints_ints, oEq, oNe, oIn, oNotIn, oInF, oNotInF, oIs, oIsNot, isNonP.eq_1, isNonP.eq_2, eqP_int, eqP_bl, eqP_tup, eqP_lst, inP_ints, inF_tup, inF_lst, oAdd, oSub, oMul, mulOk, oFdiv, oMod, oPow, powOk, oLt, oLe, oGt, oGe, uNeg, lExtend, lPop, lPopAt, lReverse, lIndex_ints, rgOk, valAt, S.wipe, wipeE, S.rest, restE, oI_c, oIc_c, lAppend_c, mkOut_c, oIxA_c, rngP_0, atI_0, atI_1, ixN_ok, bls_map, -List.map_map, all_tt, enP_ints, inF_items, turn_ap, lcT_ap, tTrue_ap, Option.bind_assoc, Option.map_bind, e1, e2, e3, e4, ← hside, q1, q2, h1, h2, h3, h4, f1]
  · have h1 : 0 ≤ one := by omega
    have h2 : one < bs.length := by omega
    have h3 : 0 ≤ n + one := by omega
    have h4 : n + one < bs.length := by omega
    refine ⟨a4, b4, (bs.set one.toNat t).set (n + one).toNat (t + 1), p4, ⟨n0, n4, by simpa using hl, set_lt (set_lt lt2 (by omega)) (by omega)⟩, ?_⟩
    have f1 := e_fresh (ca := ca) (sto := sto) (hs := [one]) hg (holds1 h1 (by omega))
    rw [nums_fresh1 h1 hlt] at f1
    have hl2 : (bs.set one.toNat t).length = bs.length := by simp
    have hg2 : Good (Num.numsOf (bs.set one.toNat t)) := nums_good (by omega) (by omega)
    have f2 := e_fresh (ca := ca) (sto := sto) (hs := [n + one]) hg2 (holds1 h3 (by rw [nums_len]; omega))
    rw [nums_fresh1 h3 (t := t + 1) (set_lt (fun x hx => by have := hlt x hx; omega) (by omega))] at f2
    simp only [List.map_cons, List.map_nil] at f1 f2
    simp (config := { decide := false }) [dVal_ap, dC_ap, pLate_ap, dFrz_ap, pNow_ap, dOp_ap, dUn_ap, tCmp_ap, tOf_ap, tAnd_ap, tOr_ap, tNot_ap, dAnd_ap, dOr_ap, dNot_ap, dIf_ap, mOp_ap, aNil_ap, aV_ap, aIo_ap, dTup_ap, mLst_ap, qNil_ap, qC_ap, dCall_ap, mCall_ap, lNone_ap, lSome_ap, dSlT_ap, mSlL_ap, dFld_ap, gNm_ap, gsNil_ap, gsC_ap, gTp_ap, gIx_ap, sNx_ap, sSeq_ap, sEx_ap, sAsg_ap, sSetO_ap, sRet_ap, sRetO_ap, sRetNm_ap, sRetN_ap, sIf_ap, sNever_ap, sBk_ap, sCt_ap, gSet2_ap, gSet3_ap, sPar_ap, iL_ap, iT_ap, iR1_ap, iR2_ap, iEnL_ap, iEnT_ap, iZp_ap, iA_ap, iEnA_ap, mFn_ap, mFnT_ap, mMt_ap, mFnK_ap, mMk_ap, sFldSet_ap, mPr_ap, dChain_ap, dMl_ap, mRg1_ap, mRg2_ap, mV_ap, sParO_ap, mSortU_ap, putN, putP, rdAll, AV.pvs, oFld.eq_1, oFld.eq_2, lookP, callF, takeA, putA, okObj.eq_1, okObj.eq_2, isOf.eq_1, isOf.eq_2, PV.items.eq_1, PV.items.eq_2, PV.items.eq_3, PV.items.eq_4, dMt, PV.isLst.eq_1, PV.isLst.eq_2, S.set, MV.frz.eq_1, MV.frz.eq_2, MV.frz.eq_3, MV.frz.eq_4, heldM.eq_1, heldM.eq_2, valM.eq_1, valM.eq_2, finM, valsM, ofStr_beq, ofStr_eq, bIsi, bIsiT, PV.kind.eq_1, PV.kind.eq_2, PV.kind.eq_3, PV.kind.eq_4, PV.kind.eq_5, PV.kind.eq_6, PV.kind.eq_7, PV.kind.eq_8, isiB, BT.nm, PV.tys.eq_1, PV.tys.eq_2, PV.tys.eq_3, bLen.eq_1, bLen.eq_2, bLen.eq_3, bLen.eq_4, bLen.eq_5, bAbs.eq_1, bAbs.eq_2, bMax2.eq_1, bMax2.eq_2, bMin2.eq_1, bMin2.eq_2, bDivmod.eq_1, bDivmod.eq_2, divOk, bInt.eq_1, bInt.eq_2, bInt.eq_3, bList.eq_1, bList.eq_2, bTuple.eq_1, bTuple.eq_2, bTuple.eq_3, bAll.eq_1, bAll.eq_2, bAny.eq_1, bAny.eq_2, bls_bools, ints_ints, oEq, oNe, oIn, oNotIn, oInF, oNotInF, oIs, oIsNot, isNonP.eq_1, isNonP.eq_2, eqP_int, eqP_bl, eqP_tup, eqP_lst, inP_ints, inF_tup, inF_lst, oAdd, oSub, oMul, mulOk, oFdiv, oMod, oPow, powOk, oLt, oLe, oGt, oGe, uNeg, lExtend, lPop, lPopAt, lReverse, lIndex_ints, rgOk, valAt, S.wipe, wipeE, S.rest, restE, oI_c, oIc_c, lAppend_c, mkOut_c, oIxA_c, rngP_0, atI_0, atI_1, ixN_ok, bls_map, -List.map_map, all_tt, enP_ints, inF_items, turn_ap, lcT_ap, tTrue_ap, Option.bind_assoc, Option.map_bind, e1, e2, e3, e4, ← hside, q1, q2, h1, h2, h3, h4, f1, f2]
  · have h1 : 0 ≤ one := by omega
    have h2 : one < bs.length := by omega
    have h3 : 0 ≤ n + two := by omega
    have h4 : n + two < bs.length := by omega
    refine ⟨a4, b4, (bs.set one.toNat t).set (n + two).toNat t, p4, ⟨n0, n4, by simpa using hl, set_lt (set_lt lt2 (by omega)) (by omega)⟩, ?_⟩
    have f1 := e_fresh (ca := ca) (sto := sto) (hs := [n + two, one]) hg (holds2 h3 (by omega) h1 (by omega))
    rw [nums_fresh2 h1 h3 hlt (fun x => by simp [or_comm])] at f1
    simp only [List.map_cons, List.map_nil] at f1
    simp (config := { decide := false }) [dVal_ap, dC_ap, pLate_ap, dFrz_ap, pNow_ap, dOp_ap, dUn_ap, tCmp_ap, tOf_ap, tAnd_ap, tOr_ap, tNot_ap, dAnd_ap, dOr_ap, dNot_ap, dIf_ap, mOp_ap, aNil_ap, aV_ap, aIo_ap, dTup_ap, mLst_ap, qNil_ap, qC_ap, dCall_ap, mCall_ap, lNone_ap, lSome_ap, dSlT_ap, mSlL_ap, dFld_ap, gNm_ap, gsNil_ap, gsC_ap, gTp_ap, gIx_ap, sNx_ap, sSeq_ap, sEx_ap, sAsg_ap, sSetO_ap, sRet_ap, sRetO_ap, sRetNm_ap, sRetN_ap, sIf_ap, sNever_ap, sBk_ap, sCt_ap, gSet2_ap, gSet3_ap, sPar_ap, iL_ap, iT_ap, iR1_ap, iR2_ap, iEnL_ap, iEnT_ap, iZp_ap, iA_ap, iEnA_ap, mFn_ap, mFnT_ap, mMt_ap, mFnK_ap, mMk_ap, sFldSet_ap, mPr_ap, dChain_ap, dMl_ap, mRg1_ap, mRg2_ap, mV_ap, sParO_ap, mSortU_ap, putN, putP, rdAll, AV.pvs, oFld.eq_1, oFld.eq_2, lookP, callF, takeA, putA, okObj.eq_1, okObj.eq_2, isOf.eq_1, isOf.eq_2, PV.items.eq_1, PV.items.eq_2, PV.items.eq_3, PV.items.eq_4, dMt, PV.isLst.eq_1, PV.isLst.eq_2, S.set, MV.frz.eq_1, MV.frz.eq_2, MV.frz.eq_3, MV.frz.eq_4, heldM.eq_1, heldM.eq_2, valM.eq_1, valM.eq_2, finM, valsM, ofStr_beq, ofStr_eq, bIsi, bIsiT, PV.kind.eq_1, PV.kind.eq_2, PV.kind.eq_3, PV.kind.eq_4, PV.kind.eq_5, PV.kind.eq_6, PV.kind.eq_7, PV.kind.eq_8, isiB, BT.nm, PV.tys.eq_1, PV.tys.eq_2, PV.tys.eq_3, bLen.eq_1, bLen.eq_2, bLen.eq_3, bLen.eq_4, bLen.eq_5, bAbs.eq_1, bAbs.eq_2, bMax2.eq_1, bMax2.eq_2, bMin2.eq_1, bMin2.eq_2, bDivmod.eq_1, bDivmod.eq_2, divOk, bInt.eq_1, bInt.eq_2, bInt.eq_3, bList.eq_1, bList.eq_2, bTuple.eq_1, bTuple.eq_2, bTuple.eq_3, bAll.eq_1, bAll.eq_2, bAny.eq_1, bAny.eq_2, bls_bools, ints_ints, oEq, oNe, oIn, oNotIn, oInF, oNotInF, oIs, oIsNot, isNonP.eq_1, isNonP.eq_2, eqP_int, eqP_bl, eqP_tup, eqP_lst, inP_ints, inF_tup, inF_lst, oAdd, oSub, oMul, mulOk, oFdiv, oMod, oPow, powOk, oLt, oLe, oGt, oGe, uNeg, lExtend, lPop, lPopAt, lReverse, lIndex_ints, rgOk, valAt, S.wipe, wipeE, S.rest, restE, oI_c, oIc_c, lAppend_c, mkOut_c, oIxA_c, rngP_0, atI_0, atI_1, ixN_ok, bls_map, -List.map_map, all_tt, enP_ints, inF_items, turn_ap, lcT_ap, tTrue_ap, Option.bind_assoc, Option.map_bind, e1, e2, e3, e4, ← hside, q1, q2, h1, h2, h3, h4, f1]
  · have h1 : 0 ≤ side + one := by omega
    have h2 : side + one < bs.length := by omega
    have h3 : 0 ≤ side + two := by omega
    have h4 : side + two < bs.length := by omega
    have ha : atI (bs.map PV.int) (side + two) = some (.int (gv bs (side + two))) := atI_gv h3 h4
    have hv : bs[(side + two).toNat]? = some (gv bs (side + two)) := gv_get h3 h4
    have hvl := lt2 _ (List.mem_of_getElem? hv)
    refine ⟨a4, b4, bs.set (side + one).toNat (gv bs (side + two)), p4, ⟨n0, n4, by simpa using hl, set_lt lt2 (by omega)⟩, ?_⟩
    have f1 := e_copied (ca := ca) (sto := sto) hg (holds2 h1 (by omega) h3 (by omega))
    rw [nums_copied h1 h3 hv] at f1
    simp (config := { decide := false }) [dVal_ap, dC_ap, pLate_ap, dFrz_ap, pNow_ap, dOp_ap, dUn_ap, tCmp_ap, tOf_ap, tAnd_ap, tOr_ap, tNot_ap, dAnd_ap, dOr_ap, dNot_ap, dIf_ap, mOp_ap, aNil_ap, aV_ap, aIo_ap, dTup_ap, mLst_ap, qNil_ap, qC_ap, dCall_ap, mCall_ap, lNone_ap, lSome_ap, dSlT_ap, mSlL_ap, dFld_ap, gNm_ap, gsNil_ap, gsC_ap, gTp_ap, gIx_ap, sNx_ap, sSeq_ap, sEx_ap, sAsg_ap, sSetO_ap, sRet_ap, sRetO_ap, sRetNm_ap, sRetN_ap, sIf_ap, sNever_ap, sBk_ap, sCt_ap, gSet2_ap, gSet3_ap, sPar_ap, iL_ap, iT_ap, iR1_ap, iR2_ap, iEnL_ap, iEnT_ap, iZp_ap, iA_ap, iEnA_ap, mFn_ap, mFnT_ap, mMt_ap, mFnK_ap, mMk_ap, sFldSet_ap, mPr_ap, dChain_ap, dMl_ap, mRg1_ap, mRg2_ap, mV_ap, sParO_ap, mSortU_ap, putN, putP, rdAll, AV.pvs, oFld.eq_1, oFld.eq_2, lookP, callF, takeA, putA, okObj.eq_1, okObj.eq_2, isOf.eq_1, isOf.eq_2, PV.items.eq_1, PV.items.eq_2, PV.items.eq_3, PV.items.eq_4, dMt, PV.isLst.eq_1, PV.isLst.eq_2, S.set, MV.frz.eq_1, MV.frz.eq_2, MV.frz.eq_3, MV.frz.eq_4, heldM.eq_1, heldM.eq_2, valM.eq_1, valM.eq_2, finM, valsM, ofStr_beq, ofStr_eq, bIsi, bIsiT, PV.kind.eq_1, PV.kind.eq_2, PV.kind.eq_3, PV.kind.eq_4, PV.kind.eq_5, PV.kind.eq_6, PV.kind.eq_7, PV.kind.eq_8, isiB, BT.nm, PV.tys.eq_1, PV.tys.eq_2, PV.tys.eq_3, bLen.eq_1, bLen.eq_2, bLen.eq_3, bLen.eq_4, bLen.eq_5, bAbs.eq_1, bAbs.eq_2, bMax2.eq_1, bMax2.eq_2, bMin2.eq_1, bMin2.eq_2, bDivmod.eq_1, bDivmod.eq_2, divOk, bInt.eq_1, bInt.eq_2, bInt.eq_3, bList.eq_1, bList.eq_2, bTuple.eq_1, bTuple.eq_2, bTuple.eq_3, bAll.eq_1, bAll.eq_2, bAny.eq_1, bAny.eq_2, bls_bools, ints_ints, oEq, oNe, oIn, oNotIn, oInF, oNotInF, oIs, oIsNot, isNonP.eq_1, isNonP.eq_2, eqP_int, eqP_bl, eqP_tup, eqP_lst, inP_ints, inF_tup, inF_lst, oAdd, oSub, oMul, mulOk, oFdiv, oMod, oPow, powOk, oLt, oLe, oGt, oGe, uNeg, lExtend, lPop, lPopAt, lReverse, lIndex_ints, rgOk, valAt, S.wipe, wipeE, S.rest, restE, oI_c, oIc_c, lAppend_c, mkOut_c, oIxA_c, rngP_0, atI_0, atI_1, ixN_ok, bls_map, -List.map_map, all_tt, enP_ints, inF_items, turn_ap, lcT_ap, tTrue_ap, Option.bind_assoc, Option.map_bind, e1, e2, e3, e4, ← hside, q1, q2, h1, h2, h3, h4, ha, f1]
  · have h1 : 0 ≤ one := by omega
    have h2 : one < bs.length := by omega
    have h3 : 0 ≤ two := by omega
    have h4 : two < bs.length := by omega
    have h5 : 0 ≤ n + one := by omega
    have h6 : n + one < bs.length := by omega
    have h7 : 0 ≤ n + two := by omega
    have h8 : n + two < bs.length := by omega
    have ha : atI (bs.map PV.int) two = some (.int (gv bs two)) := atI_gv h3 h4
    have hv : bs[two.toNat]? = some (gv bs two) := gv_get h3 h4
    have hvl := lt2 _ (List.mem_of_getElem? hv)
    have ha2 : atI (bs.map PV.int) (n + two) = some (.int (gv bs (n + two))) := atI_gv h7 h8
    have hv2 : bs[(n + two).toNat]? = some (gv bs (n + two)) := gv_get h7 h8
    have hvl2 := lt2 _ (List.mem_of_getElem? hv2)
    refine ⟨a4, b4, (bs.set one.toNat (gv bs two)).set (n + one).toNat (gv bs (n + two)), p4, ⟨n0, n4, by simpa using hl, set_lt (set_lt lt2 (by omega)) (by omega)⟩, ?_⟩
    have f1 := e_copied (ca := ca) (sto := sto) hg (holds2 h1 (by omega) h3 (by omega))
    rw [nums_copied h1 h3 hv] at f1
    have hl2 : (bs.set one.toNat (gv bs two)).length = bs.length := by simp
    have hg2 : Good (Num.numsOf (bs.set one.toNat (gv bs two))) := nums_good (by omega) (by omega)
    have hv3 : (bs.set one.toNat (gv bs two))[(n + two).toNat]? = some (gv bs (n + two)) := by
      rw [List.getElem?_set_ne (by omega), hv2]
    have f2 := e_copied (ca := ca) (sto := sto) hg2 (holds2 h5 (by rw [nums_len]; omega) h7 (by rw [nums_len]; omega))
    rw [nums_copied h5 h7 hv3] at f2
    simp (config := { decide := false }) [dVal_ap, dC_ap, pLate_ap, dFrz_ap, pNow_ap, dOp_ap, dUn_ap, tCmp_ap, tOf_ap, tAnd_ap, tOr_ap, tNot_ap, dAnd_ap, dOr_ap, dNot_ap, dIf_ap, mOp_ap, aNil_ap, aV_ap, aIo_ap, dTup_ap, mLst_ap, qNil_ap, qC_ap, dCall_ap, mCall_ap, lNone_ap, lSome_ap, dSlT_ap, mSlL_ap, dFld_ap, gNm_ap, gsNil_ap, gsC_ap, gTp_ap, gIx_ap, sNx_ap, sSeq_ap, sEx_ap, sAsg_ap, sSetO_ap, sRet_ap, sRetO_ap, sRetNm_ap, sRetN_ap, sIf_ap, sNever_ap, sBk_ap, sCt_ap, gSet2_ap, gSet3_ap, sPar_ap, iL_ap, iT_ap, iR1_ap, iR2_ap, iEnL_ap, iEnT_ap, iZp_ap, iA_ap, iEnA_ap, mFn_ap, mFnT_ap, mMt_ap, mFnK_ap, mMk_ap, sFldSet_ap, mPr_ap, dChain_ap, dMl_ap, mRg1_ap, mRg2_ap, mV_ap, sParO_ap, mSortU_ap, putN, putP, rdAll, AV.pvs, oFld.eq_1, oFld.eq_2, lookP, callF, takeA, putA, okObj.eq_1, okObj.eq_2, isOf.eq_1, isOf.eq_2, PV.items.eq_1, PV.items.eq_2, PV.items.eq_3, PV.items.eq_4, dMt, PV.isLst.eq_1, PV.isLst.eq_2, S.set, MV.frz.eq_1, MV.frz.eq_2, MV.frz.eq_3, MV.frz.eq_4, heldM.eq_1, heldM.eq_2, valM.eq_1, valM.eq_2, finM, valsM, ofStr_beq, ofStr_eq, bIsi, bIsiT, PV.kind.eq_1, PV.kind.eq_2, PV.kind.eq_3, PV.kind.eq_4, PV.kind.eq_5, PV.kind.eq_6, PV.kind.eq_7, PV.kind.eq_8, isiB, BT.nm, PV.tys.eq_1, PV.tys.eq_2, PV.tys.eq_3, bLen.eq_1, bLen.eq_2, bLen.eq_3, bLen.eq_4, bLen.eq_5, bAbs.eq_1, bAbs.eq_2, bMax2.eq_1, bMax2.eq_2, bMin2.eq_1, bMin2.eq_2, bDivmod.eq_1, bDivmod.eq_2, divOk, bInt.eq_1, bInt.eq_2, bInt.eq_3, bList.eq_1, bList.eq_2, bTuple.eq_1, bTuple.eq_2, bTuple.eq_3, bAll.eq_1, bAll.eq_2, bAny.eq_1, bAny.eq_2, bls_bools, ints_ints, oEq, oNe, oIn, oNotIn, oInF, oNotInF, oIs, oIsNot, isNonP.eq_1, isNonP.eq_2, eqP_int, eqP_bl, eqP_tup, eqP_lst, inP_ints, inF_tup, inF_lst, oAdd, oSub, oMul, mulOk, oFdiv, oMod, oPow, powOk, oLt, oLe, oGt, oGe, uNeg, lExtend, lPop, lPopAt, lReverse, lIndex_ints, rgOk, valAt, S.wipe, wipeE, S.rest, restE, oI_c, oIc_c, lAppend_c, mkOut_c, oIxA_c, rngP_0, atI_0, atI_1, ixN_ok, bls_map, -List.map_map, all_tt, enP_ints, inF_items, turn_ap, lcT_ap, tTrue_ap, Option.bind_assoc, Option.map_bind, e1, e2, e3, e4, ← hside, q1, q2, h1, h2, h3, h4, h5, h6, h7, h8, ha, ha2, f1, f2]
end
end K17
namespace K17
open PySem L2 GG DD Num
section
variable {ca : Nat → Addr} {sto : List MV}
theorem sort_firsts {bs : List Int} : sortU (bs.map fun b => ((bs.idxOf b : Nat) : Int)) = firstsOf (Num.numsOf bs) :=
  asc_unique sortU_asc asc_firsts fun k => by rw [sortU_mem, mem_firsts_nums]
theorem e_is_shown {bs : List Int} (l1 : 1 ≤ bs.length) (l8 : bs.length ≤ 8) :
    f_l_is_shown ca [.val (.lst (bs.map .int)), .val (PtN ca bs)] sto = some (.val (.bl true), [.val (.lst (bs.map .int)), .val (PtN ca bs)], sto) := by
  have hnl : (Num.numsOf bs).length = bs.length := nums_len
  unfold f_l_is_shown runF b_l_is_shown
  simp (config := { decide := false }) [dVal_ap, dC_ap, pLate_ap, dFrz_ap, pNow_ap, dOp_ap, dUn_ap, tCmp_ap, tOf_ap, tAnd_ap, tOr_ap, tNot_ap, dAnd_ap, dOr_ap, dNot_ap, dIf_ap, mOp_ap, aNil_ap, aV_ap, aIo_ap, dTup_ap, mLst_ap, qNil_ap, qC_ap, dCall_ap, mCall_ap, lNone_ap, lSome_ap, dSlT_ap, mSlL_ap, dFld_ap, gNm_ap, gsNil_ap, gsC_ap, gTp_ap, gIx_ap, sNx_ap, sSeq_ap, sEx_ap, sAsg_ap, sSetO_ap, sRet_ap, sRetO_ap, sRetNm_ap, sRetN_ap, sIf_ap, sNever_ap, sBk_ap, sCt_ap, gSet2_ap, gSet3_ap, sPar_ap, iL_ap, iT_ap, iR1_ap, iR2_ap, iEnL_ap, iEnT_ap, iZp_ap, iA_ap, iEnA_ap, mFn_ap, mFnT_ap, mMt_ap, mFnK_ap, mMk_ap, sFldSet_ap, mPr_ap, dChain_ap, dMl_ap, mRg1_ap, mRg2_ap, mV_ap, sParO_ap, mSortU_ap, putN, putP, rdAll, AV.pvs, oFld.eq_1, oFld.eq_2, lookP, callF, takeA, putA, okObj.eq_1, okObj.eq_2, isOf.eq_1, isOf.eq_2, PV.items.eq_1, PV.items.eq_2, PV.items.eq_3, PV.items.eq_4, dMt, PV.isLst.eq_1, PV.isLst.eq_2, S.set, MV.frz.eq_1, MV.frz.eq_2, MV.frz.eq_3, MV.frz.eq_4, heldM.eq_1, heldM.eq_2, valM.eq_1, valM.eq_2, finM, valsM, ofStr_beq, ofStr_eq, bIsi, bIsiT, PV.kind.eq_1, PV.kind.eq_2, PV.kind.eq_3, PV.kind.eq_4, PV.kind.eq_5, PV.kind.eq_6, PV.kind.eq_7, PV.kind.eq_8, isiB, BT.nm, PV.tys.eq_1, PV.tys.eq_2, PV.tys.eq_3, bLen.eq_1, bLen.eq_2, bLen.eq_3, bLen.eq_4, bLen.eq_5, bAbs.eq_1, bAbs.eq_2, bMax2.eq_1, bMax2.eq_2, bMin2.eq_1, bMin2.eq_2, bDivmod.eq_1, bDivmod.eq_2, divOk, bInt.eq_1, bInt.eq_2, bInt.eq_3, bList.eq_1, bList.eq_2, bTuple.eq_1, bTuple.eq_2, bTuple.eq_3, bAll.eq_1, bAll.eq_2, bAny.eq_1, bAny.eq_2, bls_bools, ints_ints, oEq, oNe, oIn, oNotIn, oInF, oNotInF, oIs, oIsNot, isNonP.eq_1, isNonP.eq_2, eqP_int, eqP_bl, eqP_tup, eqP_lst, inP_ints, inF_tup, inF_lst, oAdd, oSub, oMul, mulOk, oFdiv, oMod, oPow, powOk, oLt, oLe, oGt, oGe, uNeg, lExtend, lPop, lPopAt, lReverse, lIndex_ints, rgOk, valAt, S.wipe, wipeE, S.rest, restE, oI_c, oIc_c, lAppend_c, mkOut_c, oIxA_c, rngP_0, atI_0, atI_1, ixN_ok, bls_map, -List.map_map, all_tt, enP_ints, inF_items, turn_ap, lcT_ap, tTrue_ap, Option.bind_assoc, Option.map_bind]
  refine for_bind bs.zipIdx (fun b => PV.tup [.int b.2, .int b.1]) (fun i s => ∃ k o u v : Option PV, s = ⟨[some (.val (.lst (bs.map .int))), some (.val (PtN ca bs)), k.map .val, o.map .val, u.map .val, v.map .val, none, none], sto⟩)
    (s0 := ⟨[some (.val (.lst (bs.map .int))), some (.val (PtN ca bs)), none, none, none, none, none, none], sto⟩) ?_ ⟨none, none, none, none, rfl⟩ ?_ ?_
  · simp (config := { decide := false }) [dVal_ap, dC_ap, pLate_ap, dFrz_ap, pNow_ap, dOp_ap, dUn_ap, tCmp_ap, tOf_ap, tAnd_ap, tOr_ap, tNot_ap, dAnd_ap, dOr_ap, dNot_ap, dIf_ap, mOp_ap, aNil_ap, aV_ap, aIo_ap, dTup_ap, mLst_ap, qNil_ap, qC_ap, dCall_ap, mCall_ap, lNone_ap, lSome_ap, dSlT_ap, mSlL_ap, dFld_ap, gNm_ap, gsNil_ap, gsC_ap, gTp_ap, gIx_ap, sNx_ap, sSeq_ap, sEx_ap, sAsg_ap, sSetO_ap, sRet_ap, sRetO_ap, sRetNm_ap, sRetN_ap, sIf_ap, sNever_ap, sBk_ap, sCt_ap, gSet2_ap, gSet3_ap, sPar_ap, iL_ap, iT_ap, iR1_ap, iR2_ap, iEnL_ap, iEnT_ap, iZp_ap, iA_ap, iEnA_ap, mFn_ap, mFnT_ap, mMt_ap, mFnK_ap, mMk_ap, sFldSet_ap, mPr_ap, dChain_ap, dMl_ap, mRg1_ap, mRg2_ap, mV_ap, sParO_ap, mSortU_ap, putN, putP, rdAll, AV.pvs, oFld.eq_1, oFld.eq_2, lookP, callF, takeA, putA, okObj.eq_1, okObj.eq_2, isOf.eq_1, isOf.eq_2, PV.items.eq_1, PV.items.eq_2, PV.items.eq_3, PV.items.eq_4, dMt, PV.isLst.eq_1, PV.isLst.eq_2, S.set, MV.frz.eq_1, MV.frz.eq_2, MV.frz.eq_3, MV.frz.eq_4, heldM.eq_1, heldM.eq_2, valM.eq_1, valM.eq_2, finM, valsM, ofStr_beq, ofStr_eq, bIsi, bIsiT, PV.kind.eq_1, PV.kind.eq_2, PV.kind.eq_3, PV.kind.eq_4, PV.kind.eq_5, PV.kind.eq_6, PV.kind.eq_7, PV.kind.eq_8, isiB, BT.nm, PV.tys.eq_1, PV.tys.eq_2, PV.tys.eq_3, bLen.eq_1, bLen.eq_2, bLen.eq_3, bLen.eq_4, bLen.eq_5, bAbs.eq_1, bAbs.eq_2, bMax2.eq_1, bMax2.eq_2, bMin2.eq_1, bMin2.eq_2, bDivmod.eq_1, bDivmod.eq_2, divOk, bInt.eq_1, bInt.eq_2, bInt.eq_3, bList.eq_1, bList.eq_2, bTuple.eq_1, bTuple.eq_2, bTuple.eq_3, bAll.eq_1, bAll.eq_2, bAny.eq_1, bAny.eq_2, bls_bools, ints_ints, oEq, oNe, oIn, oNotIn, oInF, oNotInF, oIs, oIsNot, isNonP.eq_1, isNonP.eq_2, eqP_int, eqP_bl, eqP_tup, eqP_lst, inP_ints, inF_tup, inF_lst, oAdd, oSub, oMul, mulOk, oFdiv, oMod, oPow, powOk, oLt, oLe, oGt, oGe, uNeg, lExtend, lPop, lPopAt, lReverse, lIndex_ints, rgOk, valAt, S.wipe, wipeE, S.rest, restE, oI_c, oIc_c, lAppend_c, mkOut_c, oIxA_c, rngP_0, atI_0, atI_1, ixN_ok, bls_map, -List.map_map, all_tt, enP_ints, inF_items, turn_ap, lcT_ap, tTrue_ap, Option.bind_assoc, Option.map_bind]
  · rintro i ⟨b, k⟩ s hi ⟨k0, o0, u, v, rfl⟩
    obtain ⟨hb, rfl⟩ := getElem?_zipIdx hi
    have hk := (List.getElem?_eq_some_iff.mp hb).1
    simp (config := { decide := false }) [dVal_ap, dC_ap, pLate_ap, dFrz_ap, pNow_ap, dOp_ap, dUn_ap, tCmp_ap, tOf_ap, tAnd_ap, tOr_ap, tNot_ap, dAnd_ap, dOr_ap, dNot_ap, dIf_ap, mOp_ap, aNil_ap, aV_ap, aIo_ap, dTup_ap, mLst_ap, qNil_ap, qC_ap, dCall_ap, mCall_ap, lNone_ap, lSome_ap, dSlT_ap, mSlL_ap, dFld_ap, gNm_ap, gsNil_ap, gsC_ap, gTp_ap, gIx_ap, sNx_ap, sSeq_ap, sEx_ap, sAsg_ap, sSetO_ap, sRet_ap, sRetO_ap, sRetNm_ap, sRetN_ap, sIf_ap, sNever_ap, sBk_ap, sCt_ap, gSet2_ap, gSet3_ap, sPar_ap, iL_ap, iT_ap, iR1_ap, iR2_ap, iEnL_ap, iEnT_ap, iZp_ap, iA_ap, iEnA_ap, mFn_ap, mFnT_ap, mMt_ap, mFnK_ap, mMk_ap, sFldSet_ap, mPr_ap, dChain_ap, dMl_ap, mRg1_ap, mRg2_ap, mV_ap, sParO_ap, mSortU_ap, putN, putP, rdAll, AV.pvs, oFld.eq_1, oFld.eq_2, lookP, callF, takeA, putA, okObj.eq_1, okObj.eq_2, isOf.eq_1, isOf.eq_2, PV.items.eq_1, PV.items.eq_2, PV.items.eq_3, PV.items.eq_4, dMt, PV.isLst.eq_1, PV.isLst.eq_2, S.set, MV.frz.eq_1, MV.frz.eq_2, MV.frz.eq_3, MV.frz.eq_4, heldM.eq_1, heldM.eq_2, valM.eq_1, valM.eq_2, finM, valsM, ofStr_beq, ofStr_eq, bIsi, bIsiT, PV.kind.eq_1, PV.kind.eq_2, PV.kind.eq_3, PV.kind.eq_4, PV.kind.eq_5, PV.kind.eq_6, PV.kind.eq_7, PV.kind.eq_8, isiB, BT.nm, PV.tys.eq_1, PV.tys.eq_2, PV.tys.eq_3, bLen.eq_1, bLen.eq_2, bLen.eq_3, bLen.eq_4, bLen.eq_5, bAbs.eq_1, bAbs.eq_2, bMax2.eq_1, bMax2.eq_2, bMin2.eq_1, bMin2.eq_2, bDivmod.eq_1, bDivmod.eq_2, divOk, bInt.eq_1, bInt.eq_2, bInt.eq_3, bList.eq_1, bList.eq_2, bTuple.eq_1, bTuple.eq_2, bTuple.eq_3, bAll.eq_1, bAll.eq_2, bAny.eq_1, bAny.eq_2, bls_bools, ints_ints, oEq, oNe, oIn, oNotIn, oInF, oNotInF, oIs, oIsNot, isNonP.eq_1, isNonP.eq_2, eqP_int, eqP_bl, eqP_tup, eqP_lst, inP_ints, inF_tup, inF_lst, oAdd, oSub, oMul, mulOk, oFdiv, oMod, oPow, powOk, oLt, oLe, oGt, oGe, uNeg, lExtend, lPop, lPopAt, lReverse, lIndex_ints, rgOk, valAt, S.wipe, wipeE, S.rest, restE, oI_c, oIc_c, lAppend_c, mkOut_c, oIxA_c, rngP_0, atI_0, atI_1, ixN_ok, bls_map, -List.map_map, all_tt, enP_ints, inF_items, turn_ap, lcT_ap, tTrue_ap, Option.bind_assoc, Option.map_bind]
    refine for_bindE bs.zipIdx (fun b => PV.tup [.int b.2, .int b.1]) (fun i s => ∃ u v : Option PV, s = ⟨[some (.val (.lst (bs.map .int))), some (.val (PtN ca bs)), some (.val (.int k)), some (.val (.int b)), u.map .val, v.map .val, none, none], sto⟩)
      (s0 := ⟨[some (.val (.lst (bs.map .int))), some (.val (PtN ca bs)), some (.val (.int k)), some (.val (.int b)), u.map .val, v.map .val, none, none], sto⟩) ?_ ⟨_, _, rfl⟩ ?_ ?_
    · simp (config := { decide := false }) [dVal_ap, dC_ap, pLate_ap, dFrz_ap, pNow_ap, dOp_ap, dUn_ap, tCmp_ap, tOf_ap, tAnd_ap, tOr_ap, tNot_ap, dAnd_ap, dOr_ap, dNot_ap, dIf_ap, mOp_ap, aNil_ap, aV_ap, aIo_ap, dTup_ap, mLst_ap, qNil_ap, qC_ap, dCall_ap, mCall_ap, lNone_ap, lSome_ap, dSlT_ap, mSlL_ap, dFld_ap, gNm_ap, gsNil_ap, gsC_ap, gTp_ap, gIx_ap, sNx_ap, sSeq_ap, sEx_ap, sAsg_ap, sSetO_ap, sRet_ap, sRetO_ap, sRetNm_ap, sRetN_ap, sIf_ap, sNever_ap, sBk_ap, sCt_ap, gSet2_ap, gSet3_ap, sPar_ap, iL_ap, iT_ap, iR1_ap, iR2_ap, iEnL_ap, iEnT_ap, iZp_ap, iA_ap, iEnA_ap, mFn_ap, mFnT_ap, mMt_ap, mFnK_ap, mMk_ap, sFldSet_ap, mPr_ap, dChain_ap, dMl_ap, mRg1_ap, mRg2_ap, mV_ap, sParO_ap, mSortU_ap, putN, putP, rdAll, AV.pvs, oFld.eq_1, oFld.eq_2, lookP, callF, takeA, putA, okObj.eq_1, okObj.eq_2, isOf.eq_1, isOf.eq_2, PV.items.eq_1, PV.items.eq_2, PV.items.eq_3, PV.items.eq_4, dMt, PV.isLst.eq_1, PV.isLst.eq_2, S.set, MV.frz.eq_1, MV.frz.eq_2, MV.frz.eq_3, MV.frz.eq_4, heldM.eq_1, heldM.eq_2, valM.eq_1, valM.eq_2, finM, valsM, ofStr_beq, ofStr_eq, bIsi, bIsiT, PV.kind.eq_1, PV.kind.eq_2, PV.kind.eq_3, PV.kind.eq_4, PV.kind.eq_5, PV.kind.eq_6, PV.kind.eq_7, PV.kind.eq_8, isiB, BT.nm, PV.tys.eq_1, PV.tys.eq_2, PV.tys.eq_3, bLen.eq_1, bLen.eq_2, bLen.eq_3, bLen.eq_4, bLen.eq_5, bAbs.eq_1, bAbs.eq_2, bMax2.eq_1, bMax2.eq_2, bMin2.eq_1, bMin2.eq_2, bDivmod.eq_1, bDivmod.eq_2, divOk, bInt.eq_1, bInt.eq_2, bInt.eq_3, bList.eq_1, bList.eq_2, bTuple.eq_1, bTuple.eq_2, bTuple.eq_3, bAll.eq_1, bAll.eq_2, bAny.eq_1, bAny.eq_2, bls_bools, ints_ints, oEq, oNe, oIn, oNotIn, oInF, oNotInF, oIs, oIsNot, isNonP.eq_1, isNonP.eq_2, eqP_int, eqP_bl, eqP_tup, eqP_lst, inP_ints, inF_tup, inF_lst, oAdd, oSub, oMul, mulOk, oFdiv, oMod, oPow, powOk, oLt, oLe, oGt, oGe, uNeg, lExtend, lPop, lPopAt, lReverse, lIndex_ints, rgOk, valAt, S.wipe, wipeE, S.rest, restE, oI_c, oIc_c, lAppend_c, mkOut_c, oIxA_c, rngP_0, atI_0, atI_1, ixN_ok, bls_map, -List.map_map, all_tt, enP_ints, inF_items, turn_ap, lcT_ap, tTrue_ap, Option.bind_assoc, Option.map_bind]
    · rintro j ⟨c, n⟩ s hj ⟨u, v, rfl⟩
      obtain ⟨hc, rfl⟩ := getElem?_zipIdx hj
      have hn := (List.getElem?_eq_some_iff.mp hc).1
      have f1 := e_alike (ca := ca) (sto := sto) (cs := Num.numsOf bs) (hs := [(k : Int), (n : Int)]) (holds2 (by omega) (by omega) (by omega) (by omega))
      rw [alike_two hb hc] at f1
      simp only [List.map_cons, List.map_nil] at f1
      refine ⟨_, ?_, some (.int n), some (.int c), rfl⟩
      by_cases hbc : b = c
      · simp only [hbc, decide_true] at f1
        simp (config := { decide := false }) [dVal_ap, dC_ap, pLate_ap, dFrz_ap, pNow_ap, dOp_ap, dUn_ap, tCmp_ap, tOf_ap, tAnd_ap, tOr_ap, tNot_ap, dAnd_ap, dOr_ap, dNot_ap, dIf_ap, mOp_ap, aNil_ap, aV_ap, aIo_ap, dTup_ap, mLst_ap, qNil_ap, qC_ap, dCall_ap, mCall_ap, lNone_ap, lSome_ap, dSlT_ap, mSlL_ap, dFld_ap, gNm_ap, gsNil_ap, gsC_ap, gTp_ap, gIx_ap, sNx_ap, sSeq_ap, sEx_ap, sAsg_ap, sSetO_ap, sRet_ap, sRetO_ap, sRetNm_ap, sRetN_ap, sIf_ap, sNever_ap, sBk_ap, sCt_ap, gSet2_ap, gSet3_ap, sPar_ap, iL_ap, iT_ap, iR1_ap, iR2_ap, iEnL_ap, iEnT_ap, iZp_ap, iA_ap, iEnA_ap, mFn_ap, mFnT_ap, mMt_ap, mFnK_ap, mMk_ap, sFldSet_ap, mPr_ap, dChain_ap, dMl_ap, mRg1_ap, mRg2_ap, mV_ap, sParO_ap, mSortU_ap, putN, putP, rdAll, AV.pvs, oFld.eq_1, oFld.eq_2, lookP, callF, takeA, putA, okObj.eq_1, okObj.eq_2, isOf.eq_1, isOf.eq_2, PV.items.eq_1, PV.items.eq_2, PV.items.eq_3, PV.items.eq_4, dMt, PV.isLst.eq_1, PV.isLst.eq_2, S.set, MV.frz.eq_1, MV.frz.eq_2, MV.frz.eq_3, MV.frz.eq_4, heldM.eq_1, heldM.eq_2, valM.eq_1, valM.eq_2, finM, valsM, ofStr_beq, ofStr_eq, bIsi, bIsiT, PV.kind.eq_1, PV.kind.eq_2, PV.kind.eq_3, PV.kind.eq_4, PV.kind.eq_5, PV.kind.eq_6, PV.kind.eq_7, PV.kind.eq_8, isiB, BT.nm, PV.tys.eq_1, PV.tys.eq_2, PV.tys.eq_3, bLen.eq_1, bLen.eq_2, bLen.eq_3, bLen.eq_4, bLen.eq_5, bAbs.eq_1, bAbs.eq_2, bMax2.eq_1, bMax2.eq_2, bMin2.eq_1, bMin2.eq_2, bDivmod.eq_1, bDivmod.eq_2, divOk, bInt.eq_1, bInt.eq_2, bInt.eq_3, bList.eq_1, bList.eq_2, bTuple.eq_1, bTuple.eq_2, bTuple.eq_3, bAll.eq_1, bAll.eq_2, bAny.eq_1, bAny.eq_2, bls_bools, ints_ints, oEq, oNe, oIn, oNotIn, oInF, oNotInF, oIs, oIsNot, isNonP.eq_1, isNonP.eq_2, eqP_int, eqP_bl, eqP_tup, eqP_lst, inP_ints, inF_tup, inF_lst, oAdd, oSub, oMul, mulOk, oFdiv, oMod, oPow, powOk, oLt, oLe, oGt, oGe, uNeg, lExtend, lPop, lPopAt, lReverse, lIndex_ints, rgOk, valAt, S.wipe, wipeE, S.rest, restE, oI_c, oIc_c, lAppend_c, mkOut_c, oIxA_c, rngP_0, atI_0, atI_1, ixN_ok, bls_map, -List.map_map, all_tt, enP_ints, inF_items, turn_ap, lcT_ap, tTrue_ap, Option.bind_assoc, Option.map_bind, f1, hbc, reprT, eqP_TT]
      · simp only [hbc, decide_false] at f1
        simp (config := { decide := false }) [dVal_ap, dC_ap, pLate_ap, dFrz_ap, pNow_ap, dOp_ap, dUn_ap, tCmp_ap, tOf_ap, tAnd_ap, tOr_ap, tNot_ap, dAnd_ap, dOr_ap, dNot_ap, dIf_ap, mOp_ap, aNil_ap, aV_ap, aIo_ap, dTup_ap, mLst_ap, qNil_ap, qC_ap, dCall_ap, mCall_ap, lNone_ap, lSome_ap, dSlT_ap, mSlL_ap, dFld_ap, gNm_ap, gsNil_ap, gsC_ap, gTp_ap, gIx_ap, sNx_ap, sSeq_ap, sEx_ap, sAsg_ap, sSetO_ap, sRet_ap, sRetO_ap, sRetNm_ap, sRetN_ap, sIf_ap, sNever_ap, sBk_ap, sCt_ap, gSet2_ap, gSet3_ap, sPar_ap, iL_ap, iT_ap, iR1_ap, iR2_ap, iEnL_ap, iEnT_ap, iZp_ap, iA_ap, iEnA_ap, mFn_ap, mFnT_ap, mMt_ap, mFnK_ap, mMk_ap, sFldSet_ap, mPr_ap, dChain_ap, dMl_ap, mRg1_ap, mRg2_ap, mV_ap, sParO_ap, mSortU_ap, putN, putP, rdAll, AV.pvs, oFld.eq_1, oFld.eq_2, lookP, callF, takeA, putA, okObj.eq_1, okObj.eq_2, isOf.eq_1, isOf.eq_2, PV.items.eq_1, PV.items.eq_2, PV.items.eq_3, PV.items.eq_4, dMt, PV.isLst.eq_1, PV.isLst.eq_2, S.set, MV.frz.eq_1, MV.frz.eq_2, MV.frz.eq_3, MV.frz.eq_4, heldM.eq_1, heldM.eq_2, valM.eq_1, valM.eq_2, finM, valsM, ofStr_beq, ofStr_eq, bIsi, bIsiT, PV.kind.eq_1, PV.kind.eq_2, PV.kind.eq_3, PV.kind.eq_4, PV.kind.eq_5, PV.kind.eq_6, PV.kind.eq_7, PV.kind.eq_8, isiB, BT.nm, PV.tys.eq_1, PV.tys.eq_2, PV.tys.eq_3, bLen.eq_1, bLen.eq_2, bLen.eq_3, bLen.eq_4, bLen.eq_5, bAbs.eq_1, bAbs.eq_2, bMax2.eq_1, bMax2.eq_2, bMin2.eq_1, bMin2.eq_2, bDivmod.eq_1, bDivmod.eq_2, divOk, bInt.eq_1, bInt.eq_2, bInt.eq_3, bList.eq_1, bList.eq_2, bTuple.eq_1, bTuple.eq_2, bTuple.eq_3, bAll.eq_1, bAll.eq_2, bAny.eq_1, bAny.eq_2, bls_bools, ints_ints, oEq, oNe, oIn, oNotIn, oInF, oNotInF, oIs, oIsNot, isNonP.eq_1, isNonP.eq_2, eqP_int, eqP_bl, eqP_tup, eqP_lst, inP_ints, inF_tup, inF_lst, oAdd, oSub, oMul, mulOk, oFdiv, oMod, oPow, powOk, oLt, oLe, oGt, oGe, uNeg, lExtend, lPop, lPopAt, lReverse, lIndex_ints, rgOk, valAt, S.wipe, wipeE, S.rest, restE, oI_c, oIc_c, lAppend_c, mkOut_c, oIxA_c, rngP_0, atI_0, atI_1, ixN_ok, bls_map, -List.map_map, all_tt, enP_ints, inF_items, turn_ap, lcT_ap, tTrue_ap, Option.bind_assoc, Option.map_bind, f1, hbc, reprF, eqP_FF]
    · rintro s ⟨u, v, rfl⟩
      exact ⟨_, rfl, some _, some _, _, _, rfl⟩
  · rintro s ⟨k, o, u, v, rfl⟩
    simp (config := { decide := false }) [dVal_ap, dC_ap, pLate_ap, dFrz_ap, pNow_ap, dOp_ap, dUn_ap, tCmp_ap, tOf_ap, tAnd_ap, tOr_ap, tNot_ap, dAnd_ap, dOr_ap, dNot_ap, dIf_ap, mOp_ap, aNil_ap, aV_ap, aIo_ap, dTup_ap, mLst_ap, qNil_ap, qC_ap, dCall_ap, mCall_ap, lNone_ap, lSome_ap, dSlT_ap, mSlL_ap, dFld_ap, gNm_ap, gsNil_ap, gsC_ap, gTp_ap, gIx_ap, sNx_ap, sSeq_ap, sEx_ap, sAsg_ap, sSetO_ap, sRet_ap, sRetO_ap, sRetNm_ap, sRetN_ap, sIf_ap, sNever_ap, sBk_ap, sCt_ap, gSet2_ap, gSet3_ap, sPar_ap, iL_ap, iT_ap, iR1_ap, iR2_ap, iEnL_ap, iEnT_ap, iZp_ap, iA_ap, iEnA_ap, mFn_ap, mFnT_ap, mMt_ap, mFnK_ap, mMk_ap, sFldSet_ap, mPr_ap, dChain_ap, dMl_ap, mRg1_ap, mRg2_ap, mV_ap, sParO_ap, mSortU_ap, putN, putP, rdAll, AV.pvs, oFld.eq_1, oFld.eq_2, lookP, callF, takeA, putA, okObj.eq_1, okObj.eq_2, isOf.eq_1, isOf.eq_2, PV.items.eq_1, PV.items.eq_2, PV.items.eq_3, PV.items.eq_4, dMt, PV.isLst.eq_1, PV.isLst.eq_2, S.set, MV.frz.eq_1, MV.frz.eq_2, MV.frz.eq_3, MV.frz.eq_4, heldM.eq_1, heldM.eq_2, valM.eq_1, valM.eq_2, finM, valsM, ofStr_beq, ofStr_eq, bIsi, bIsiT, PV.kind.eq_1, PV.kind.eq_2, PV.kind.eq_3, PV.kind.eq_4, PV.kind.eq_5, PV.kind.eq_6, PV.kind.eq_7, PV.kind.eq_8, isiB, BT.nm, PV.tys.eq_1, PV.tys.eq_2, PV.tys.eq_3, bLen.eq_1, bLen.eq_2, bLen.eq_3, bLen.eq_4, bLen.eq_5, bAbs.eq_1, bAbs.eq_2, bMax2.eq_1, bMax2.eq_2, bMin2.eq_1, bMin2.eq_2, bDivmod.eq_1, bDivmod.eq_2, divOk, bInt.eq_1, bInt.eq_2, bInt.eq_3, bList.eq_1, bList.eq_2, bTuple.eq_1, bTuple.eq_2, bTuple.eq_3, bAll.eq_1, bAll.eq_2, bAny.eq_1, bAny.eq_2, bls_bools, ints_ints, oEq, oNe, oIn, oNotIn, oInF, oNotInF, oIs, oIsNot, isNonP.eq_1, isNonP.eq_2, eqP_int, eqP_bl, eqP_tup, eqP_lst, inP_ints, inF_tup, inF_lst, oAdd, oSub, oMul, mulOk, oFdiv, oMod, oPow, powOk, oLt, oLe, oGt, oGe, uNeg, lExtend, lPop, lPopAt, lReverse, lIndex_ints, rgOk, valAt, S.wipe, wipeE, S.rest, restE, oI_c, oIc_c, lAppend_c, mkOut_c, oIxA_c, rngP_0, atI_0, atI_1, ixN_ok, bls_map, -List.map_map, all_tt, enP_ints, inF_items, turn_ap, lcT_ap, tTrue_ap, Option.bind_assoc, Option.map_bind]
    rw [lc_map bs .int (fun b => .int ((bs.idxOf b : Nat) : Int)) (s1 := ⟨[some (.val (.lst (bs.map .int))), some (.val (PtN ca bs)), k.map .val, o.map .val, u.map .val, v.map .val, none, none], sto⟩)]
    · have hw : (bs.map fun b => PV.int ((bs.idxOf b : Nat) : Int)) = (bs.map fun b => ((bs.idxOf b : Nat) : Int)).map .int := by simp
      have h64 : (bs.map fun b => ((bs.idxOf b : Nat) : Int)).length < 64 := by simp; omega
      rw [hw]
      have hsf := sort_firsts (bs := bs)
      generalize (bs.map fun b => ((bs.idxOf b : Nat) : Int)) = ks at h64 hsf ⊢
      simp (config := { decide := false }) [dVal_ap, dC_ap, pLate_ap, dFrz_ap, pNow_ap, dOp_ap, dUn_ap, tCmp_ap, tOf_ap, tAnd_ap, tOr_ap, tNot_ap, dAnd_ap, dOr_ap, dNot_ap, dIf_ap, mOp_ap, aNil_ap, aV_ap, aIo_ap, dTup_ap, mLst_ap, qNil_ap, qC_ap, dCall_ap, mCall_ap, lNone_ap, lSome_ap, dSlT_ap, mSlL_ap, dFld_ap, gNm_ap, gsNil_ap, gsC_ap, gTp_ap, gIx_ap, sNx_ap, sSeq_ap, sEx_ap, sAsg_ap, sSetO_ap, sRet_ap, sRetO_ap, sRetNm_ap, sRetN_ap, sIf_ap, sNever_ap, sBk_ap, sCt_ap, gSet2_ap, gSet3_ap, sPar_ap, iL_ap, iT_ap, iR1_ap, iR2_ap, iEnL_ap, iEnT_ap, iZp_ap, iA_ap, iEnA_ap, mFn_ap, mFnT_ap, mMt_ap, mFnK_ap, mMk_ap, sFldSet_ap, mPr_ap, dChain_ap, dMl_ap, mRg1_ap, mRg2_ap, mV_ap, sParO_ap, mSortU_ap, putN, putP, rdAll, AV.pvs, oFld.eq_1, oFld.eq_2, lookP, callF, takeA, putA, okObj.eq_1, okObj.eq_2, isOf.eq_1, isOf.eq_2, PV.items.eq_1, PV.items.eq_2, PV.items.eq_3, PV.items.eq_4, dMt, PV.isLst.eq_1, PV.isLst.eq_2, S.set, MV.frz.eq_1, MV.frz.eq_2, MV.frz.eq_3, MV.frz.eq_4, heldM.eq_1, heldM.eq_2, valM.eq_1, valM.eq_2, finM, valsM, ofStr_beq, ofStr_eq, bIsi, bIsiT, PV.kind.eq_1, PV.kind.eq_2, PV.kind.eq_3, PV.kind.eq_4, PV.kind.eq_5, PV.kind.eq_6, PV.kind.eq_7, PV.kind.eq_8, isiB, BT.nm, PV.tys.eq_1, PV.tys.eq_2, PV.tys.eq_3, bLen.eq_1, bLen.eq_2, bLen.eq_3, bLen.eq_4, bLen.eq_5, bAbs.eq_1, bAbs.eq_2, bMax2.eq_1, bMax2.eq_2, bMin2.eq_1, bMin2.eq_2, bDivmod.eq_1, bDivmod.eq_2, divOk, bInt.eq_1, bInt.eq_2, bInt.eq_3, bList.eq_1, bList.eq_2, bTuple.eq_1, bTuple.eq_2, bTuple.eq_3, bAll.eq_1, bAll.eq_2, bAny.eq_1, bAny.eq_2, bls_bools, ints_ints, oEq, oNe, oIn, oNotIn, oInF, oNotInF, oIs, oIsNot, isNonP.eq_1, isNonP.eq_2, eqP_int, eqP_bl, eqP_tup, eqP_lst, inP_ints, inF_tup, inF_lst, oAdd, oSub, oMul, mulOk, oFdiv, oMod, oPow, powOk, oLt, oLe, oGt, oGe, uNeg, lExtend, lPop, lPopAt, lReverse, lIndex_ints, rgOk, valAt, S.wipe, wipeE, S.rest, restE, oI_c, oIc_c, lAppend_c, mkOut_c, oIxA_c, rngP_0, atI_0, atI_1, ixN_ok, bls_map, -List.map_map, all_tt, enP_ints, inF_items, turn_ap, lcT_ap, tTrue_ap, Option.bind_assoc, Option.map_bind, h64, hsf]
      rw [lc_map (firstsOf (Num.numsOf bs)) .int (fun f => .lst ((membersOf bs (gv bs f)).map .int)) (s1 := ⟨[some (.val (.lst (bs.map .int))), some (.val (PtN ca bs)), k.map .val, o.map .val, u.map .val, v.map .val, some (.val (.lst ((firstsOf (Num.numsOf bs)).map .int))), none], sto⟩)]
      · have hw2 : ((firstsOf (Num.numsOf bs)).map fun f => PV.lst ((membersOf bs (gv bs f)).map .int)) = (groupsOf (Num.numsOf bs)).map fun g => .lst (g.map .int) := by
          unfold groupsOf
          rw [List.map_map]
          refine List.map_congr_left fun f hf => ?_
          have h3 := firsts_in hf
          simp only [Function.comp_apply]
          rw [members_nums h3.1 (by omega)]
        rw [hw2]
        have g1 := e_groups (ca := ca) (sto := sto) (cs := Num.numsOf bs) (by omega)
        have g2 := e_gone (ca := ca) (sto := sto) (cs := Num.numsOf bs) (by omega)
        have g3 := e_numbers (ca := ca) (sto := sto) (bs := bs) (by omega)
        have g4 := e_classes (ca := ca) (sto := sto) (cs := Num.numsOf bs)
        rw [gone_nums] at g2
        have g5 : eqP (.lst []) (.lst []) = some true := by decide +kernel
        simp (config := { decide := false }) [dVal_ap, dC_ap, pLate_ap, dFrz_ap, pNow_ap, dOp_ap, dUn_ap, tCmp_ap, tOf_ap, tAnd_ap, tOr_ap, tNot_ap, dAnd_ap, dOr_ap, dNot_ap, dIf_ap, mOp_ap, aNil_ap, aV_ap, aIo_ap, dTup_ap, mLst_ap, qNil_ap, qC_ap, dCall_ap, mCall_ap, lNone_ap, lSome_ap, dSlT_ap, mSlL_ap, dFld_ap, gNm_ap, gsNil_ap, gsC_ap, gTp_ap, gIx_ap, sNx_ap, sSeq_ap, sEx_ap, sAsg_ap, sSetO_ap, sRet_ap, sRetO_ap, sRetNm_ap, sRetN_ap, sIf_ap, sNever_ap, sBk_ap, sCt_ap, gSet2_ap, gSet3_ap, sPar_ap, iL_ap, iT_ap, iR1_ap, iR2_ap, iEnL_ap, iEnT_ap, iZp_ap, iA_ap, iEnA_ap, mFn_ap, mFnT_ap, mMt_ap, mFnK_ap, mMk_ap, sFldSet_ap, mPr_ap, dChain_ap, dMl_ap, mRg1_ap, mRg2_ap, mV_ap, sParO_ap, mSortU_ap, putN, putP, rdAll, AV.pvs, oFld.eq_1, oFld.eq_2, lookP, callF, takeA, putA, okObj.eq_1, okObj.eq_2, isOf.eq_1, isOf.eq_2, PV.items.eq_1, PV.items.eq_2, PV.items.eq_3, PV.items.eq_4, dMt, PV.isLst.eq_1, PV.isLst.eq_2, S.set, MV.frz.eq_1, MV.frz.eq_2, MV.frz.eq_3, MV.frz.eq_4, heldM.eq_1, heldM.eq_2, valM.eq_1, valM.eq_2, finM, valsM, ofStr_beq, ofStr_eq, bIsi, bIsiT, PV.kind.eq_1, PV.kind.eq_2, PV.kind.eq_3, PV.kind.eq_4, PV.kind.eq_5, PV.kind.eq_6, PV.kind.eq_7, PV.kind.eq_8, isiB, BT.nm, PV.tys.eq_1, PV.tys.eq_2, PV.tys.eq_3, bLen.eq_1, bLen.eq_2, bLen.eq_3, bLen.eq_4, bLen.eq_5, bAbs.eq_1, bAbs.eq_2, bMax2.eq_1, bMax2.eq_2, bMin2.eq_1, bMin2.eq_2, bDivmod.eq_1, bDivmod.eq_2, divOk, bInt.eq_1, bInt.eq_2, bInt.eq_3, bList.eq_1, bList.eq_2, bTuple.eq_1, bTuple.eq_2, bTuple.eq_3, bAll.eq_1, bAll.eq_2, bAny.eq_1, bAny.eq_2, bls_bools, ints_ints, oEq, oNe, oIn, oNotIn, oInF, oNotInF, oIs, oIsNot, isNonP.eq_1, isNonP.eq_2, eqP_int, eqP_bl, eqP_tup, eqP_lst, inP_ints, inF_tup, inF_lst, oAdd, oSub, oMul, mulOk, oFdiv, oMod, oPow, powOk, oLt, oLe, oGt, oGe, uNeg, lExtend, lPop, lPopAt, lReverse, lIndex_ints, rgOk, valAt, S.wipe, wipeE, S.rest, restE, oI_c, oIc_c, lAppend_c, mkOut_c, oIxA_c, rngP_0, atI_0, atI_1, ixN_ok, bls_map, -List.map_map, all_tt, enP_ints, inF_items, turn_ap, lcT_ap, tTrue_ap, Option.bind_assoc, Option.map_bind, g1, g2, g3, g4, g5, eqP_lsts]
      · simp (config := { decide := false }) [dVal_ap, dC_ap, pLate_ap, dFrz_ap, pNow_ap, dOp_ap, dUn_ap, tCmp_ap, tOf_ap, tAnd_ap, tOr_ap, tNot_ap, dAnd_ap, dOr_ap, dNot_ap, dIf_ap, mOp_ap, aNil_ap, aV_ap, aIo_ap, dTup_ap, mLst_ap, qNil_ap, qC_ap, dCall_ap, mCall_ap, lNone_ap, lSome_ap, dSlT_ap, mSlL_ap, dFld_ap, gNm_ap, gsNil_ap, gsC_ap, gTp_ap, gIx_ap, sNx_ap, sSeq_ap, sEx_ap, sAsg_ap, sSetO_ap, sRet_ap, sRetO_ap, sRetNm_ap, sRetN_ap, sIf_ap, sNever_ap, sBk_ap, sCt_ap, gSet2_ap, gSet3_ap, sPar_ap, iL_ap, iT_ap, iR1_ap, iR2_ap, iEnL_ap, iEnT_ap, iZp_ap, iA_ap, iEnA_ap, mFn_ap, mFnT_ap, mMt_ap, mFnK_ap, mMk_ap, sFldSet_ap, mPr_ap, dChain_ap, dMl_ap, mRg1_ap, mRg2_ap, mV_ap, sParO_ap, mSortU_ap, putN, putP, rdAll, AV.pvs, oFld.eq_1, oFld.eq_2, lookP, callF, takeA, putA, okObj.eq_1, okObj.eq_2, isOf.eq_1, isOf.eq_2, PV.items.eq_1, PV.items.eq_2, PV.items.eq_3, PV.items.eq_4, dMt, PV.isLst.eq_1, PV.isLst.eq_2, S.set, MV.frz.eq_1, MV.frz.eq_2, MV.frz.eq_3, MV.frz.eq_4, heldM.eq_1, heldM.eq_2, valM.eq_1, valM.eq_2, finM, valsM, ofStr_beq, ofStr_eq, bIsi, bIsiT, PV.kind.eq_1, PV.kind.eq_2, PV.kind.eq_3, PV.kind.eq_4, PV.kind.eq_5, PV.kind.eq_6, PV.kind.eq_7, PV.kind.eq_8, isiB, BT.nm, PV.tys.eq_1, PV.tys.eq_2, PV.tys.eq_3, bLen.eq_1, bLen.eq_2, bLen.eq_3, bLen.eq_4, bLen.eq_5, bAbs.eq_1, bAbs.eq_2, bMax2.eq_1, bMax2.eq_2, bMin2.eq_1, bMin2.eq_2, bDivmod.eq_1, bDivmod.eq_2, divOk, bInt.eq_1, bInt.eq_2, bInt.eq_3, bList.eq_1, bList.eq_2, bTuple.eq_1, bTuple.eq_2, bTuple.eq_3, bAll.eq_1, bAll.eq_2, bAny.eq_1, bAny.eq_2, bls_bools, ints_ints, oEq, oNe, oIn, oNotIn, oInF, oNotInF, oIs, oIsNot, isNonP.eq_1, isNonP.eq_2, eqP_int, eqP_bl, eqP_tup, eqP_lst, inP_ints, inF_tup, inF_lst, oAdd, oSub, oMul, mulOk, oFdiv, oMod, oPow, powOk, oLt, oLe, oGt, oGe, uNeg, lExtend, lPop, lPopAt, lReverse, lIndex_ints, rgOk, valAt, S.wipe, wipeE, S.rest, restE, oI_c, oIc_c, lAppend_c, mkOut_c, oIxA_c, rngP_0, atI_0, atI_1, ixN_ok, bls_map, -List.map_map, all_tt, enP_ints, inF_items, turn_ap, lcT_ap, tTrue_ap, Option.bind_assoc, Option.map_bind]
      · cases k <;> simp (config := { decide := false }) [dVal_ap, dC_ap, pLate_ap, dFrz_ap, pNow_ap, dOp_ap, dUn_ap, tCmp_ap, tOf_ap, tAnd_ap, tOr_ap, tNot_ap, dAnd_ap, dOr_ap, dNot_ap, dIf_ap, mOp_ap, aNil_ap, aV_ap, aIo_ap, dTup_ap, mLst_ap, qNil_ap, qC_ap, dCall_ap, mCall_ap, lNone_ap, lSome_ap, dSlT_ap, mSlL_ap, dFld_ap, gNm_ap, gsNil_ap, gsC_ap, gTp_ap, gIx_ap, sNx_ap, sSeq_ap, sEx_ap, sAsg_ap, sSetO_ap, sRet_ap, sRetO_ap, sRetNm_ap, sRetN_ap, sIf_ap, sNever_ap, sBk_ap, sCt_ap, gSet2_ap, gSet3_ap, sPar_ap, iL_ap, iT_ap, iR1_ap, iR2_ap, iEnL_ap, iEnT_ap, iZp_ap, iA_ap, iEnA_ap, mFn_ap, mFnT_ap, mMt_ap, mFnK_ap, mMk_ap, sFldSet_ap, mPr_ap, dChain_ap, dMl_ap, mRg1_ap, mRg2_ap, mV_ap, sParO_ap, mSortU_ap, putN, putP, rdAll, AV.pvs, oFld.eq_1, oFld.eq_2, lookP, callF, takeA, putA, okObj.eq_1, okObj.eq_2, isOf.eq_1, isOf.eq_2, PV.items.eq_1, PV.items.eq_2, PV.items.eq_3, PV.items.eq_4, dMt, PV.isLst.eq_1, PV.isLst.eq_2, S.set, MV.frz.eq_1, MV.frz.eq_2, MV.frz.eq_3, MV.frz.eq_4, heldM.eq_1, heldM.eq_2, valM.eq_1, valM.eq_2, finM, valsM, ofStr_beq, ofStr_eq, bIsi, bIsiT, PV.kind.eq_1, PV.kind.eq_2, PV.kind.eq_3, PV.kind.eq_4, PV.kind.eq_5, PV.kind.eq_6, PV.kind.eq_7, PV.kind.eq_8, isiB, BT.nm, PV.tys.eq_1, PV.tys.eq_2, PV.tys.eq_3, bLen.eq_1, bLen.eq_2, bLen.eq_3, bLen.eq_4, bLen.eq_5, bAbs.eq_1, bAbs.eq_2, bMax2.eq_1, bMax2.eq_2, bMin2.eq_1, bMin2.eq_2, bDivmod.eq_1, bDivmod.eq_2, divOk, bInt.eq_1, bInt.eq_2, bInt.eq_3, bList.eq_1, bList.eq_2, bTuple.eq_1, bTuple.eq_2, bTuple.eq_3, bAll.eq_1, bAll.eq_2, bAny.eq_1, bAny.eq_2, bls_bools, ints_ints, oEq, oNe, oIn, oNotIn, oInF, oNotInF, oIs, oIsNot, isNonP.eq_1, isNonP.eq_2, eqP_int, eqP_bl, eqP_tup, eqP_lst, inP_ints, inF_tup, inF_lst, oAdd, oSub, oMul, mulOk, oFdiv, oMod, oPow, powOk, oLt, oLe, oGt, oGe, uNeg, lExtend, lPop, lPopAt, lReverse, lIndex_ints, rgOk, valAt, S.wipe, wipeE, S.rest, restE, oI_c, oIc_c, lAppend_c, mkOut_c, oIxA_c, rngP_0, atI_0, atI_1, ixN_ok, bls_map, -List.map_map, all_tt, enP_ints, inF_items, turn_ap, lcT_ap, tTrue_ap, Option.bind_assoc, Option.map_bind]
      · have := firsts_len (cs := Num.numsOf bs)
        omega
      · intro f hf
        have h3 := firsts_in hf
        have hlt : f < bs.length := by omega
        simp (config := { decide := false }) [dVal_ap, dC_ap, pLate_ap, dFrz_ap, pNow_ap, dOp_ap, dUn_ap, tCmp_ap, tOf_ap, tAnd_ap, tOr_ap, tNot_ap, dAnd_ap, dOr_ap, dNot_ap, dIf_ap, mOp_ap, aNil_ap, aV_ap, aIo_ap, dTup_ap, mLst_ap, qNil_ap, qC_ap, dCall_ap, mCall_ap, lNone_ap, lSome_ap, dSlT_ap, mSlL_ap, dFld_ap, gNm_ap, gsNil_ap, gsC_ap, gTp_ap, gIx_ap, sNx_ap, sSeq_ap, sEx_ap, sAsg_ap, sSetO_ap, sRet_ap, sRetO_ap, sRetNm_ap, sRetN_ap, sIf_ap, sNever_ap, sBk_ap, sCt_ap, gSet2_ap, gSet3_ap, sPar_ap, iL_ap, iT_ap, iR1_ap, iR2_ap, iEnL_ap, iEnT_ap, iZp_ap, iA_ap, iEnA_ap, mFn_ap, mFnT_ap, mMt_ap, mFnK_ap, mMk_ap, sFldSet_ap, mPr_ap, dChain_ap, dMl_ap, mRg1_ap, mRg2_ap, mV_ap, sParO_ap, mSortU_ap, putN, putP, rdAll, AV.pvs, oFld.eq_1, oFld.eq_2, lookP, callF, takeA, putA, okObj.eq_1, okObj.eq_2, isOf.eq_1, isOf.eq_2, PV.items.eq_1, PV.items.eq_2, PV.items.eq_3, PV.items.eq_4, dMt, PV.isLst.eq_1, PV.isLst.eq_2, S.set, MV.frz.eq_1, MV.frz.eq_2, MV.frz.eq_3, MV.frz.eq_4, heldM.eq_1, heldM.eq_2, valM.eq_1, valM.eq_2, finM, valsM, ofStr_beq, ofStr_eq, bIsi, bIsiT, PV.kind.eq_1, PV.kind.eq_2, PV.kind.eq_3, PV.kind.eq_4, PV.kind.eq_5, PV.kind.eq_6, PV.kind.eq_7, PV.kind.eq_8, isiB, BT.nm, PV.tys.eq_1, PV.tys.eq_2, PV.tys.eq_3, bLen.eq_1, bLen.eq_2, bLen.eq_3, bLen.eq_4, bLen.eq_5, bAbs.eq_1, bAbs.eq_2, bMax2.eq_1, bMax2.eq_2, bMin2.eq_1, bMin2.eq_2, bDivmod.eq_1, bDivmod.eq_2, divOk, bInt.eq_1, bInt.eq_2, bInt.eq_3, bList.eq_1, bList.eq_2, bTuple.eq_1, bTuple.eq_2, bTuple.eq_3, bAll.eq_1, bAll.eq_2, bAny.eq_1, bAny.eq_2, bls_bools, ints_ints, oEq, oNe, oIn, oNotIn, oInF, oNotInF, oIs, oIsNot, isNonP.eq_1, isNonP.eq_2, eqP_int, eqP_bl, eqP_tup, eqP_lst, inP_ints, inF_tup, inF_lst, oAdd, oSub, oMul, mulOk, oFdiv, oMod, oPow, powOk, oLt, oLe, oGt, oGe, uNeg, lExtend, lPop, lPopAt, lReverse, lIndex_ints, rgOk, valAt, S.wipe, wipeE, S.rest, restE, oI_c, oIc_c, lAppend_c, mkOut_c, oIxA_c, rngP_0, atI_0, atI_1, ixN_ok, bls_map, -List.map_map, all_tt, enP_ints, inF_items, turn_ap, lcT_ap, tTrue_ap, Option.bind_assoc, Option.map_bind]
        rw [lc_pick bs.zipIdx (fun b => PV.tup [.int b.2, .int b.1]) (fun b => if b.1 = gv bs f then some (.int b.2) else none) (s1 := ⟨[some (.val (.lst (bs.map .int))), some (.val (PtN ca bs)), some (.val (.int f)), o.map .val, u.map .val, v.map .val, some (.val (.lst ((firstsOf (Num.numsOf bs)).map .int))), none], sto⟩)]
        · have hw3 : (bs.zipIdx.filterMap fun b => if b.1 = gv bs f then some (PV.int b.2) else none) = (membersOf bs (gv bs f)).map .int := by
            unfold membersOf
            rw [List.map_filterMap]
            congr 1
            funext b
            split <;> rfl
          rw [hw3]
          simp (config := { decide := false }) [dVal_ap, dC_ap, pLate_ap, dFrz_ap, pNow_ap, dOp_ap, dUn_ap, tCmp_ap, tOf_ap, tAnd_ap, tOr_ap, tNot_ap, dAnd_ap, dOr_ap, dNot_ap, dIf_ap, mOp_ap, aNil_ap, aV_ap, aIo_ap, dTup_ap, mLst_ap, qNil_ap, qC_ap, dCall_ap, mCall_ap, lNone_ap, lSome_ap, dSlT_ap, mSlL_ap, dFld_ap, gNm_ap, gsNil_ap, gsC_ap, gTp_ap, gIx_ap, sNx_ap, sSeq_ap, sEx_ap, sAsg_ap, sSetO_ap, sRet_ap, sRetO_ap, sRetNm_ap, sRetN_ap, sIf_ap, sNever_ap, sBk_ap, sCt_ap, gSet2_ap, gSet3_ap, sPar_ap, iL_ap, iT_ap, iR1_ap, iR2_ap, iEnL_ap, iEnT_ap, iZp_ap, iA_ap, iEnA_ap, mFn_ap, mFnT_ap, mMt_ap, mFnK_ap, mMk_ap, sFldSet_ap, mPr_ap, dChain_ap, dMl_ap, mRg1_ap, mRg2_ap, mV_ap, sParO_ap, mSortU_ap, putN, putP, rdAll, AV.pvs, oFld.eq_1, oFld.eq_2, lookP, callF, takeA, putA, okObj.eq_1, okObj.eq_2, isOf.eq_1, isOf.eq_2, PV.items.eq_1, PV.items.eq_2, PV.items.eq_3, PV.items.eq_4, dMt, PV.isLst.eq_1, PV.isLst.eq_2, S.set, MV.frz.eq_1, MV.frz.eq_2, MV.frz.eq_3, MV.frz.eq_4, heldM.eq_1, heldM.eq_2, valM.eq_1, valM.eq_2, finM, valsM, ofStr_beq, ofStr_eq, bIsi, bIsiT, PV.kind.eq_1, PV.kind.eq_2, PV.kind.eq_3, PV.kind.eq_4, PV.kind.eq_5, PV.kind.eq_6, PV.kind.eq_7, PV.kind.eq_8, isiB, BT.nm, PV.tys.eq_1, PV.tys.eq_2, PV.tys.eq_3, bLen.eq_1, bLen.eq_2, bLen.eq_3, bLen.eq_4, bLen.eq_5, bAbs.eq_1, bAbs.eq_2, bMax2.eq_1, bMax2.eq_2, bMin2.eq_1, bMin2.eq_2, bDivmod.eq_1, bDivmod.eq_2, divOk, bInt.eq_1, bInt.eq_2, bInt.eq_3, bList.eq_1, bList.eq_2, bTuple.eq_1, bTuple.eq_2, bTuple.eq_3, bAll.eq_1, bAll.eq_2, bAny.eq_1, bAny.eq_2, bls_bools, ints_ints, oEq, oNe, oIn, oNotIn, oInF, oNotInF, oIs, oIsNot, isNonP.eq_1, isNonP.eq_2, eqP_int, eqP_bl, eqP_tup, eqP_lst, inP_ints, inF_tup, inF_lst, oAdd, oSub, oMul, mulOk, oFdiv, oMod, oPow, powOk, oLt, oLe, oGt, oGe, uNeg, lExtend, lPop, lPopAt, lReverse, lIndex_ints, rgOk, valAt, S.wipe, wipeE, S.rest, restE, oI_c, oIc_c, lAppend_c, mkOut_c, oIxA_c, rngP_0, atI_0, atI_1, ixN_ok, bls_map, -List.map_map, all_tt, enP_ints, inF_items, turn_ap, lcT_ap, tTrue_ap, Option.bind_assoc, Option.map_bind]
        · simp (config := { decide := false }) [dVal_ap, dC_ap, pLate_ap, dFrz_ap, pNow_ap, dOp_ap, dUn_ap, tCmp_ap, tOf_ap, tAnd_ap, tOr_ap, tNot_ap, dAnd_ap, dOr_ap, dNot_ap, dIf_ap, mOp_ap, aNil_ap, aV_ap, aIo_ap, dTup_ap, mLst_ap, qNil_ap, qC_ap, dCall_ap, mCall_ap, lNone_ap, lSome_ap, dSlT_ap, mSlL_ap, dFld_ap, gNm_ap, gsNil_ap, gsC_ap, gTp_ap, gIx_ap, sNx_ap, sSeq_ap, sEx_ap, sAsg_ap, sSetO_ap, sRet_ap, sRetO_ap, sRetNm_ap, sRetN_ap, sIf_ap, sNever_ap, sBk_ap, sCt_ap, gSet2_ap, gSet3_ap, sPar_ap, iL_ap, iT_ap, iR1_ap, iR2_ap, iEnL_ap, iEnT_ap, iZp_ap, iA_ap, iEnA_ap, mFn_ap, mFnT_ap, mMt_ap, mFnK_ap, mMk_ap, sFldSet_ap, mPr_ap, dChain_ap, dMl_ap, mRg1_ap, mRg2_ap, mV_ap, sParO_ap, mSortU_ap, putN, putP, rdAll, AV.pvs, oFld.eq_1, oFld.eq_2, lookP, callF, takeA, putA, okObj.eq_1, okObj.eq_2, isOf.eq_1, isOf.eq_2, PV.items.eq_1, PV.items.eq_2, PV.items.eq_3, PV.items.eq_4, dMt, PV.isLst.eq_1, PV.isLst.eq_2, S.set, MV.frz.eq_1, MV.frz.eq_2, MV.frz.eq_3, MV.frz.eq_4, heldM.eq_1, heldM.eq_2, valM.eq_1, valM.eq_2, finM, valsM, ofStr_beq, ofStr_eq, bIsi, bIsiT, PV.kind.eq_1, PV.kind.eq_2, PV.kind.eq_3, PV.kind.eq_4, PV.kind.eq_5, PV.kind.eq_6, PV.kind.eq_7, PV.kind.eq_8, isiB, BT.nm, PV.tys.eq_1, PV.tys.eq_2, PV.tys.eq_3, bLen.eq_1, bLen.eq_2, bLen.eq_3, bLen.eq_4, bLen.eq_5, bAbs.eq_1, bAbs.eq_2, bMax2.eq_1, bMax2.eq_2, bMin2.eq_1, bMin2.eq_2, bDivmod.eq_1, bDivmod.eq_2, divOk, bInt.eq_1, bInt.eq_2, bInt.eq_3, bList.eq_1, bList.eq_2, bTuple.eq_1, bTuple.eq_2, bTuple.eq_3, bAll.eq_1, bAll.eq_2, bAny.eq_1, bAny.eq_2, bls_bools, ints_ints, oEq, oNe, oIn, oNotIn, oInF, oNotInF, oIs, oIsNot, isNonP.eq_1, isNonP.eq_2, eqP_int, eqP_bl, eqP_tup, eqP_lst, inP_ints, inF_tup, inF_lst, oAdd, oSub, oMul, mulOk, oFdiv, oMod, oPow, powOk, oLt, oLe, oGt, oGe, uNeg, lExtend, lPop, lPopAt, lReverse, lIndex_ints, rgOk, valAt, S.wipe, wipeE, S.rest, restE, oI_c, oIc_c, lAppend_c, mkOut_c, oIxA_c, rngP_0, atI_0, atI_1, ixN_ok, bls_map, -List.map_map, all_tt, enP_ints, inF_items, turn_ap, lcT_ap, tTrue_ap, Option.bind_assoc, Option.map_bind]
        · cases u <;> cases v <;> simp (config := { decide := false }) [dVal_ap, dC_ap, pLate_ap, dFrz_ap, pNow_ap, dOp_ap, dUn_ap, tCmp_ap, tOf_ap, tAnd_ap, tOr_ap, tNot_ap, dAnd_ap, dOr_ap, dNot_ap, dIf_ap, mOp_ap, aNil_ap, aV_ap, aIo_ap, dTup_ap, mLst_ap, qNil_ap, qC_ap, dCall_ap, mCall_ap, lNone_ap, lSome_ap, dSlT_ap, mSlL_ap, dFld_ap, gNm_ap, gsNil_ap, gsC_ap, gTp_ap, gIx_ap, sNx_ap, sSeq_ap, sEx_ap, sAsg_ap, sSetO_ap, sRet_ap, sRetO_ap, sRetNm_ap, sRetN_ap, sIf_ap, sNever_ap, sBk_ap, sCt_ap, gSet2_ap, gSet3_ap, sPar_ap, iL_ap, iT_ap, iR1_ap, iR2_ap, iEnL_ap, iEnT_ap, iZp_ap, iA_ap, iEnA_ap, mFn_ap, mFnT_ap, mMt_ap, mFnK_ap, mMk_ap, sFldSet_ap, mPr_ap, dChain_ap, dMl_ap, mRg1_ap, mRg2_ap, mV_ap, sParO_ap, mSortU_ap, putN, putP, rdAll, AV.pvs, oFld.eq_1, oFld.eq_2, lookP, callF, takeA, putA, okObj.eq_1, okObj.eq_2, isOf.eq_1, isOf.eq_2, PV.items.eq_1, PV.items.eq_2, PV.items.eq_3, PV.items.eq_4, dMt, PV.isLst.eq_1, PV.isLst.eq_2, S.set, MV.frz.eq_1, MV.frz.eq_2, MV.frz.eq_3, MV.frz.eq_4, heldM.eq_1, heldM.eq_2, valM.eq_1, valM.eq_2, finM, valsM, ofStr_beq, ofStr_eq, bIsi, bIsiT, PV.kind.eq_1, PV.kind.eq_2, PV.kind.eq_3, PV.kind.eq_4, PV.kind.eq_5, PV.kind.eq_6, PV.kind.eq_7, PV.kind.eq_8, isiB, BT.nm, PV.tys.eq_1, PV.tys.eq_2, PV.tys.eq_3, bLen.eq_1, bLen.eq_2, bLen.eq_3, bLen.eq_4, bLen.eq_5, bAbs.eq_1, bAbs.eq_2, bMax2.eq_1, bMax2.eq_2, bMin2.eq_1, bMin2.eq_2, bDivmod.eq_1, bDivmod.eq_2, divOk, bInt.eq_1, bInt.eq_2, bInt.eq_3, bList.eq_1, bList.eq_2, bTuple.eq_1, bTuple.eq_2, bTuple.eq_3, bAll.eq_1, bAll.eq_2, bAny.eq_1, bAny.eq_2, bls_bools, ints_ints, oEq, oNe, oIn, oNotIn, oInF, oNotInF, oIs, oIsNot, isNonP.eq_1, isNonP.eq_2, eqP_int, eqP_bl, eqP_tup, eqP_lst, inP_ints, inF_tup, inF_lst, oAdd, oSub, oMul, mulOk, oFdiv, oMod, oPow, powOk, oLt, oLe, oGt, oGe, uNeg, lExtend, lPop, lPopAt, lReverse, lIndex_ints, rgOk, valAt, S.wipe, wipeE, S.rest, restE, oI_c, oIc_c, lAppend_c, mkOut_c, oIxA_c, rngP_0, atI_0, atI_1, ixN_ok, bls_map, -List.map_map, all_tt, enP_ints, inF_items, turn_ap, lcT_ap, tTrue_ap, Option.bind_assoc, Option.map_bind]
        · simp
          omega
        · intro b hb
          by_cases h1 : b.1 = gv bs f <;> simp (config := { decide := false }) [dVal_ap, dC_ap, pLate_ap, dFrz_ap, pNow_ap, dOp_ap, dUn_ap, tCmp_ap, tOf_ap, tAnd_ap, tOr_ap, tNot_ap, dAnd_ap, dOr_ap, dNot_ap, dIf_ap, mOp_ap, aNil_ap, aV_ap, aIo_ap, dTup_ap, mLst_ap, qNil_ap, qC_ap, dCall_ap, mCall_ap, lNone_ap, lSome_ap, dSlT_ap, mSlL_ap, dFld_ap, gNm_ap, gsNil_ap, gsC_ap, gTp_ap, gIx_ap, sNx_ap, sSeq_ap, sEx_ap, sAsg_ap, sSetO_ap, sRet_ap, sRetO_ap, sRetNm_ap, sRetN_ap, sIf_ap, sNever_ap, sBk_ap, sCt_ap, gSet2_ap, gSet3_ap, sPar_ap, iL_ap, iT_ap, iR1_ap, iR2_ap, iEnL_ap, iEnT_ap, iZp_ap, iA_ap, iEnA_ap, mFn_ap, mFnT_ap, mMt_ap, mFnK_ap, mMk_ap, sFldSet_ap, mPr_ap, dChain_ap, dMl_ap, mRg1_ap, mRg2_ap, mV_ap, sParO_ap, mSortU_ap, putN, putP, rdAll, AV.pvs, oFld.eq_1, oFld.eq_2, lookP, callF, takeA, putA, okObj.eq_1, okObj.eq_2, isOf.eq_1, isOf.eq_2, PV.items.eq_1, PV.items.eq_2, PV.items.eq_3, PV.items.eq_4, dMt, PV.isLst.eq_1, PV.isLst.eq_2, S.set, MV.frz.eq_1, MV.frz.eq_2, MV.frz.eq_3, MV.frz.eq_4, heldM.eq_1, heldM.eq_2, valM.eq_1, valM.eq_2, finM, valsM, ofStr_beq, ofStr_eq, bIsi, bIsiT, PV.kind.eq_1, PV.kind.eq_2, PV.kind.eq_3, PV.kind.eq_4, PV.kind.eq_5, PV.kind.eq_6, PV.kind.eq_7, PV.kind.eq_8, isiB, BT.nm, PV.tys.eq_1, PV.tys.eq_2, PV.tys.eq_3, bLen.eq_1, bLen.eq_2, bLen.eq_3, bLen.eq_4, bLen.eq_5, bAbs.eq_1, bAbs.eq_2, bMax2.eq_1, bMax2.eq_2, bMin2.eq_1, bMin2.eq_2, bDivmod.eq_1, bDivmod.eq_2, divOk, bInt.eq_1, bInt.eq_2, bInt.eq_3, bList.eq_1, bList.eq_2, bTuple.eq_1, bTuple.eq_2, bTuple.eq_3, bAll.eq_1, bAll.eq_2, bAny.eq_1, bAny.eq_2, bls_bools, ints_ints, oEq, oNe, oIn, oNotIn, oInF, oNotInF, oIs, oIsNot, isNonP.eq_1, isNonP.eq_2, eqP_int, eqP_bl, eqP_tup, eqP_lst, inP_ints, inF_tup, inF_lst, oAdd, oSub, oMul, mulOk, oFdiv, oMod, oPow, powOk, oLt, oLe, oGt, oGe, uNeg, lExtend, lPop, lPopAt, lReverse, lIndex_ints, rgOk, valAt, S.wipe, wipeE, S.rest, restE, oI_c, oIc_c, lAppend_c, mkOut_c, oIxA_c, rngP_0, atI_0, atI_1, ixN_ok, bls_map, -List.map_map, all_tt, enP_ints, inF_items, turn_ap, lcT_ap, tTrue_ap, Option.bind_assoc, Option.map_bind, h1, atI_gv h3.1 hlt]
    · simp (config := { decide := false }) [dVal_ap, dC_ap, pLate_ap, dFrz_ap, pNow_ap, dOp_ap, dUn_ap, tCmp_ap, tOf_ap, tAnd_ap, tOr_ap, tNot_ap, dAnd_ap, dOr_ap, dNot_ap, dIf_ap, mOp_ap, aNil_ap, aV_ap, aIo_ap, dTup_ap, mLst_ap, qNil_ap, qC_ap, dCall_ap, mCall_ap, lNone_ap, lSome_ap, dSlT_ap, mSlL_ap, dFld_ap, gNm_ap, gsNil_ap, gsC_ap, gTp_ap, gIx_ap, sNx_ap, sSeq_ap, sEx_ap, sAsg_ap, sSetO_ap, sRet_ap, sRetO_ap, sRetNm_ap, sRetN_ap, sIf_ap, sNever_ap, sBk_ap, sCt_ap, gSet2_ap, gSet3_ap, sPar_ap, iL_ap, iT_ap, iR1_ap, iR2_ap, iEnL_ap, iEnT_ap, iZp_ap, iA_ap, iEnA_ap, mFn_ap, mFnT_ap, mMt_ap, mFnK_ap, mMk_ap, sFldSet_ap, mPr_ap, dChain_ap, dMl_ap, mRg1_ap, mRg2_ap, mV_ap, sParO_ap, mSortU_ap, putN, putP, rdAll, AV.pvs, oFld.eq_1, oFld.eq_2, lookP, callF, takeA, putA, okObj.eq_1, okObj.eq_2, isOf.eq_1, isOf.eq_2, PV.items.eq_1, PV.items.eq_2, PV.items.eq_3, PV.items.eq_4, dMt, PV.isLst.eq_1, PV.isLst.eq_2, S.set, MV.frz.eq_1, MV.frz.eq_2, MV.frz.eq_3, MV.frz.eq_4, heldM.eq_1, heldM.eq_2, valM.eq_1, valM.eq_2, finM, valsM, ofStr_beq, ofStr_eq, bIsi, bIsiT, PV.kind.eq_1, PV.kind.eq_2, PV.kind.eq_3, PV.kind.eq_4, PV.kind.eq_5, PV.kind.eq_6, PV.kind.eq_7, PV.kind.eq_8, isiB, BT.nm, PV.tys.eq_1, PV.tys.eq_2, PV.tys.eq_3, bLen.eq_1, bLen.eq_2, bLen.eq_3, bLen.eq_4, bLen.eq_5, bAbs.eq_1, bAbs.eq_2, bMax2.eq_1, bMax2.eq_2, bMin2.eq_1, bMin2.eq_2, bDivmod.eq_1, bDivmod.eq_2, divOk, bInt.eq_1, bInt.eq_2, bInt.eq_3, bList.eq_1, bList.eq_2, bTuple.eq_1, bTuple.eq_2, bTuple.eq_3, bAll.eq_1, bAll.eq_2, bAny.eq_1, bAny.eq_2, bls_bools, ints_ints, oEq, oNe, oIn, oNotIn, oInF, oNotInF, oIs, oIsNot, isNonP.eq_1, isNonP.eq_2, eqP_int, eqP_bl, eqP_tup, eqP_lst, inP_ints, inF_tup, inF_lst, oAdd, oSub, oMul, mulOk, oFdiv, oMod, oPow, powOk, oLt, oLe, oGt, oGe, uNeg, lExtend, lPop, lPopAt, lReverse, lIndex_ints, rgOk, valAt, S.wipe, wipeE, S.rest, restE, oI_c, oIc_c, lAppend_c, mkOut_c, oIxA_c, rngP_0, atI_0, atI_1, ixN_ok, bls_map, -List.map_map, all_tt, enP_ints, inF_items, turn_ap, lcT_ap, tTrue_ap, Option.bind_assoc, Option.map_bind]
    · cases o <;> simp (config := { decide := false }) [dVal_ap, dC_ap, pLate_ap, dFrz_ap, pNow_ap, dOp_ap, dUn_ap, tCmp_ap, tOf_ap, tAnd_ap, tOr_ap, tNot_ap, dAnd_ap, dOr_ap, dNot_ap, dIf_ap, mOp_ap, aNil_ap, aV_ap, aIo_ap, dTup_ap, mLst_ap, qNil_ap, qC_ap, dCall_ap, mCall_ap, lNone_ap, lSome_ap, dSlT_ap, mSlL_ap, dFld_ap, gNm_ap, gsNil_ap, gsC_ap, gTp_ap, gIx_ap, sNx_ap, sSeq_ap, sEx_ap, sAsg_ap, sSetO_ap, sRet_ap, sRetO_ap, sRetNm_ap, sRetN_ap, sIf_ap, sNever_ap, sBk_ap, sCt_ap, gSet2_ap, gSet3_ap, sPar_ap, iL_ap, iT_ap, iR1_ap, iR2_ap, iEnL_ap, iEnT_ap, iZp_ap, iA_ap, iEnA_ap, mFn_ap, mFnT_ap, mMt_ap, mFnK_ap, mMk_ap, sFldSet_ap, mPr_ap, dChain_ap, dMl_ap, mRg1_ap, mRg2_ap, mV_ap, sParO_ap, mSortU_ap, putN, putP, rdAll, AV.pvs, oFld.eq_1, oFld.eq_2, lookP, callF, takeA, putA, okObj.eq_1, okObj.eq_2, isOf.eq_1, isOf.eq_2, PV.items.eq_1, PV.items.eq_2, PV.items.eq_3, PV.items.eq_4, dMt, PV.isLst.eq_1, PV.isLst.eq_2, S.set, MV.frz.eq_1, MV.frz.eq_2, MV.frz.eq_3, MV.frz.eq_4, heldM.eq_1, heldM.eq_2, valM.eq_1, valM.eq_2, finM, valsM, ofStr_beq, ofStr_eq, bIsi, bIsiT, PV.kind.eq_1, PV.kind.eq_2, PV.kind.eq_3, PV.kind.eq_4, PV.kind.eq_5, PV.kind.eq_6, PV.kind.eq_7, PV.kind.eq_8, isiB, BT.nm, PV.tys.eq_1, PV.tys.eq_2, PV.tys.eq_3, bLen.eq_1, bLen.eq_2, bLen.eq_3, bLen.eq_4, bLen.eq_5, bAbs.eq_1, bAbs.eq_2, bMax2.eq_1, bMax2.eq_2, bMin2.eq_1, bMin2.eq_2, bDivmod.eq_1, bDivmod.eq_2, divOk, bInt.eq_1, bInt.eq_2, bInt.eq_3, bList.eq_1, bList.eq_2, bTuple.eq_1, bTuple.eq_2, bTuple.eq_3, bAll.eq_1, bAll.eq_2, bAny.eq_1, bAny.eq_2, bls_bools, ints_ints, oEq, oNe, oIn, oNotIn, oInF, oNotInF, oIs, oIsNot, isNonP.eq_1, isNonP.eq_2, eqP_int, eqP_bl, eqP_tup, eqP_lst, inP_ints, inF_tup, inF_lst, oAdd, oSub, oMul, mulOk, oFdiv, oMod, oPow, powOk, oLt, oLe, oGt, oGe, uNeg, lExtend, lPop, lPopAt, lReverse, lIndex_ints, rgOk, valAt, S.wipe, wipeE, S.rest, restE, oI_c, oIc_c, lAppend_c, mkOut_c, oIxA_c, rngP_0, atI_0, atI_1, ixN_ok, bls_map, -List.map_map, all_tt, enP_ints, inF_items, turn_ap, lcT_ap, tTrue_ap, Option.bind_assoc, Option.map_bind]
    · omega
    · intro b hb
      simp (config := { decide := false }) [dVal_ap, dC_ap, pLate_ap, dFrz_ap, pNow_ap, dOp_ap, dUn_ap, tCmp_ap, tOf_ap, tAnd_ap, tOr_ap, tNot_ap, dAnd_ap, dOr_ap, dNot_ap, dIf_ap, mOp_ap, aNil_ap, aV_ap, aIo_ap, dTup_ap, mLst_ap, qNil_ap, qC_ap, dCall_ap, mCall_ap, lNone_ap, lSome_ap, dSlT_ap, mSlL_ap, dFld_ap, gNm_ap, gsNil_ap, gsC_ap, gTp_ap, gIx_ap, sNx_ap, sSeq_ap, sEx_ap, sAsg_ap, sSetO_ap, sRet_ap, sRetO_ap, sRetNm_ap, sRetN_ap, sIf_ap, sNever_ap, sBk_ap, sCt_ap, gSet2_ap, gSet3_ap, sPar_ap, iL_ap, iT_ap, iR1_ap, iR2_ap, iEnL_ap, iEnT_ap, iZp_ap, iA_ap, iEnA_ap, mFn_ap, mFnT_ap, mMt_ap, mFnK_ap, mMk_ap, sFldSet_ap, mPr_ap, dChain_ap, dMl_ap, mRg1_ap, mRg2_ap, mV_ap, sParO_ap, mSortU_ap, putN, putP, rdAll, AV.pvs, oFld.eq_1, oFld.eq_2, lookP, callF, takeA, putA, okObj.eq_1, okObj.eq_2, isOf.eq_1, isOf.eq_2, PV.items.eq_1, PV.items.eq_2, PV.items.eq_3, PV.items.eq_4, dMt, PV.isLst.eq_1, PV.isLst.eq_2, S.set, MV.frz.eq_1, MV.frz.eq_2, MV.frz.eq_3, MV.frz.eq_4, heldM.eq_1, heldM.eq_2, valM.eq_1, valM.eq_2, finM, valsM, ofStr_beq, ofStr_eq, bIsi, bIsiT, PV.kind.eq_1, PV.kind.eq_2, PV.kind.eq_3, PV.kind.eq_4, PV.kind.eq_5, PV.kind.eq_6, PV.kind.eq_7, PV.kind.eq_8, isiB, BT.nm, PV.tys.eq_1, PV.tys.eq_2, PV.tys.eq_3, bLen.eq_1, bLen.eq_2, bLen.eq_3, bLen.eq_4, bLen.eq_5, bAbs.eq_1, bAbs.eq_2, bMax2.eq_1, bMax2.eq_2, bMin2.eq_1, bMin2.eq_2, bDivmod.eq_1, bDivmod.eq_2, divOk, bInt.eq_1, bInt.eq_2, bInt.eq_3, bList.eq_1, bList.eq_2, bTuple.eq_1, bTuple.eq_2, bTuple.eq_3, bAll.eq_1, bAll.eq_2, bAny.eq_1, bAny.eq_2, bls_bools, ints_ints, oEq, oNe, oIn, oNotIn, oInF, oNotInF, oIs, oIsNot, isNonP.eq_1, isNonP.eq_2, eqP_int, eqP_bl, eqP_tup, eqP_lst, inP_ints, inF_tup, inF_lst, oAdd, oSub, oMul, mulOk, oFdiv, oMod, oPow, powOk, oLt, oLe, oGt, oGe, uNeg, lExtend, lPop, lPopAt, lReverse, lIndex_ints, rgOk, valAt, S.wipe, wipeE, S.rest, restE, oI_c, oIc_c, lAppend_c, mkOut_c, oIxA_c, rngP_0, atI_0, atI_1, ixN_ok, bls_map, -List.map_map, all_tt, enP_ints, inF_items, turn_ap, lcT_ap, tTrue_ap, Option.bind_assoc, Option.map_bind, lIndex_ints hb]
end
end K17
namespace K17
open PySem L2 GG DD Num
section
variable {ca : Nat → Addr} {sto : List MV}
@[reducible] def PtE (ca : Nat → Addr) (bs : List Int) (side k : Int) : PV := Pt ca (norm (ends bs side k))
@[reducible] def envE (ca : Nat → Addr) (bs : List Int) (n side k : Int) (a b c : Option MV) : List (Option MV) := [some (.val (.int n)), some (.val (.lst (bs.map .int))), some (.val (PtN ca bs)), some (.val (.int side)), some (.val (PtE ca bs side k)), a, b, c]
theorem e_end_right {n t side : Int} {bs : List Int} (hb : Boxes n t bs) (hs : side = 0 ∨ side = n) :
    f_l_end_right ca [.val (.int n), .val (.lst (bs.map .int)), .val (PtN ca bs), .val (.int side)] sto = some (.val (.bl true), [.val (.int n), .val (.lst (bs.map .int)), .val (PtN ca bs), .val (.int side)], sto) := by
  obtain ⟨n0, n4, hl, hlt⟩ := hb
  have s0 : 0 ≤ side := by omega
  have s1 : side + n ≤ bs.length := by omega
  have hEl : ∀ k, (norm (ends bs side k)).length = bs.length := fun k => by rw [norm_length, ends_len]
  have hEg : ∀ k, Good (norm (ends bs side k)) := fun k => norm_good (by rw [ends_len]; omega) (by rw [ends_len]; omega)
  have q1 : -4611686018427387904 ≤ n := by omega
  have q2 : n < 4611686018427387904 := by omega
  have q3 : -4611686018427387904 ≤ 2 * n := by omega
  have q4 : 2 * n < 4611686018427387904 := by omega
  unfold f_l_end_right runF b_l_end_right
  simp (config := { decide := false }) [dVal_ap, dC_ap, pLate_ap, dFrz_ap, pNow_ap, dOp_ap, dUn_ap, tCmp_ap, tOf_ap, tAnd_ap, tOr_ap, tNot_ap, dAnd_ap, dOr_ap, dNot_ap, dIf_ap, mOp_ap, aNil_ap, aV_ap, aIo_ap, dTup_ap, mLst_ap, qNil_ap, qC_ap, dCall_ap, mCall_ap, lNone_ap, lSome_ap, dSlT_ap, mSlL_ap, dFld_ap, gNm_ap, gsNil_ap, gsC_ap, gTp_ap, gIx_ap, sNx_ap, sSeq_ap, sEx_ap, sAsg_ap, sSetO_ap, sRet_ap, sRetO_ap, sRetNm_ap, sRetN_ap, sIf_ap, sNever_ap, sBk_ap, sCt_ap, gSet2_ap, gSet3_ap, sPar_ap, iL_ap, iT_ap, iR1_ap, iR2_ap, iEnL_ap, iEnT_ap, iZp_ap, iA_ap, iEnA_ap, mFn_ap, mFnT_ap, mMt_ap, mFnK_ap, mMk_ap, sFldSet_ap, mPr_ap, dChain_ap, dMl_ap, mRg1_ap, mRg2_ap, mV_ap, sParO_ap, mSortU_ap, putN, putP, rdAll, AV.pvs, oFld.eq_1, oFld.eq_2, lookP, callF, takeA, putA, okObj.eq_1, okObj.eq_2, isOf.eq_1, isOf.eq_2, PV.items.eq_1, PV.items.eq_2, PV.items.eq_3, PV.items.eq_4, dMt, PV.isLst.eq_1, PV.isLst.eq_2, S.set, MV.frz.eq_1, MV.frz.eq_2, MV.frz.eq_3, MV.frz.eq_4, heldM.eq_1, heldM.eq_2, valM.eq_1, valM.eq_2, finM, valsM, ofStr_beq, ofStr_eq, bIsi, bIsiT, PV.kind.eq_1, PV.kind.eq_2, PV.kind.eq_3, PV.kind.eq_4, PV.kind.eq_5, PV.kind.eq_6, PV.kind.eq_7, PV.kind.eq_8, isiB, BT.nm, PV.tys.eq_1, PV.tys.eq_2, PV.tys.eq_3, bLen.eq_1, bLen.eq_2, bLen.eq_3, bLen.eq_4, bLen.eq_5, bAbs.eq_1, bAbs.eq_2, bMax2.eq_1, bMax2.eq_2, bMin2.eq_1, bMin2.eq_2, bDivmod.eq_1, bDivmod.eq_2, divOk, bInt.eq_1, bInt.eq_2, bInt.eq_3, bList.eq_1, bList.eq_2, bTuple.eq_1, bTuple.eq_2, bTuple.eq_3, bAll.eq_1, bAll.eq_2, bAny.eq_1, bAny.eq_2, bls_bools, ints_ints, oEq, oNe, oIn, oNotIn, oInF, oNotInF, oIs, oIsNot, isNonP.eq_1, isNonP.eq_2, eqP_int, eqP_bl, eqP_tup, eqP_lst, inP_ints, inF_tup, inF_lst, oAdd, oSub, oMul, mulOk, oFdiv, oMod, oPow, powOk, oLt, oLe, oGt, oGe, uNeg, lExtend, lPop, lPopAt, lReverse, lIndex_ints, rgOk, valAt, S.wipe, wipeE, S.rest, restE, oI_c, oIc_c, lAppend_c, mkOut_c, oIxA_c, rngP_0, atI_0, atI_1, ixN_ok, bls_map, -List.map_map, all_tt, enP_ints, inF_items, turn_ap, lcT_ap, tTrue_ap, Option.bind_assoc, Option.map_bind]
  refine for_bind (List.range n.toNat) (fun k : Nat => .int (k : Int)) (fun i s => ∃ v : Option PV, s = ⟨envE ca bs n side (i : Nat) (v.map .val) none none, sto⟩) (s0 := ⟨envE ca bs n side (0 : Nat) none none none, sto⟩) ?_ ⟨none, rfl⟩ ?_ ?_
  · simp (config := { decide := false }) [dVal_ap, dC_ap, pLate_ap, dFrz_ap, pNow_ap, dOp_ap, dUn_ap, tCmp_ap, tOf_ap, tAnd_ap, tOr_ap, tNot_ap, dAnd_ap, dOr_ap, dNot_ap, dIf_ap, mOp_ap, aNil_ap, aV_ap, aIo_ap, dTup_ap, mLst_ap, qNil_ap, qC_ap, dCall_ap, mCall_ap, lNone_ap, lSome_ap, dSlT_ap, mSlL_ap, dFld_ap, gNm_ap, gsNil_ap, gsC_ap, gTp_ap, gIx_ap, sNx_ap, sSeq_ap, sEx_ap, sAsg_ap, sSetO_ap, sRet_ap, sRetO_ap, sRetNm_ap, sRetN_ap, sIf_ap, sNever_ap, sBk_ap, sCt_ap, gSet2_ap, gSet3_ap, sPar_ap, iL_ap, iT_ap, iR1_ap, iR2_ap, iEnL_ap, iEnT_ap, iZp_ap, iA_ap, iEnA_ap, mFn_ap, mFnT_ap, mMt_ap, mFnK_ap, mMk_ap, sFldSet_ap, mPr_ap, dChain_ap, dMl_ap, mRg1_ap, mRg2_ap, mV_ap, sParO_ap, mSortU_ap, putN, putP, rdAll, AV.pvs, oFld.eq_1, oFld.eq_2, lookP, callF, takeA, putA, okObj.eq_1, okObj.eq_2, isOf.eq_1, isOf.eq_2, PV.items.eq_1, PV.items.eq_2, PV.items.eq_3, PV.items.eq_4, dMt, PV.isLst.eq_1, PV.isLst.eq_2, S.set, MV.frz.eq_1, MV.frz.eq_2, MV.frz.eq_3, MV.frz.eq_4, heldM.eq_1, heldM.eq_2, valM.eq_1, valM.eq_2, finM, valsM, ofStr_beq, ofStr_eq, bIsi, bIsiT, PV.kind.eq_1, PV.kind.eq_2, PV.kind.eq_3, PV.kind.eq_4, PV.kind.eq_5, PV.kind.eq_6, PV.kind.eq_7, PV.kind.eq_8, isiB, BT.nm, PV.tys.eq_1, PV.tys.eq_2, PV.tys.eq_3, bLen.eq_1, bLen.eq_2, bLen.eq_3, bLen.eq_4, bLen.eq_5, bAbs.eq_1, bAbs.eq_2, bMax2.eq_1, bMax2.eq_2, bMin2.eq_1, bMin2.eq_2, bDivmod.eq_1, bDivmod.eq_2, divOk, bInt.eq_1, bInt.eq_2, bInt.eq_3, bList.eq_1, bList.eq_2, bTuple.eq_1, bTuple.eq_2, bTuple.eq_3, bAll.eq_1, bAll.eq_2, bAny.eq_1, bAny.eq_2, bls_bools, ints_ints, oEq, oNe, oIn, oNotIn, oInF, oNotInF, oIs, oIsNot, isNonP.eq_1, isNonP.eq_2, eqP_int, eqP_bl, eqP_tup, eqP_lst, inP_ints, inF_tup, inF_lst, oAdd, oSub, oMul, mulOk, oFdiv, oMod, oPow, powOk, oLt, oLe, oGt, oGe, uNeg, lExtend, lPop, lPopAt, lReverse, lIndex_ints, rgOk, valAt, S.wipe, wipeE, S.rest, restE, oI_c, oIc_c, lAppend_c, mkOut_c, oIxA_c, rngP_0, atI_0, atI_1, ixN_ok, bls_map, -List.map_map, all_tt, enP_ints, inF_items, turn_ap, lcT_ap, tTrue_ap, Option.bind_assoc, Option.map_bind, q1, q2, ends_0]
  · rintro i k s hi ⟨v, rfl⟩
    obtain ⟨hk, rfl⟩ : k < n.toNat ∧ k = i := by
      have h1 := List.getElem?_eq_some_iff.mp hi
      obtain ⟨h2, h3⟩ := h1
      simp at h2 h3
      omega
    have f1 := e_without (ca := ca) (sto := sto) (hs := [side + (k : Int)]) (hEg k) (holds1 (by omega) (by rw [hEl]; omega))
    rw [ends_step s0] at f1
    simp only [List.map_cons, List.map_nil] at f1
    refine ⟨_, ?_, some (.int k), rfl⟩
    simp (config := { decide := false }) [dVal_ap, dC_ap, pLate_ap, dFrz_ap, pNow_ap, dOp_ap, dUn_ap, tCmp_ap, tOf_ap, tAnd_ap, tOr_ap, tNot_ap, dAnd_ap, dOr_ap, dNot_ap, dIf_ap, mOp_ap, aNil_ap, aV_ap, aIo_ap, dTup_ap, mLst_ap, qNil_ap, qC_ap, dCall_ap, mCall_ap, lNone_ap, lSome_ap, dSlT_ap, mSlL_ap, dFld_ap, gNm_ap, gsNil_ap, gsC_ap, gTp_ap, gIx_ap, sNx_ap, sSeq_ap, sEx_ap, sAsg_ap, sSetO_ap, sRet_ap, sRetO_ap, sRetNm_ap, sRetN_ap, sIf_ap, sNever_ap, sBk_ap, sCt_ap, gSet2_ap, gSet3_ap, sPar_ap, iL_ap, iT_ap, iR1_ap, iR2_ap, iEnL_ap, iEnT_ap, iZp_ap, iA_ap, iEnA_ap, mFn_ap, mFnT_ap, mMt_ap, mFnK_ap, mMk_ap, sFldSet_ap, mPr_ap, dChain_ap, dMl_ap, mRg1_ap, mRg2_ap, mV_ap, sParO_ap, mSortU_ap, putN, putP, rdAll, AV.pvs, oFld.eq_1, oFld.eq_2, lookP, callF, takeA, putA, okObj.eq_1, okObj.eq_2, isOf.eq_1, isOf.eq_2, PV.items.eq_1, PV.items.eq_2, PV.items.eq_3, PV.items.eq_4, dMt, PV.isLst.eq_1, PV.isLst.eq_2, S.set, MV.frz.eq_1, MV.frz.eq_2, MV.frz.eq_3, MV.frz.eq_4, heldM.eq_1, heldM.eq_2, valM.eq_1, valM.eq_2, finM, valsM, ofStr_beq, ofStr_eq, bIsi, bIsiT, PV.kind.eq_1, PV.kind.eq_2, PV.kind.eq_3, PV.kind.eq_4, PV.kind.eq_5, PV.kind.eq_6, PV.kind.eq_7, PV.kind.eq_8, isiB, BT.nm, PV.tys.eq_1, PV.tys.eq_2, PV.tys.eq_3, bLen.eq_1, bLen.eq_2, bLen.eq_3, bLen.eq_4, bLen.eq_5, bAbs.eq_1, bAbs.eq_2, bMax2.eq_1, bMax2.eq_2, bMin2.eq_1, bMin2.eq_2, bDivmod.eq_1, bDivmod.eq_2, divOk, bInt.eq_1, bInt.eq_2, bInt.eq_3, bList.eq_1, bList.eq_2, bTuple.eq_1, bTuple.eq_2, bTuple.eq_3, bAll.eq_1, bAll.eq_2, bAny.eq_1, bAny.eq_2, bls_bools, ints_ints, oEq, oNe, oIn, oNotIn, oInF, oNotInF, oIs, oIsNot, isNonP.eq_1, isNonP.eq_2, eqP_int, eqP_bl, eqP_tup, eqP_lst, inP_ints, inF_tup, inF_lst, oAdd, oSub, oMul, mulOk, oFdiv, oMod, oPow, powOk, oLt, oLe, oGt, oGe, uNeg, lExtend, lPop, lPopAt, lReverse, lIndex_ints, rgOk, valAt, S.wipe, wipeE, S.rest, restE, oI_c, oIc_c, lAppend_c, mkOut_c, oIxA_c, rngP_0, atI_0, atI_1, ixN_ok, bls_map, -List.map_map, all_tt, enP_ints, inF_items, turn_ap, lcT_ap, tTrue_ap, Option.bind_assoc, Option.map_bind, f1]
  · rintro s ⟨v, rfl⟩
    rw [List.length_range, Int.toNat_of_nonneg (by omega : 0 ≤ n)]
    have hv : ∀ s : S, s = ⟨envE ca bs n side n (v.map .val) none none, sto⟩ → valAt s.env [5] = true := by
      rintro s rfl
      cases v <;> simp (config := { decide := false }) [dVal_ap, dC_ap, pLate_ap, dFrz_ap, pNow_ap, dOp_ap, dUn_ap, tCmp_ap, tOf_ap, tAnd_ap, tOr_ap, tNot_ap, dAnd_ap, dOr_ap, dNot_ap, dIf_ap, mOp_ap, aNil_ap, aV_ap, aIo_ap, dTup_ap, mLst_ap, qNil_ap, qC_ap, dCall_ap, mCall_ap, lNone_ap, lSome_ap, dSlT_ap, mSlL_ap, dFld_ap, gNm_ap, gsNil_ap, gsC_ap, gTp_ap, gIx_ap, sNx_ap, sSeq_ap, sEx_ap, sAsg_ap, sSetO_ap, sRet_ap, sRetO_ap, sRetNm_ap, sRetN_ap, sIf_ap, sNever_ap, sBk_ap, sCt_ap, gSet2_ap, gSet3_ap, sPar_ap, iL_ap, iT_ap, iR1_ap, iR2_ap, iEnL_ap, iEnT_ap, iZp_ap, iA_ap, iEnA_ap, mFn_ap, mFnT_ap, mMt_ap, mFnK_ap, mMk_ap, sFldSet_ap, mPr_ap, dChain_ap, dMl_ap, mRg1_ap, mRg2_ap, mV_ap, sParO_ap, mSortU_ap, putN, putP, rdAll, AV.pvs, oFld.eq_1, oFld.eq_2, lookP, callF, takeA, putA, okObj.eq_1, okObj.eq_2, isOf.eq_1, isOf.eq_2, PV.items.eq_1, PV.items.eq_2, PV.items.eq_3, PV.items.eq_4, dMt, PV.isLst.eq_1, PV.isLst.eq_2, S.set, MV.frz.eq_1, MV.frz.eq_2, MV.frz.eq_3, MV.frz.eq_4, heldM.eq_1, heldM.eq_2, valM.eq_1, valM.eq_2, finM, valsM, ofStr_beq, ofStr_eq, bIsi, bIsiT, PV.kind.eq_1, PV.kind.eq_2, PV.kind.eq_3, PV.kind.eq_4, PV.kind.eq_5, PV.kind.eq_6, PV.kind.eq_7, PV.kind.eq_8, isiB, BT.nm, PV.tys.eq_1, PV.tys.eq_2, PV.tys.eq_3, bLen.eq_1, bLen.eq_2, bLen.eq_3, bLen.eq_4, bLen.eq_5, bAbs.eq_1, bAbs.eq_2, bMax2.eq_1, bMax2.eq_2, bMin2.eq_1, bMin2.eq_2, bDivmod.eq_1, bDivmod.eq_2, divOk, bInt.eq_1, bInt.eq_2, bInt.eq_3, bList.eq_1, bList.eq_2, bTuple.eq_1, bTuple.eq_2, bTuple.eq_3, bAll.eq_1, bAll.eq_2, bAny.eq_1, bAny.eq_2, bls_bools, ints_ints, oEq, oNe, oIn, oNotIn, oInF, oNotInF, oIs, oIsNot, isNonP.eq_1, isNonP.eq_2, eqP_int, eqP_bl, eqP_tup, eqP_lst, inP_ints, inF_tup, inF_lst, oAdd, oSub, oMul, mulOk, oFdiv, oMod, oPow, powOk, oLt, oLe, oGt, oGe, uNeg, lExtend, lPop, lPopAt, lReverse, lIndex_ints, rgOk, valAt, S.wipe, wipeE, S.rest, restE, oI_c, oIc_c, lAppend_c, mkOut_c, oIxA_c, rngP_0, atI_0, atI_1, ixN_ok, bls_map, -List.map_map, all_tt, enP_ints, inF_items, turn_ap, lcT_ap, tTrue_ap, Option.bind_assoc, Option.map_bind]
    have g1 := e_gone (ca := ca) (sto := sto) (cs := norm (ends bs side n)) (by rw [hEl]; omega)
    rw [ends_gone s0 (by omega) s1] at g1
    have r1 : -100000 ≤ side := by omega
    have r2 : side ≤ 100000 := by omega
    have r3 : -100000 ≤ side + n := by omega
    have r4 : side + n ≤ 100000 := by omega
    have r5 : (side + n - side).toNat = n.toNat := by omega
    simp (config := { decide := false }) [dVal_ap, dC_ap, pLate_ap, dFrz_ap, pNow_ap, dOp_ap, dUn_ap, tCmp_ap, tOf_ap, tAnd_ap, tOr_ap, tNot_ap, dAnd_ap, dOr_ap, dNot_ap, dIf_ap, mOp_ap, aNil_ap, aV_ap, aIo_ap, dTup_ap, mLst_ap, qNil_ap, qC_ap, dCall_ap, mCall_ap, lNone_ap, lSome_ap, dSlT_ap, mSlL_ap, dFld_ap, gNm_ap, gsNil_ap, gsC_ap, gTp_ap, gIx_ap, sNx_ap, sSeq_ap, sEx_ap, sAsg_ap, sSetO_ap, sRet_ap, sRetO_ap, sRetNm_ap, sRetN_ap, sIf_ap, sNever_ap, sBk_ap, sCt_ap, gSet2_ap, gSet3_ap, sPar_ap, iL_ap, iT_ap, iR1_ap, iR2_ap, iEnL_ap, iEnT_ap, iZp_ap, iA_ap, iEnA_ap, mFn_ap, mFnT_ap, mMt_ap, mFnK_ap, mMk_ap, sFldSet_ap, mPr_ap, dChain_ap, dMl_ap, mRg1_ap, mRg2_ap, mV_ap, sParO_ap, mSortU_ap, putN, putP, rdAll, AV.pvs, oFld.eq_1, oFld.eq_2, lookP, callF, takeA, putA, okObj.eq_1, okObj.eq_2, isOf.eq_1, isOf.eq_2, PV.items.eq_1, PV.items.eq_2, PV.items.eq_3, PV.items.eq_4, dMt, PV.isLst.eq_1, PV.isLst.eq_2, S.set, MV.frz.eq_1, MV.frz.eq_2, MV.frz.eq_3, MV.frz.eq_4, heldM.eq_1, heldM.eq_2, valM.eq_1, valM.eq_2, finM, valsM, ofStr_beq, ofStr_eq, bIsi, bIsiT, PV.kind.eq_1, PV.kind.eq_2, PV.kind.eq_3, PV.kind.eq_4, PV.kind.eq_5, PV.kind.eq_6, PV.kind.eq_7, PV.kind.eq_8, isiB, BT.nm, PV.tys.eq_1, PV.tys.eq_2, PV.tys.eq_3, bLen.eq_1, bLen.eq_2, bLen.eq_3, bLen.eq_4, bLen.eq_5, bAbs.eq_1, bAbs.eq_2, bMax2.eq_1, bMax2.eq_2, bMin2.eq_1, bMin2.eq_2, bDivmod.eq_1, bDivmod.eq_2, divOk, bInt.eq_1, bInt.eq_2, bInt.eq_3, bList.eq_1, bList.eq_2, bTuple.eq_1, bTuple.eq_2, bTuple.eq_3, bAll.eq_1, bAll.eq_2, bAny.eq_1, bAny.eq_2, bls_bools, ints_ints, oEq, oNe, oIn, oNotIn, oInF, oNotInF, oIs, oIsNot, isNonP.eq_1, isNonP.eq_2, eqP_int, eqP_bl, eqP_tup, eqP_lst, inP_ints, inF_tup, inF_lst, oAdd, oSub, oMul, mulOk, oFdiv, oMod, oPow, powOk, oLt, oLe, oGt, oGe, uNeg, lExtend, lPop, lPopAt, lReverse, lIndex_ints, rgOk, valAt, S.wipe, wipeE, S.rest, restE, oI_c, oIc_c, lAppend_c, mkOut_c, oIxA_c, rngP_0, atI_0, atI_1, ixN_ok, bls_map, -List.map_map, all_tt, enP_ints, inF_items, turn_ap, lcT_ap, tTrue_ap, Option.bind_assoc, Option.map_bind]
    rw [lc_pick (List.range (2 * n).toNat) (fun k : Nat => .int (k : Int)) (fun k : Nat => if side ≤ (k : Int) ∧ (k : Int) < side + n then none else some (.int (k : Int))) (s1 := ⟨envE ca bs n side n (v.map .val) none none, sto⟩)]
    · have hw : ((List.range (2 * n).toNat).filterMap fun k : Nat => if side ≤ (k : Int) ∧ (k : Int) < side + n then none else some (PV.int (k : Int))) = (stays n side).map .int := by
        unfold stays
        rw [List.map_filterMap]
        congr 1
        funext k
        split <;> rfl
      rw [hw]
      simp (config := { decide := false }) [dVal_ap, dC_ap, pLate_ap, dFrz_ap, pNow_ap, dOp_ap, dUn_ap, tCmp_ap, tOf_ap, tAnd_ap, tOr_ap, tNot_ap, dAnd_ap, dOr_ap, dNot_ap, dIf_ap, mOp_ap, aNil_ap, aV_ap, aIo_ap, dTup_ap, mLst_ap, qNil_ap, qC_ap, dCall_ap, mCall_ap, lNone_ap, lSome_ap, dSlT_ap, mSlL_ap, dFld_ap, gNm_ap, gsNil_ap, gsC_ap, gTp_ap, gIx_ap, sNx_ap, sSeq_ap, sEx_ap, sAsg_ap, sSetO_ap, sRet_ap, sRetO_ap, sRetNm_ap, sRetN_ap, sIf_ap, sNever_ap, sBk_ap, sCt_ap, gSet2_ap, gSet3_ap, sPar_ap, iL_ap, iT_ap, iR1_ap, iR2_ap, iEnL_ap, iEnT_ap, iZp_ap, iA_ap, iEnA_ap, mFn_ap, mFnT_ap, mMt_ap, mFnK_ap, mMk_ap, sFldSet_ap, mPr_ap, dChain_ap, dMl_ap, mRg1_ap, mRg2_ap, mV_ap, sParO_ap, mSortU_ap, putN, putP, rdAll, AV.pvs, oFld.eq_1, oFld.eq_2, lookP, callF, takeA, putA, okObj.eq_1, okObj.eq_2, isOf.eq_1, isOf.eq_2, PV.items.eq_1, PV.items.eq_2, PV.items.eq_3, PV.items.eq_4, dMt, PV.isLst.eq_1, PV.isLst.eq_2, S.set, MV.frz.eq_1, MV.frz.eq_2, MV.frz.eq_3, MV.frz.eq_4, heldM.eq_1, heldM.eq_2, valM.eq_1, valM.eq_2, finM, valsM, ofStr_beq, ofStr_eq, bIsi, bIsiT, PV.kind.eq_1, PV.kind.eq_2, PV.kind.eq_3, PV.kind.eq_4, PV.kind.eq_5, PV.kind.eq_6, PV.kind.eq_7, PV.kind.eq_8, isiB, BT.nm, PV.tys.eq_1, PV.tys.eq_2, PV.tys.eq_3, bLen.eq_1, bLen.eq_2, bLen.eq_3, bLen.eq_4, bLen.eq_5, bAbs.eq_1, bAbs.eq_2, bMax2.eq_1, bMax2.eq_2, bMin2.eq_1, bMin2.eq_2, bDivmod.eq_1, bDivmod.eq_2, divOk, bInt.eq_1, bInt.eq_2, bInt.eq_3, bList.eq_1, bList.eq_2, bTuple.eq_1, bTuple.eq_2, bTuple.eq_3, bAll.eq_1, bAll.eq_2, bAny.eq_1, bAny.eq_2, bls_bools, ints_ints, oEq, oNe, oIn, oNotIn, oInF, oNotInF, oIs, oIsNot, isNonP.eq_1, isNonP.eq_2, eqP_int, eqP_bl, eqP_tup, eqP_lst, inP_ints, inF_tup, inF_lst, oAdd, oSub, oMul, mulOk, oFdiv, oMod, oPow, powOk, oLt, oLe, oGt, oGe, uNeg, lExtend, lPop, lPopAt, lReverse, lIndex_ints, rgOk, valAt, S.wipe, wipeE, S.rest, restE, oI_c, oIc_c, lAppend_c, mkOut_c, oIxA_c, rngP_0, atI_0, atI_1, ixN_ok, bls_map, -List.map_map, all_tt, enP_ints, inF_items, turn_ap, lcT_ap, tTrue_ap, Option.bind_assoc, Option.map_bind, g1, r1, r2, r3, r4, r5, rngP_a, eqP_lst]
      rw [lc_map (List.range n.toNat) (fun k : Nat => .int (k : Int)) (fun _ => .bl false) (s1 := ⟨envE ca bs n side n (v.map .val) (some (.val (.lst ((stays n side).map .int)))) none, sto⟩)]
      · simp (config := { decide := false }) [dVal_ap, dC_ap, pLate_ap, dFrz_ap, pNow_ap, dOp_ap, dUn_ap, tCmp_ap, tOf_ap, tAnd_ap, tOr_ap, tNot_ap, dAnd_ap, dOr_ap, dNot_ap, dIf_ap, mOp_ap, aNil_ap, aV_ap, aIo_ap, dTup_ap, mLst_ap, qNil_ap, qC_ap, dCall_ap, mCall_ap, lNone_ap, lSome_ap, dSlT_ap, mSlL_ap, dFld_ap, gNm_ap, gsNil_ap, gsC_ap, gTp_ap, gIx_ap, sNx_ap, sSeq_ap, sEx_ap, sAsg_ap, sSetO_ap, sRet_ap, sRetO_ap, sRetNm_ap, sRetN_ap, sIf_ap, sNever_ap, sBk_ap, sCt_ap, gSet2_ap, gSet3_ap, sPar_ap, iL_ap, iT_ap, iR1_ap, iR2_ap, iEnL_ap, iEnT_ap, iZp_ap, iA_ap, iEnA_ap, mFn_ap, mFnT_ap, mMt_ap, mFnK_ap, mMk_ap, sFldSet_ap, mPr_ap, dChain_ap, dMl_ap, mRg1_ap, mRg2_ap, mV_ap, sParO_ap, mSortU_ap, putN, putP, rdAll, AV.pvs, oFld.eq_1, oFld.eq_2, lookP, callF, takeA, putA, okObj.eq_1, okObj.eq_2, isOf.eq_1, isOf.eq_2, PV.items.eq_1, PV.items.eq_2, PV.items.eq_3, PV.items.eq_4, dMt, PV.isLst.eq_1, PV.isLst.eq_2, S.set, MV.frz.eq_1, MV.frz.eq_2, MV.frz.eq_3, MV.frz.eq_4, heldM.eq_1, heldM.eq_2, valM.eq_1, valM.eq_2, finM, valsM, ofStr_beq, ofStr_eq, bIsi, bIsiT, PV.kind.eq_1, PV.kind.eq_2, PV.kind.eq_3, PV.kind.eq_4, PV.kind.eq_5, PV.kind.eq_6, PV.kind.eq_7, PV.kind.eq_8, isiB, BT.nm, PV.tys.eq_1, PV.tys.eq_2, PV.tys.eq_3, bLen.eq_1, bLen.eq_2, bLen.eq_3, bLen.eq_4, bLen.eq_5, bAbs.eq_1, bAbs.eq_2, bMax2.eq_1, bMax2.eq_2, bMin2.eq_1, bMin2.eq_2, bDivmod.eq_1, bDivmod.eq_2, divOk, bInt.eq_1, bInt.eq_2, bInt.eq_3, bList.eq_1, bList.eq_2, bTuple.eq_1, bTuple.eq_2, bTuple.eq_3, bAll.eq_1, bAll.eq_2, bAny.eq_1, bAny.eq_2, bls_bools, ints_ints, oEq, oNe, oIn, oNotIn, oInF, oNotInF, oIs, oIsNot, isNonP.eq_1, isNonP.eq_2, eqP_int, eqP_bl, eqP_tup, eqP_lst, inP_ints, inF_tup, inF_lst, oAdd, oSub, oMul, mulOk, oFdiv, oMod, oPow, powOk, oLt, oLe, oGt, oGe, uNeg, lExtend, lPop, lPopAt, lReverse, lIndex_ints, rgOk, valAt, S.wipe, wipeE, S.rest, restE, oI_c, oIc_c, lAppend_c, mkOut_c, oIxA_c, rngP_0, atI_0, atI_1, ixN_ok, bls_map, -List.map_map, all_tt, enP_ints, inF_items, turn_ap, lcT_ap, tTrue_ap, Option.bind_assoc, Option.map_bind]
        refine for_bind (stays n side) .int (fun i s => ∃ v w : Option PV, s = ⟨envE ca bs n side n (v.map .val) (some (.val (.lst ((stays n side).map .int)))) (w.map .val), sto⟩) (s0 := ⟨envE ca bs n side n (v.map .val) (some (.val (.lst ((stays n side).map .int)))) none, sto⟩) ?_ ⟨_, none, rfl⟩ ?_ ?_
        · simp (config := { decide := false }) [dVal_ap, dC_ap, pLate_ap, dFrz_ap, pNow_ap, dOp_ap, dUn_ap, tCmp_ap, tOf_ap, tAnd_ap, tOr_ap, tNot_ap, dAnd_ap, dOr_ap, dNot_ap, dIf_ap, mOp_ap, aNil_ap, aV_ap, aIo_ap, dTup_ap, mLst_ap, qNil_ap, qC_ap, dCall_ap, mCall_ap, lNone_ap, lSome_ap, dSlT_ap, mSlL_ap, dFld_ap, gNm_ap, gsNil_ap, gsC_ap, gTp_ap, gIx_ap, sNx_ap, sSeq_ap, sEx_ap, sAsg_ap, sSetO_ap, sRet_ap, sRetO_ap, sRetNm_ap, sRetN_ap, sIf_ap, sNever_ap, sBk_ap, sCt_ap, gSet2_ap, gSet3_ap, sPar_ap, iL_ap, iT_ap, iR1_ap, iR2_ap, iEnL_ap, iEnT_ap, iZp_ap, iA_ap, iEnA_ap, mFn_ap, mFnT_ap, mMt_ap, mFnK_ap, mMk_ap, sFldSet_ap, mPr_ap, dChain_ap, dMl_ap, mRg1_ap, mRg2_ap, mV_ap, sParO_ap, mSortU_ap, putN, putP, rdAll, AV.pvs, oFld.eq_1, oFld.eq_2, lookP, callF, takeA, putA, okObj.eq_1, okObj.eq_2, isOf.eq_1, isOf.eq_2, PV.items.eq_1, PV.items.eq_2, PV.items.eq_3, PV.items.eq_4, dMt, PV.isLst.eq_1, PV.isLst.eq_2, S.set, MV.frz.eq_1, MV.frz.eq_2, MV.frz.eq_3, MV.frz.eq_4, heldM.eq_1, heldM.eq_2, valM.eq_1, valM.eq_2, finM, valsM, ofStr_beq, ofStr_eq, bIsi, bIsiT, PV.kind.eq_1, PV.kind.eq_2, PV.kind.eq_3, PV.kind.eq_4, PV.kind.eq_5, PV.kind.eq_6, PV.kind.eq_7, PV.kind.eq_8, isiB, BT.nm, PV.tys.eq_1, PV.tys.eq_2, PV.tys.eq_3, bLen.eq_1, bLen.eq_2, bLen.eq_3, bLen.eq_4, bLen.eq_5, bAbs.eq_1, bAbs.eq_2, bMax2.eq_1, bMax2.eq_2, bMin2.eq_1, bMin2.eq_2, bDivmod.eq_1, bDivmod.eq_2, divOk, bInt.eq_1, bInt.eq_2, bInt.eq_3, bList.eq_1, bList.eq_2, bTuple.eq_1, bTuple.eq_2, bTuple.eq_3, bAll.eq_1, bAll.eq_2, bAny.eq_1, bAny.eq_2, bls_bools, ints_ints, oEq, oNe, oIn, oNotIn, oInF, oNotInF, oIs, oIsNot, isNonP.eq_1, isNonP.eq_2, eqP_int, eqP_bl, eqP_tup, eqP_lst, inP_ints, inF_tup, inF_lst, oAdd, oSub, oMul, mulOk, oFdiv, oMod, oPow, powOk, oLt, oLe, oGt, oGe, uNeg, lExtend, lPop, lPopAt, lReverse, lIndex_ints, rgOk, valAt, S.wipe, wipeE, S.rest, restE, oI_c, oIc_c, lAppend_c, mkOut_c, oIxA_c, rngP_0, atI_0, atI_1, ixN_ok, bls_map, -List.map_map, all_tt, enP_ints, inF_items, turn_ap, lcT_ap, tTrue_ap, Option.bind_assoc, Option.map_bind]
        · rintro i k s hi ⟨v, w, rfl⟩
          have hk := mem_stays.mp (List.mem_of_getElem? hi)
          simp (config := { decide := false }) [dVal_ap, dC_ap, pLate_ap, dFrz_ap, pNow_ap, dOp_ap, dUn_ap, tCmp_ap, tOf_ap, tAnd_ap, tOr_ap, tNot_ap, dAnd_ap, dOr_ap, dNot_ap, dIf_ap, mOp_ap, aNil_ap, aV_ap, aIo_ap, dTup_ap, mLst_ap, qNil_ap, qC_ap, dCall_ap, mCall_ap, lNone_ap, lSome_ap, dSlT_ap, mSlL_ap, dFld_ap, gNm_ap, gsNil_ap, gsC_ap, gTp_ap, gIx_ap, sNx_ap, sSeq_ap, sEx_ap, sAsg_ap, sSetO_ap, sRet_ap, sRetO_ap, sRetNm_ap, sRetN_ap, sIf_ap, sNever_ap, sBk_ap, sCt_ap, gSet2_ap, gSet3_ap, sPar_ap, iL_ap, iT_ap, iR1_ap, iR2_ap, iEnL_ap, iEnT_ap, iZp_ap, iA_ap, iEnA_ap, mFn_ap, mFnT_ap, mMt_ap, mFnK_ap, mMk_ap, sFldSet_ap, mPr_ap, dChain_ap, dMl_ap, mRg1_ap, mRg2_ap, mV_ap, sParO_ap, mSortU_ap, putN, putP, rdAll, AV.pvs, oFld.eq_1, oFld.eq_2, lookP, callF, takeA, putA, okObj.eq_1, okObj.eq_2, isOf.eq_1, isOf.eq_2, PV.items.eq_1, PV.items.eq_2, PV.items.eq_3, PV.items.eq_4, dMt, PV.isLst.eq_1, PV.isLst.eq_2, S.set, MV.frz.eq_1, MV.frz.eq_2, MV.frz.eq_3, MV.frz.eq_4, heldM.eq_1, heldM.eq_2, valM.eq_1, valM.eq_2, finM, valsM, ofStr_beq, ofStr_eq, bIsi, bIsiT, PV.kind.eq_1, PV.kind.eq_2, PV.kind.eq_3, PV.kind.eq_4, PV.kind.eq_5, PV.kind.eq_6, PV.kind.eq_7, PV.kind.eq_8, isiB, BT.nm, PV.tys.eq_1, PV.tys.eq_2, PV.tys.eq_3, bLen.eq_1, bLen.eq_2, bLen.eq_3, bLen.eq_4, bLen.eq_5, bAbs.eq_1, bAbs.eq_2, bMax2.eq_1, bMax2.eq_2, bMin2.eq_1, bMin2.eq_2, bDivmod.eq_1, bDivmod.eq_2, divOk, bInt.eq_1, bInt.eq_2, bInt.eq_3, bList.eq_1, bList.eq_2, bTuple.eq_1, bTuple.eq_2, bTuple.eq_3, bAll.eq_1, bAll.eq_2, bAny.eq_1, bAny.eq_2, bls_bools, ints_ints, oEq, oNe, oIn, oNotIn, oInF, oNotInF, oIs, oIsNot, isNonP.eq_1, isNonP.eq_2, eqP_int, eqP_bl, eqP_tup, eqP_lst, inP_ints, inF_tup, inF_lst, oAdd, oSub, oMul, mulOk, oFdiv, oMod, oPow, powOk, oLt, oLe, oGt, oGe, uNeg, lExtend, lPop, lPopAt, lReverse, lIndex_ints, rgOk, valAt, S.wipe, wipeE, S.rest, restE, oI_c, oIc_c, lAppend_c, mkOut_c, oIxA_c, rngP_0, atI_0, atI_1, ixN_ok, bls_map, -List.map_map, all_tt, enP_ints, inF_items, turn_ap, lcT_ap, tTrue_ap, Option.bind_assoc, Option.map_bind]
          refine for_bindE (List.range (2 * n).toNat) (fun k : Nat => .int (k : Int)) (fun i s => ∃ w : Option PV, s = ⟨envE ca bs n side n (some (.val (.int k))) (some (.val (.lst ((stays n side).map .int)))) (w.map .val), sto⟩) (s0 := ⟨envE ca bs n side n (some (.val (.int k))) (some (.val (.lst ((stays n side).map .int)))) (w.map .val), sto⟩) ?_ ⟨_, rfl⟩ ?_ ?_
          · simp (config := { decide := false }) [dVal_ap, dC_ap, pLate_ap, dFrz_ap, pNow_ap, dOp_ap, dUn_ap, tCmp_ap, tOf_ap, tAnd_ap, tOr_ap, tNot_ap, dAnd_ap, dOr_ap, dNot_ap, dIf_ap, mOp_ap, aNil_ap, aV_ap, aIo_ap, dTup_ap, mLst_ap, qNil_ap, qC_ap, dCall_ap, mCall_ap, lNone_ap, lSome_ap, dSlT_ap, mSlL_ap, dFld_ap, gNm_ap, gsNil_ap, gsC_ap, gTp_ap, gIx_ap, sNx_ap, sSeq_ap, sEx_ap, sAsg_ap, sSetO_ap, sRet_ap, sRetO_ap, sRetNm_ap, sRetN_ap, sIf_ap, sNever_ap, sBk_ap, sCt_ap, gSet2_ap, gSet3_ap, sPar_ap, iL_ap, iT_ap, iR1_ap, iR2_ap, iEnL_ap, iEnT_ap, iZp_ap, iA_ap, iEnA_ap, mFn_ap, mFnT_ap, mMt_ap, mFnK_ap, mMk_ap, sFldSet_ap, mPr_ap, dChain_ap, dMl_ap, mRg1_ap, mRg2_ap, mV_ap, sParO_ap, mSortU_ap, putN, putP, rdAll, AV.pvs, oFld.eq_1, oFld.eq_2, lookP, callF, takeA, putA, okObj.eq_1, okObj.eq_2, isOf.eq_1, isOf.eq_2, PV.items.eq_1, PV.items.eq_2, PV.items.eq_3, PV.items.eq_4, dMt, PV.isLst.eq_1, PV.isLst.eq_2, S.set, MV.frz.eq_1, MV.frz.eq_2, MV.frz.eq_3, MV.frz.eq_4, heldM.eq_1, heldM.eq_2, valM.eq_1, valM.eq_2, finM, valsM, ofStr_beq, ofStr_eq, bIsi, bIsiT, PV.kind.eq_1, PV.kind.eq_2, PV.kind.eq_3, PV.kind.eq_4, PV.kind.eq_5, PV.kind.eq_6, PV.kind.eq_7, PV.kind.eq_8, isiB, BT.nm, PV.tys.eq_1, PV.tys.eq_2, PV.tys.eq_3, bLen.eq_1, bLen.eq_2, bLen.eq_3, bLen.eq_4, bLen.eq_5, bAbs.eq_1, bAbs.eq_2, bMax2.eq_1, bMax2.eq_2, bMin2.eq_1, bMin2.eq_2, bDivmod.eq_1, bDivmod.eq_2, divOk, bInt.eq_1, bInt.eq_2, bInt.eq_3, bList.eq_1, bList.eq_2, bTuple.eq_1, bTuple.eq_2, bTuple.eq_3, bAll.eq_1, bAll.eq_2, bAny.eq_1, bAny.eq_2, bls_bools, ints_ints, oEq, oNe, oIn, oNotIn, oInF, oNotInF, oIs, oIsNot, isNonP.eq_1, isNonP.eq_2, eqP_int, eqP_bl, eqP_tup, eqP_lst, inP_ints, inF_tup, inF_lst, oAdd, oSub, oMul, mulOk, oFdiv, oMod, oPow, powOk, oLt, oLe, oGt, oGe, uNeg, lExtend, lPop, lPopAt, lReverse, lIndex_ints, rgOk, valAt, S.wipe, wipeE, S.rest, restE, oI_c, oIc_c, lAppend_c, mkOut_c, oIxA_c, rngP_0, atI_0, atI_1, ixN_ok, bls_map, -List.map_map, all_tt, enP_ints, inF_items, turn_ap, lcT_ap, tTrue_ap, Option.bind_assoc, Option.map_bind, q3, q4]
          · rintro i j s hi ⟨w, rfl⟩
            have hj := List.mem_range.mp (List.mem_of_getElem? hi)
            have f1 := e_alike (ca := ca) (sto := sto) (cs := norm (ends bs side n)) (hs := [k, (j : Int)]) (holds2 (by omega) (by rw [hEl]; omega) (by omega) (by rw [hEl]; omega))
            rw [alike_e2 (by omega) (by omega) (by omega) (by omega) (by omega)] at f1
            simp only [List.map_cons, List.map_nil] at f1
            have a1 : atI (bs.map PV.int) k = some (.int (gv bs k)) := atI_gv (by omega) (by omega)
            have a2 : atI (bs.map PV.int) (j : Int) = some (.int (gv bs (j : Int))) := atI_gv (by omega) (by omega)
            refine ⟨_, ?_, some (.int (j : Int)), rfl⟩
            by_cases h1 : side ≤ (j : Int) ∧ (j : Int) < side + n
            · have h2 : (j : Int) ∉ stays n side := fun h => (mem_stays.mp h).2.2 h1
              simp only [h1, and_self, not_true_eq_false, false_and, decide_false] at f1
              simp (config := { decide := false }) [dVal_ap, dC_ap, pLate_ap, dFrz_ap, pNow_ap, dOp_ap, dUn_ap, tCmp_ap, tOf_ap, tAnd_ap, tOr_ap, tNot_ap, dAnd_ap, dOr_ap, dNot_ap, dIf_ap, mOp_ap, aNil_ap, aV_ap, aIo_ap, dTup_ap, mLst_ap, qNil_ap, qC_ap, dCall_ap, mCall_ap, lNone_ap, lSome_ap, dSlT_ap, mSlL_ap, dFld_ap, gNm_ap, gsNil_ap, gsC_ap, gTp_ap, gIx_ap, sNx_ap, sSeq_ap, sEx_ap, sAsg_ap, sSetO_ap, sRet_ap, sRetO_ap, sRetNm_ap, sRetN_ap, sIf_ap, sNever_ap, sBk_ap, sCt_ap, gSet2_ap, gSet3_ap, sPar_ap, iL_ap, iT_ap, iR1_ap, iR2_ap, iEnL_ap, iEnT_ap, iZp_ap, iA_ap, iEnA_ap, mFn_ap, mFnT_ap, mMt_ap, mFnK_ap, mMk_ap, sFldSet_ap, mPr_ap, dChain_ap, dMl_ap, mRg1_ap, mRg2_ap, mV_ap, sParO_ap, mSortU_ap, putN, putP, rdAll, AV.pvs, oFld.eq_1, oFld.eq_2, lookP, callF, takeA, putA, okObj.eq_1, okObj.eq_2, isOf.eq_1, isOf.eq_2, PV.items.eq_1, PV.items.eq_2, PV.items.eq_3, PV.items.eq_4, dMt, PV.isLst.eq_1, PV.isLst.eq_2, S.set, MV.frz.eq_1, MV.frz.eq_2, MV.frz.eq_3, MV.frz.eq_4, heldM.eq_1, heldM.eq_2, valM.eq_1, valM.eq_2, finM, valsM, ofStr_beq, ofStr_eq, bIsi, bIsiT, PV.kind.eq_1, PV.kind.eq_2, PV.kind.eq_3, PV.kind.eq_4, PV.kind.eq_5, PV.kind.eq_6, PV.kind.eq_7, PV.kind.eq_8, isiB, BT.nm, PV.tys.eq_1, PV.tys.eq_2, PV.tys.eq_3, bLen.eq_1, bLen.eq_2, bLen.eq_3, bLen.eq_4, bLen.eq_5, bAbs.eq_1, bAbs.eq_2, bMax2.eq_1, bMax2.eq_2, bMin2.eq_1, bMin2.eq_2, bDivmod.eq_1, bDivmod.eq_2, divOk, bInt.eq_1, bInt.eq_2, bInt.eq_3, bList.eq_1, bList.eq_2, bTuple.eq_1, bTuple.eq_2, bTuple.eq_3, bAll.eq_1, bAll.eq_2, bAny.eq_1, bAny.eq_2, bls_bools, ints_ints, oEq, oNe, oIn, oNotIn, oInF, oNotInF, oIs, oIsNot, isNonP.eq_1, isNonP.eq_2, eqP_int, eqP_bl, eqP_tup, eqP_lst, inP_ints, inF_tup, inF_lst, oAdd, oSub, oMul, mulOk, oFdiv, oMod, oPow, powOk, oLt, oLe, oGt, oGe, uNeg, lExtend, lPop, lPopAt, lReverse, lIndex_ints, rgOk, valAt, S.wipe, wipeE, S.rest, restE, oI_c, oIc_c, lAppend_c, mkOut_c, oIxA_c, rngP_0, atI_0, atI_1, ixN_ok, bls_map, -List.map_map, all_tt, enP_ints, inF_items, turn_ap, lcT_ap, tTrue_ap, Option.bind_assoc, Option.map_bind, f1, h2]
            · have h2 : (j : Int) ∈ stays n side := mem_stays.mpr ⟨by omega, by omega, h1⟩
              simp only [h1, not_false_eq_true, true_and] at f1
              by_cases h3 : gv bs k = gv bs (j : Int)
              · simp only [h3, decide_true] at f1
                simp (config := { decide := false }) [dVal_ap, dC_ap, pLate_ap, dFrz_ap, pNow_ap, dOp_ap, dUn_ap, tCmp_ap, tOf_ap, tAnd_ap, tOr_ap, tNot_ap, dAnd_ap, dOr_ap, dNot_ap, dIf_ap, mOp_ap, aNil_ap, aV_ap, aIo_ap, dTup_ap, mLst_ap, qNil_ap, qC_ap, dCall_ap, mCall_ap, lNone_ap, lSome_ap, dSlT_ap, mSlL_ap, dFld_ap, gNm_ap, gsNil_ap, gsC_ap, gTp_ap, gIx_ap, sNx_ap, sSeq_ap, sEx_ap, sAsg_ap, sSetO_ap, sRet_ap, sRetO_ap, sRetNm_ap, sRetN_ap, sIf_ap, sNever_ap, sBk_ap, sCt_ap, gSet2_ap, gSet3_ap, sPar_ap, iL_ap, iT_ap, iR1_ap, iR2_ap, iEnL_ap, iEnT_ap, iZp_ap, iA_ap, iEnA_ap, mFn_ap, mFnT_ap, mMt_ap, mFnK_ap, mMk_ap, sFldSet_ap, mPr_ap, dChain_ap, dMl_ap, mRg1_ap, mRg2_ap, mV_ap, sParO_ap, mSortU_ap, putN, putP, rdAll, AV.pvs, oFld.eq_1, oFld.eq_2, lookP, callF, takeA, putA, okObj.eq_1, okObj.eq_2, isOf.eq_1, isOf.eq_2, PV.items.eq_1, PV.items.eq_2, PV.items.eq_3, PV.items.eq_4, dMt, PV.isLst.eq_1, PV.isLst.eq_2, S.set, MV.frz.eq_1, MV.frz.eq_2, MV.frz.eq_3, MV.frz.eq_4, heldM.eq_1, heldM.eq_2, valM.eq_1, valM.eq_2, finM, valsM, ofStr_beq, ofStr_eq, bIsi, bIsiT, PV.kind.eq_1, PV.kind.eq_2, PV.kind.eq_3, PV.kind.eq_4, PV.kind.eq_5, PV.kind.eq_6, PV.kind.eq_7, PV.kind.eq_8, isiB, BT.nm, PV.tys.eq_1, PV.tys.eq_2, PV.tys.eq_3, bLen.eq_1, bLen.eq_2, bLen.eq_3, bLen.eq_4, bLen.eq_5, bAbs.eq_1, bAbs.eq_2, bMax2.eq_1, bMax2.eq_2, bMin2.eq_1, bMin2.eq_2, bDivmod.eq_1, bDivmod.eq_2, divOk, bInt.eq_1, bInt.eq_2, bInt.eq_3, bList.eq_1, bList.eq_2, bTuple.eq_1, bTuple.eq_2, bTuple.eq_3, bAll.eq_1, bAll.eq_2, bAny.eq_1, bAny.eq_2, bls_bools, ints_ints, oEq, oNe, oIn, oNotIn, oInF, oNotInF, oIs, oIsNot, isNonP.eq_1, isNonP.eq_2, eqP_int, eqP_bl, eqP_tup, eqP_lst, inP_ints, inF_tup, inF_lst, oAdd, oSub, oMul, mulOk, oFdiv, oMod, oPow, powOk, oLt, oLe, oGt, oGe, uNeg, lExtend, lPop, lPopAt, lReverse, lIndex_ints, rgOk, valAt, S.wipe, wipeE, S.rest, restE, oI_c, oIc_c, lAppend_c, mkOut_c, oIxA_c, rngP_0, atI_0, atI_1, ixN_ok, bls_map, -List.map_map, all_tt, enP_ints, inF_items, turn_ap, lcT_ap, tTrue_ap, Option.bind_assoc, Option.map_bind, f1, h2, a1, a2, h3]
              · simp only [h3, decide_false] at f1
                simp (config := { decide := false }) [dVal_ap, dC_ap, pLate_ap, dFrz_ap, pNow_ap, dOp_ap, dUn_ap, tCmp_ap, tOf_ap, tAnd_ap, tOr_ap, tNot_ap, dAnd_ap, dOr_ap, dNot_ap, dIf_ap, mOp_ap, aNil_ap, aV_ap, aIo_ap, dTup_ap, mLst_ap, qNil_ap, qC_ap, dCall_ap, mCall_ap, lNone_ap, lSome_ap, dSlT_ap, mSlL_ap, dFld_ap, gNm_ap, gsNil_ap, gsC_ap, gTp_ap, gIx_ap, sNx_ap, sSeq_ap, sEx_ap, sAsg_ap, sSetO_ap, sRet_ap, sRetO_ap, sRetNm_ap, sRetN_ap, sIf_ap, sNever_ap, sBk_ap, sCt_ap, gSet2_ap, gSet3_ap, sPar_ap, iL_ap, iT_ap, iR1_ap, iR2_ap, iEnL_ap, iEnT_ap, iZp_ap, iA_ap, iEnA_ap, mFn_ap, mFnT_ap, mMt_ap, mFnK_ap, mMk_ap, sFldSet_ap, mPr_ap, dChain_ap, dMl_ap, mRg1_ap, mRg2_ap, mV_ap, sParO_ap, mSortU_ap, putN, putP, rdAll, AV.pvs, oFld.eq_1, oFld.eq_2, lookP, callF, takeA, putA, okObj.eq_1, okObj.eq_2, isOf.eq_1, isOf.eq_2, PV.items.eq_1, PV.items.eq_2, PV.items.eq_3, PV.items.eq_4, dMt, PV.isLst.eq_1, PV.isLst.eq_2, S.set, MV.frz.eq_1, MV.frz.eq_2, MV.frz.eq_3, MV.frz.eq_4, heldM.eq_1, heldM.eq_2, valM.eq_1, valM.eq_2, finM, valsM, ofStr_beq, ofStr_eq, bIsi, bIsiT, PV.kind.eq_1, PV.kind.eq_2, PV.kind.eq_3, PV.kind.eq_4, PV.kind.eq_5, PV.kind.eq_6, PV.kind.eq_7, PV.kind.eq_8, isiB, BT.nm, PV.tys.eq_1, PV.tys.eq_2, PV.tys.eq_3, bLen.eq_1, bLen.eq_2, bLen.eq_3, bLen.eq_4, bLen.eq_5, bAbs.eq_1, bAbs.eq_2, bMax2.eq_1, bMax2.eq_2, bMin2.eq_1, bMin2.eq_2, bDivmod.eq_1, bDivmod.eq_2, divOk, bInt.eq_1, bInt.eq_2, bInt.eq_3, bList.eq_1, bList.eq_2, bTuple.eq_1, bTuple.eq_2, bTuple.eq_3, bAll.eq_1, bAll.eq_2, bAny.eq_1, bAny.eq_2, bls_bools, ints_ints, oEq, oNe, oIn, oNotIn, oInF, oNotInF, oIs, oIsNot, isNonP.eq_1, isNonP.eq_2, eqP_int, eqP_bl, eqP_tup, eqP_lst, inP_ints, inF_tup, inF_lst, oAdd, oSub, oMul, mulOk, oFdiv, oMod, oPow, powOk, oLt, oLe, oGt, oGe, uNeg, lExtend, lPop, lPopAt, lReverse, lIndex_ints, rgOk, valAt, S.wipe, wipeE, S.rest, restE, oI_c, oIc_c, lAppend_c, mkOut_c, oIxA_c, rngP_0, atI_0, atI_1, ixN_ok, bls_map, -List.map_map, all_tt, enP_ints, inF_items, turn_ap, lcT_ap, tTrue_ap, Option.bind_assoc, Option.map_bind, f1, h2, a1, a2, h3]
          · rintro s ⟨w, rfl⟩
            exact ⟨_, rfl, some (.int k), _, rfl⟩
        · rintro s ⟨v, w, rfl⟩
          have f1 := e_fresh (ca := ca) (sto := sto) (hs := [side]) (hEg n) (holds1 (by omega) (by rw [hEl]; omega))
          rw [ends_fresh s0 hlt] at f1
          have hSl : (norm ((ends bs side n).set side.toNat (some t))).length = bs.length := by rw [norm_length, List.length_set, ends_len]
          have f2 := e_alike (ca := ca) (sto := sto) (cs := norm ((ends bs side n).set side.toNat (some t))) (hs := [side]) (holds1 (by omega) (by rw [hSl]; omega))
          rw [alike_f1 s0 (by omega)] at f2
          obtain ⟨z, zs, hz⟩ : ∃ z zs, stays n side = z :: zs := by
            cases hc : stays n side with
            | cons z zs => exact ⟨z, zs, rfl⟩
            | nil =>
              have : (if side = 0 then n else 0) ∈ stays n side := mem_stays.mpr (by split <;> omega)
              rw [hc] at this
              cases this
          have hz2 := mem_stays.mp (show z ∈ stays n side by rw [hz]; exact List.mem_cons_self)
          have f3 := e_alike (ca := ca) (sto := sto) (cs := norm ((ends bs side n).set side.toNat (some t))) (hs := [side, z]) (holds2 (by omega) (by rw [hSl]; omega) (by omega) (by rw [hSl]; omega))
          rw [alike_f2 s0 (by omega) (by omega) (by omega) (by omega) n0 hlt] at f3
          simp only [List.map_cons, List.map_nil] at f1 f2 f3
          simp (config := { decide := false }) [dVal_ap, dC_ap, pLate_ap, dFrz_ap, pNow_ap, dOp_ap, dUn_ap, tCmp_ap, tOf_ap, tAnd_ap, tOr_ap, tNot_ap, dAnd_ap, dOr_ap, dNot_ap, dIf_ap, mOp_ap, aNil_ap, aV_ap, aIo_ap, dTup_ap, mLst_ap, qNil_ap, qC_ap, dCall_ap, mCall_ap, lNone_ap, lSome_ap, dSlT_ap, mSlL_ap, dFld_ap, gNm_ap, gsNil_ap, gsC_ap, gTp_ap, gIx_ap, sNx_ap, sSeq_ap, sEx_ap, sAsg_ap, sSetO_ap, sRet_ap, sRetO_ap, sRetNm_ap, sRetN_ap, sIf_ap, sNever_ap, sBk_ap, sCt_ap, gSet2_ap, gSet3_ap, sPar_ap, iL_ap, iT_ap, iR1_ap, iR2_ap, iEnL_ap, iEnT_ap, iZp_ap, iA_ap, iEnA_ap, mFn_ap, mFnT_ap, mMt_ap, mFnK_ap, mMk_ap, sFldSet_ap, mPr_ap, dChain_ap, dMl_ap, mRg1_ap, mRg2_ap, mV_ap, sParO_ap, mSortU_ap, putN, putP, rdAll, AV.pvs, oFld.eq_1, oFld.eq_2, lookP, callF, takeA, putA, okObj.eq_1, okObj.eq_2, isOf.eq_1, isOf.eq_2, PV.items.eq_1, PV.items.eq_2, PV.items.eq_3, PV.items.eq_4, dMt, PV.isLst.eq_1, PV.isLst.eq_2, S.set, MV.frz.eq_1, MV.frz.eq_2, MV.frz.eq_3, MV.frz.eq_4, heldM.eq_1, heldM.eq_2, valM.eq_1, valM.eq_2, finM, valsM, ofStr_beq, ofStr_eq, bIsi, bIsiT, PV.kind.eq_1, PV.kind.eq_2, PV.kind.eq_3, PV.kind.eq_4, PV.kind.eq_5, PV.kind.eq_6, PV.kind.eq_7, PV.kind.eq_8, isiB, BT.nm, PV.tys.eq_1, PV.tys.eq_2, PV.tys.eq_3, bLen.eq_1, bLen.eq_2, bLen.eq_3, bLen.eq_4, bLen.eq_5, bAbs.eq_1, bAbs.eq_2, bMax2.eq_1, bMax2.eq_2, bMin2.eq_1, bMin2.eq_2, bDivmod.eq_1, bDivmod.eq_2, divOk, bInt.eq_1, bInt.eq_2, bInt.eq_3, bList.eq_1, bList.eq_2, bTuple.eq_1, bTuple.eq_2, bTuple.eq_3, bAll.eq_1, bAll.eq_2, bAny.eq_1, bAny.eq_2, bls_bools, ints_ints, oEq, oNe, oIn, oNotIn, oInF, oNotInF, oIs, oIsNot, isNonP.eq_1, isNonP.eq_2, eqP_int, eqP_bl, eqP_tup, eqP_lst, inP_ints, inF_tup, inF_lst, oAdd, oSub, oMul, mulOk, oFdiv, oMod, oPow, powOk, oLt, oLe, oGt, oGe, uNeg, lExtend, lPop, lPopAt, lReverse, lIndex_ints, rgOk, valAt, S.wipe, wipeE, S.rest, restE, oI_c, oIc_c, lAppend_c, mkOut_c, oIxA_c, rngP_0, atI_0, atI_1, ixN_ok, bls_map, -List.map_map, all_tt, enP_ints, inF_items, turn_ap, lcT_ap, tTrue_ap, Option.bind_assoc, Option.map_bind, f1, f2, f3, hz]
      · simp (config := { decide := false }) [dVal_ap, dC_ap, pLate_ap, dFrz_ap, pNow_ap, dOp_ap, dUn_ap, tCmp_ap, tOf_ap, tAnd_ap, tOr_ap, tNot_ap, dAnd_ap, dOr_ap, dNot_ap, dIf_ap, mOp_ap, aNil_ap, aV_ap, aIo_ap, dTup_ap, mLst_ap, qNil_ap, qC_ap, dCall_ap, mCall_ap, lNone_ap, lSome_ap, dSlT_ap, mSlL_ap, dFld_ap, gNm_ap, gsNil_ap, gsC_ap, gTp_ap, gIx_ap, sNx_ap, sSeq_ap, sEx_ap, sAsg_ap, sSetO_ap, sRet_ap, sRetO_ap, sRetNm_ap, sRetN_ap, sIf_ap, sNever_ap, sBk_ap, sCt_ap, gSet2_ap, gSet3_ap, sPar_ap, iL_ap, iT_ap, iR1_ap, iR2_ap, iEnL_ap, iEnT_ap, iZp_ap, iA_ap, iEnA_ap, mFn_ap, mFnT_ap, mMt_ap, mFnK_ap, mMk_ap, sFldSet_ap, mPr_ap, dChain_ap, dMl_ap, mRg1_ap, mRg2_ap, mV_ap, sParO_ap, mSortU_ap, putN, putP, rdAll, AV.pvs, oFld.eq_1, oFld.eq_2, lookP, callF, takeA, putA, okObj.eq_1, okObj.eq_2, isOf.eq_1, isOf.eq_2, PV.items.eq_1, PV.items.eq_2, PV.items.eq_3, PV.items.eq_4, dMt, PV.isLst.eq_1, PV.isLst.eq_2, S.set, MV.frz.eq_1, MV.frz.eq_2, MV.frz.eq_3, MV.frz.eq_4, heldM.eq_1, heldM.eq_2, valM.eq_1, valM.eq_2, finM, valsM, ofStr_beq, ofStr_eq, bIsi, bIsiT, PV.kind.eq_1, PV.kind.eq_2, PV.kind.eq_3, PV.kind.eq_4, PV.kind.eq_5, PV.kind.eq_6, PV.kind.eq_7, PV.kind.eq_8, isiB, BT.nm, PV.tys.eq_1, PV.tys.eq_2, PV.tys.eq_3, bLen.eq_1, bLen.eq_2, bLen.eq_3, bLen.eq_4, bLen.eq_5, bAbs.eq_1, bAbs.eq_2, bMax2.eq_1, bMax2.eq_2, bMin2.eq_1, bMin2.eq_2, bDivmod.eq_1, bDivmod.eq_2, divOk, bInt.eq_1, bInt.eq_2, bInt.eq_3, bList.eq_1, bList.eq_2, bTuple.eq_1, bTuple.eq_2, bTuple.eq_3, bAll.eq_1, bAll.eq_2, bAny.eq_1, bAny.eq_2, bls_bools, ints_ints, oEq, oNe, oIn, oNotIn, oInF, oNotInF, oIs, oIsNot, isNonP.eq_1, isNonP.eq_2, eqP_int, eqP_bl, eqP_tup, eqP_lst, inP_ints, inF_tup, inF_lst, oAdd, oSub, oMul, mulOk, oFdiv, oMod, oPow, powOk, oLt, oLe, oGt, oGe, uNeg, lExtend, lPop, lPopAt, lReverse, lIndex_ints, rgOk, valAt, S.wipe, wipeE, S.rest, restE, oI_c, oIc_c, lAppend_c, mkOut_c, oIxA_c, rngP_0, atI_0, atI_1, ixN_ok, bls_map, -List.map_map, all_tt, enP_ints, inF_items, turn_ap, lcT_ap, tTrue_ap, Option.bind_assoc, Option.map_bind, q1, q2]
      · cases v <;> simp (config := { decide := false }) [dVal_ap, dC_ap, pLate_ap, dFrz_ap, pNow_ap, dOp_ap, dUn_ap, tCmp_ap, tOf_ap, tAnd_ap, tOr_ap, tNot_ap, dAnd_ap, dOr_ap, dNot_ap, dIf_ap, mOp_ap, aNil_ap, aV_ap, aIo_ap, dTup_ap, mLst_ap, qNil_ap, qC_ap, dCall_ap, mCall_ap, lNone_ap, lSome_ap, dSlT_ap, mSlL_ap, dFld_ap, gNm_ap, gsNil_ap, gsC_ap, gTp_ap, gIx_ap, sNx_ap, sSeq_ap, sEx_ap, sAsg_ap, sSetO_ap, sRet_ap, sRetO_ap, sRetNm_ap, sRetN_ap, sIf_ap, sNever_ap, sBk_ap, sCt_ap, gSet2_ap, gSet3_ap, sPar_ap, iL_ap, iT_ap, iR1_ap, iR2_ap, iEnL_ap, iEnT_ap, iZp_ap, iA_ap, iEnA_ap, mFn_ap, mFnT_ap, mMt_ap, mFnK_ap, mMk_ap, sFldSet_ap, mPr_ap, dChain_ap, dMl_ap, mRg1_ap, mRg2_ap, mV_ap, sParO_ap, mSortU_ap, putN, putP, rdAll, AV.pvs, oFld.eq_1, oFld.eq_2, lookP, callF, takeA, putA, okObj.eq_1, okObj.eq_2, isOf.eq_1, isOf.eq_2, PV.items.eq_1, PV.items.eq_2, PV.items.eq_3, PV.items.eq_4, dMt, PV.isLst.eq_1, PV.isLst.eq_2, S.set, MV.frz.eq_1, MV.frz.eq_2, MV.frz.eq_3, MV.frz.eq_4, heldM.eq_1, heldM.eq_2, valM.eq_1, valM.eq_2, finM, valsM, ofStr_beq, ofStr_eq, bIsi, bIsiT, PV.kind.eq_1, PV.kind.eq_2, PV.kind.eq_3, PV.kind.eq_4, PV.kind.eq_5, PV.kind.eq_6, PV.kind.eq_7, PV.kind.eq_8, isiB, BT.nm, PV.tys.eq_1, PV.tys.eq_2, PV.tys.eq_3, bLen.eq_1, bLen.eq_2, bLen.eq_3, bLen.eq_4, bLen.eq_5, bAbs.eq_1, bAbs.eq_2, bMax2.eq_1, bMax2.eq_2, bMin2.eq_1, bMin2.eq_2, bDivmod.eq_1, bDivmod.eq_2, divOk, bInt.eq_1, bInt.eq_2, bInt.eq_3, bList.eq_1, bList.eq_2, bTuple.eq_1, bTuple.eq_2, bTuple.eq_3, bAll.eq_1, bAll.eq_2, bAny.eq_1, bAny.eq_2, bls_bools, ints_ints, oEq, oNe, oIn, oNotIn, oInF, oNotInF, oIs, oIsNot, isNonP.eq_1, isNonP.eq_2, eqP_int, eqP_bl, eqP_tup, eqP_lst, inP_ints, inF_tup, inF_lst, oAdd, oSub, oMul, mulOk, oFdiv, oMod, oPow, powOk, oLt, oLe, oGt, oGe, uNeg, lExtend, lPop, lPopAt, lReverse, lIndex_ints, rgOk, valAt, S.wipe, wipeE, S.rest, restE, oI_c, oIc_c, lAppend_c, mkOut_c, oIxA_c, rngP_0, atI_0, atI_1, ixN_ok, bls_map, -List.map_map, all_tt, enP_ints, inF_items, turn_ap, lcT_ap, tTrue_ap, Option.bind_assoc, Option.map_bind]
      · simp
        omega
      · intro k hk
        rw [List.mem_range] at hk
        have f1 := e_alike (ca := ca) (sto := sto) (cs := norm (ends bs side n)) (hs := [side + (k : Int)]) (holds1 (by omega) (by rw [hEl]; omega))
        rw [alike_e1 (by omega) (by omega) (by omega)] at f1
        simp only [List.map_cons, List.map_nil] at f1
        simp (config := { decide := false }) [dVal_ap, dC_ap, pLate_ap, dFrz_ap, pNow_ap, dOp_ap, dUn_ap, tCmp_ap, tOf_ap, tAnd_ap, tOr_ap, tNot_ap, dAnd_ap, dOr_ap, dNot_ap, dIf_ap, mOp_ap, aNil_ap, aV_ap, aIo_ap, dTup_ap, mLst_ap, qNil_ap, qC_ap, dCall_ap, mCall_ap, lNone_ap, lSome_ap, dSlT_ap, mSlL_ap, dFld_ap, gNm_ap, gsNil_ap, gsC_ap, gTp_ap, gIx_ap, sNx_ap, sSeq_ap, sEx_ap, sAsg_ap, sSetO_ap, sRet_ap, sRetO_ap, sRetNm_ap, sRetN_ap, sIf_ap, sNever_ap, sBk_ap, sCt_ap, gSet2_ap, gSet3_ap, sPar_ap, iL_ap, iT_ap, iR1_ap, iR2_ap, iEnL_ap, iEnT_ap, iZp_ap, iA_ap, iEnA_ap, mFn_ap, mFnT_ap, mMt_ap, mFnK_ap, mMk_ap, sFldSet_ap, mPr_ap, dChain_ap, dMl_ap, mRg1_ap, mRg2_ap, mV_ap, sParO_ap, mSortU_ap, putN, putP, rdAll, AV.pvs, oFld.eq_1, oFld.eq_2, lookP, callF, takeA, putA, okObj.eq_1, okObj.eq_2, isOf.eq_1, isOf.eq_2, PV.items.eq_1, PV.items.eq_2, PV.items.eq_3, PV.items.eq_4, dMt, PV.isLst.eq_1, PV.isLst.eq_2, S.set, MV.frz.eq_1, MV.frz.eq_2, MV.frz.eq_3, MV.frz.eq_4, heldM.eq_1, heldM.eq_2, valM.eq_1, valM.eq_2, finM, valsM, ofStr_beq, ofStr_eq, bIsi, bIsiT, PV.kind.eq_1, PV.kind.eq_2, PV.kind.eq_3, PV.kind.eq_4, PV.kind.eq_5, PV.kind.eq_6, PV.kind.eq_7, PV.kind.eq_8, isiB, BT.nm, PV.tys.eq_1, PV.tys.eq_2, PV.tys.eq_3, bLen.eq_1, bLen.eq_2, bLen.eq_3, bLen.eq_4, bLen.eq_5, bAbs.eq_1, bAbs.eq_2, bMax2.eq_1, bMax2.eq_2, bMin2.eq_1, bMin2.eq_2, bDivmod.eq_1, bDivmod.eq_2, divOk, bInt.eq_1, bInt.eq_2, bInt.eq_3, bList.eq_1, bList.eq_2, bTuple.eq_1, bTuple.eq_2, bTuple.eq_3, bAll.eq_1, bAll.eq_2, bAny.eq_1, bAny.eq_2, bls_bools, ints_ints, oEq, oNe, oIn, oNotIn, oInF, oNotInF, oIs, oIsNot, isNonP.eq_1, isNonP.eq_2, eqP_int, eqP_bl, eqP_tup, eqP_lst, inP_ints, inF_tup, inF_lst, oAdd, oSub, oMul, mulOk, oFdiv, oMod, oPow, powOk, oLt, oLe, oGt, oGe, uNeg, lExtend, lPop, lPopAt, lReverse, lIndex_ints, rgOk, valAt, S.wipe, wipeE, S.rest, restE, oI_c, oIc_c, lAppend_c, mkOut_c, oIxA_c, rngP_0, atI_0, atI_1, ixN_ok, bls_map, -List.map_map, all_tt, enP_ints, inF_items, turn_ap, lcT_ap, tTrue_ap, Option.bind_assoc, Option.map_bind, f1]
    · simp (config := { decide := false }) [dVal_ap, dC_ap, pLate_ap, dFrz_ap, pNow_ap, dOp_ap, dUn_ap, tCmp_ap, tOf_ap, tAnd_ap, tOr_ap, tNot_ap, dAnd_ap, dOr_ap, dNot_ap, dIf_ap, mOp_ap, aNil_ap, aV_ap, aIo_ap, dTup_ap, mLst_ap, qNil_ap, qC_ap, dCall_ap, mCall_ap, lNone_ap, lSome_ap, dSlT_ap, mSlL_ap, dFld_ap, gNm_ap, gsNil_ap, gsC_ap, gTp_ap, gIx_ap, sNx_ap, sSeq_ap, sEx_ap, sAsg_ap, sSetO_ap, sRet_ap, sRetO_ap, sRetNm_ap, sRetN_ap, sIf_ap, sNever_ap, sBk_ap, sCt_ap, gSet2_ap, gSet3_ap, sPar_ap, iL_ap, iT_ap, iR1_ap, iR2_ap, iEnL_ap, iEnT_ap, iZp_ap, iA_ap, iEnA_ap, mFn_ap, mFnT_ap, mMt_ap, mFnK_ap, mMk_ap, sFldSet_ap, mPr_ap, dChain_ap, dMl_ap, mRg1_ap, mRg2_ap, mV_ap, sParO_ap, mSortU_ap, putN, putP, rdAll, AV.pvs, oFld.eq_1, oFld.eq_2, lookP, callF, takeA, putA, okObj.eq_1, okObj.eq_2, isOf.eq_1, isOf.eq_2, PV.items.eq_1, PV.items.eq_2, PV.items.eq_3, PV.items.eq_4, dMt, PV.isLst.eq_1, PV.isLst.eq_2, S.set, MV.frz.eq_1, MV.frz.eq_2, MV.frz.eq_3, MV.frz.eq_4, heldM.eq_1, heldM.eq_2, valM.eq_1, valM.eq_2, finM, valsM, ofStr_beq, ofStr_eq, bIsi, bIsiT, PV.kind.eq_1, PV.kind.eq_2, PV.kind.eq_3, PV.kind.eq_4, PV.kind.eq_5, PV.kind.eq_6, PV.kind.eq_7, PV.kind.eq_8, isiB, BT.nm, PV.tys.eq_1, PV.tys.eq_2, PV.tys.eq_3, bLen.eq_1, bLen.eq_2, bLen.eq_3, bLen.eq_4, bLen.eq_5, bAbs.eq_1, bAbs.eq_2, bMax2.eq_1, bMax2.eq_2, bMin2.eq_1, bMin2.eq_2, bDivmod.eq_1, bDivmod.eq_2, divOk, bInt.eq_1, bInt.eq_2, bInt.eq_3, bList.eq_1, bList.eq_2, bTuple.eq_1, bTuple.eq_2, bTuple.eq_3, bAll.eq_1, bAll.eq_2, bAny.eq_1, bAny.eq_2, bls_bools, ints_ints, oEq, oNe, oIn, oNotIn, oInF, oNotInF, oIs, oIsNot, isNonP.eq_1, isNonP.eq_2, eqP_int, eqP_bl, eqP_tup, eqP_lst, inP_ints, inF_tup, inF_lst, oAdd, oSub, oMul, mulOk, oFdiv, oMod, oPow, powOk, oLt, oLe, oGt, oGe, uNeg, lExtend, lPop, lPopAt, lReverse, lIndex_ints, rgOk, valAt, S.wipe, wipeE, S.rest, restE, oI_c, oIc_c, lAppend_c, mkOut_c, oIxA_c, rngP_0, atI_0, atI_1, ixN_ok, bls_map, -List.map_map, all_tt, enP_ints, inF_items, turn_ap, lcT_ap, tTrue_ap, Option.bind_assoc, Option.map_bind, q3, q4]
    · exact hv _ rfl
    · simp
      omega
    · intro k hk
      by_cases h1 : side ≤ (k : Int)
      · by_cases h2 : (k : Int) < side + n <;> simp (config := { decide := false }) [dVal_ap, dC_ap, pLate_ap, dFrz_ap, pNow_ap, dOp_ap, dUn_ap, tCmp_ap, tOf_ap, tAnd_ap, tOr_ap, tNot_ap, dAnd_ap, dOr_ap, dNot_ap, dIf_ap, mOp_ap, aNil_ap, aV_ap, aIo_ap, dTup_ap, mLst_ap, qNil_ap, qC_ap, dCall_ap, mCall_ap, lNone_ap, lSome_ap, dSlT_ap, mSlL_ap, dFld_ap, gNm_ap, gsNil_ap, gsC_ap, gTp_ap, gIx_ap, sNx_ap, sSeq_ap, sEx_ap, sAsg_ap, sSetO_ap, sRet_ap, sRetO_ap, sRetNm_ap, sRetN_ap, sIf_ap, sNever_ap, sBk_ap, sCt_ap, gSet2_ap, gSet3_ap, sPar_ap, iL_ap, iT_ap, iR1_ap, iR2_ap, iEnL_ap, iEnT_ap, iZp_ap, iA_ap, iEnA_ap, mFn_ap, mFnT_ap, mMt_ap, mFnK_ap, mMk_ap, sFldSet_ap, mPr_ap, dChain_ap, dMl_ap, mRg1_ap, mRg2_ap, mV_ap, sParO_ap, mSortU_ap, putN, putP, rdAll, AV.pvs, oFld.eq_1, oFld.eq_2, lookP, callF, takeA, putA, okObj.eq_1, okObj.eq_2, isOf.eq_1, isOf.eq_2, PV.items.eq_1, PV.items.eq_2, PV.items.eq_3, PV.items.eq_4, dMt, PV.isLst.eq_1, PV.isLst.eq_2, S.set, MV.frz.eq_1, MV.frz.eq_2, MV.frz.eq_3, MV.frz.eq_4, heldM.eq_1, heldM.eq_2, valM.eq_1, valM.eq_2, finM, valsM, ofStr_beq, ofStr_eq, bIsi, bIsiT, PV.kind.eq_1, PV.kind.eq_2, PV.kind.eq_3, PV.kind.eq_4, PV.kind.eq_5, PV.kind.eq_6, PV.kind.eq_7, PV.kind.eq_8, isiB, BT.nm, PV.tys.eq_1, PV.tys.eq_2, PV.tys.eq_3, bLen.eq_1, bLen.eq_2, bLen.eq_3, bLen.eq_4, bLen.eq_5, bAbs.eq_1, bAbs.eq_2, bMax2.eq_1, bMax2.eq_2, bMin2.eq_1, bMin2.eq_2, bDivmod.eq_1, bDivmod.eq_2, divOk, bInt.eq_1, bInt.eq_2, bInt.eq_3, bList.eq_1, bList.eq_2, bTuple.eq_1, bTuple.eq_2, bTuple.eq_3, bAll.eq_1, bAll.eq_2, bAny.eq_1, bAny.eq_2, bls_bools, ints_ints, oEq, oNe, oIn, oNotIn, oInF, oNotInF, oIs, oIsNot, isNonP.eq_1, isNonP.eq_2, eqP_int, eqP_bl, eqP_tup, eqP_lst, inP_ints, inF_tup, inF_lst, oAdd, oSub, oMul, mulOk, oFdiv, oMod, oPow, powOk, oLt, oLe, oGt, oGe, uNeg, lExtend, lPop, lPopAt, lReverse, lIndex_ints, rgOk, valAt, S.wipe, wipeE, S.rest, restE, oI_c, oIc_c, lAppend_c, mkOut_c, oIxA_c, rngP_0, atI_0, atI_1, ixN_ok, bls_map, -List.map_map, all_tt, enP_ints, inF_items, turn_ap, lcT_ap, tTrue_ap, Option.bind_assoc, Option.map_bind, h1, h2]
      · simp (config := { decide := false }) [dVal_ap, dC_ap, pLate_ap, dFrz_ap, pNow_ap, dOp_ap, dUn_ap, tCmp_ap, tOf_ap, tAnd_ap, tOr_ap, tNot_ap, dAnd_ap, dOr_ap, dNot_ap, dIf_ap, mOp_ap, aNil_ap, aV_ap, aIo_ap, dTup_ap, mLst_ap, qNil_ap, qC_ap, dCall_ap, mCall_ap, lNone_ap, lSome_ap, dSlT_ap, mSlL_ap, dFld_ap, gNm_ap, gsNil_ap, gsC_ap, gTp_ap, gIx_ap, sNx_ap, sSeq_ap, sEx_ap, sAsg_ap, sSetO_ap, sRet_ap, sRetO_ap, sRetNm_ap, sRetN_ap, sIf_ap, sNever_ap, sBk_ap, sCt_ap, gSet2_ap, gSet3_ap, sPar_ap, iL_ap, iT_ap, iR1_ap, iR2_ap, iEnL_ap, iEnT_ap, iZp_ap, iA_ap, iEnA_ap, mFn_ap, mFnT_ap, mMt_ap, mFnK_ap, mMk_ap, sFldSet_ap, mPr_ap, dChain_ap, dMl_ap, mRg1_ap, mRg2_ap, mV_ap, sParO_ap, mSortU_ap, putN, putP, rdAll, AV.pvs, oFld.eq_1, oFld.eq_2, lookP, callF, takeA, putA, okObj.eq_1, okObj.eq_2, isOf.eq_1, isOf.eq_2, PV.items.eq_1, PV.items.eq_2, PV.items.eq_3, PV.items.eq_4, dMt, PV.isLst.eq_1, PV.isLst.eq_2, S.set, MV.frz.eq_1, MV.frz.eq_2, MV.frz.eq_3, MV.frz.eq_4, heldM.eq_1, heldM.eq_2, valM.eq_1, valM.eq_2, finM, valsM, ofStr_beq, ofStr_eq, bIsi, bIsiT, PV.kind.eq_1, PV.kind.eq_2, PV.kind.eq_3, PV.kind.eq_4, PV.kind.eq_5, PV.kind.eq_6, PV.kind.eq_7, PV.kind.eq_8, isiB, BT.nm, PV.tys.eq_1, PV.tys.eq_2, PV.tys.eq_3, bLen.eq_1, bLen.eq_2, bLen.eq_3, bLen.eq_4, bLen.eq_5, bAbs.eq_1, bAbs.eq_2, bMax2.eq_1, bMax2.eq_2, bMin2.eq_1, bMin2.eq_2, bDivmod.eq_1, bDivmod.eq_2, divOk, bInt.eq_1, bInt.eq_2, bInt.eq_3, bList.eq_1, bList.eq_2, bTuple.eq_1, bTuple.eq_2, bTuple.eq_3, bAll.eq_1, bAll.eq_2, bAny.eq_1, bAny.eq_2, bls_bools, ints_ints, oEq, oNe, oIn, oNotIn, oInF, oNotInF, oIs, oIsNot, isNonP.eq_1, isNonP.eq_2, eqP_int, eqP_bl, eqP_tup, eqP_lst, inP_ints, inF_tup, inF_lst, oAdd, oSub, oMul, mulOk, oFdiv, oMod, oPow, powOk, oLt, oLe, oGt, oGe, uNeg, lExtend, lPop, lPopAt, lReverse, lIndex_ints, rgOk, valAt, S.wipe, wipeE, S.rest, restE, oI_c, oIc_c, lAppend_c, mkOut_c, oIxA_c, rngP_0, atI_0, atI_1, ixN_ok, bls_map, -List.map_map, all_tt, enP_ints, inF_items, turn_ap, lcT_ap, tTrue_ap, Option.bind_assoc, Option.map_bind, h1]
end
end K17
namespace K17
open PySem L2 GG DD Num
section
variable {ca : Nat → Addr} {sto : List MV}
def bs0 (n : Int) : List Int := ((List.range n.toNat).map fun k : Nat => (k : Int)) ++ ((List.range n.toNat).map fun k : Nat => (k : Int))
theorem bs0_good {n : Int} (n0 : 1 ≤ n) (n4 : n ≤ 4) : Boxes n 100 (bs0 n) ∧ Num.numsOf (bs0 n) = bs0 n ∧ Good (bs0 n) ∧ (bs0 n).length = 2 * n.toNat := by
  have h : (n = 1 ∨ n = 2) ∨ (n = 3 ∨ n = 4) := by omega
  rcases h with (rfl | rfl) | rfl | rfl
  all_goals refine ⟨⟨by decide, by decide, by decide, by decide⟩, by decide +kernel, ⟨by decide, by decide, by decide +kernel⟩, by decide⟩
@[reducible] def envR (ca : Nat → Addr) (a b n : Int) (bs : List Int) (u v : Option MV) : List (Option MV) := [some (pot a b), some (.val (.int n)), some (.val (.lst (bs.map .int))), some (.val (PtN ca bs)), u, v]
def Rt (sto : List MV) (r : MV × List MV × List MV) : Prop := ∃ a' b', r = (.val (.bl true), [pot a' b'], sto)
theorem e_right {a b : Int} (h : PotV a b) : ∃ r, f_l_right ca [pot a b] sto = some r ∧ Rt sto r := by
  obtain ⟨a1, b1, d, p1, d0, d4, e1⟩ := e_draw (ca := ca) (sto := sto) h (n := 4) (by decide) (by decide)
  have n0 : 1 ≤ 1 + d := by omega
  have n4 : 1 + d ≤ 4 := by omega
  generalize hn : 1 + d = n at n0 n4
  obtain ⟨hb, hq, hg, hl⟩ := bs0_good n0 n4
  have q1 : (0 : Int) ≤ n := by omega
  have r1 : -100000 ≤ n := by omega
  have r2 : n ≤ 100000 := by omega
  have hr : oRep (.lst ((List.range n.toNat).map fun k : Nat => PV.int (k : Int))) (.int 2) = some (.mlst ((bs0 n).map .int)) := by
    simp only [oRep]
    rw [if_pos (by refine ⟨by decide, ?_, by decide⟩; simp; omega)]
    simp [bs0, List.replicate]
    rfl
  have i1 := e_init (ca := ca) (sto := sto) (p := .lst ((bs0 n).map .int)) (Or.inl rfl) hg
  unfold f_l_right runF b_l_right
  simp (config := { decide := false }) [dVal_ap, dC_ap, pLate_ap, dFrz_ap, pNow_ap, dOp_ap, dUn_ap, tCmp_ap, tOf_ap, tAnd_ap, tOr_ap, tNot_ap, dAnd_ap, dOr_ap, dNot_ap, dIf_ap, mOp_ap, aNil_ap, aV_ap, aIo_ap, dTup_ap, mLst_ap, qNil_ap, qC_ap, dCall_ap, mCall_ap, lNone_ap, lSome_ap, dSlT_ap, mSlL_ap, dFld_ap, gNm_ap, gsNil_ap, gsC_ap, gTp_ap, gIx_ap, sNx_ap, sSeq_ap, sEx_ap, sAsg_ap, sSetO_ap, sRet_ap, sRetO_ap, sRetNm_ap, sRetN_ap, sIf_ap, sNever_ap, sBk_ap, sCt_ap, gSet2_ap, gSet3_ap, sPar_ap, iL_ap, iT_ap, iR1_ap, iR2_ap, iEnL_ap, iEnT_ap, iZp_ap, iA_ap, iEnA_ap, mFn_ap, mFnT_ap, mMt_ap, mFnK_ap, mMk_ap, sFldSet_ap, mPr_ap, dChain_ap, dMl_ap, mRg1_ap, mRg2_ap, mV_ap, sParO_ap, mSortU_ap, putN, putP, rdAll, AV.pvs, oFld.eq_1, oFld.eq_2, lookP, callF, takeA, putA, okObj.eq_1, okObj.eq_2, isOf.eq_1, isOf.eq_2, PV.items.eq_1, PV.items.eq_2, PV.items.eq_3, PV.items.eq_4, dMt, PV.isLst.eq_1, PV.isLst.eq_2, S.set, MV.frz.eq_1, MV.frz.eq_2, MV.frz.eq_3, MV.frz.eq_4, heldM.eq_1, heldM.eq_2, valM.eq_1, valM.eq_2, finM, valsM, ofStr_beq, ofStr_eq, bIsi, bIsiT, PV.kind.eq_1, PV.kind.eq_2, PV.kind.eq_3, PV.kind.eq_4, PV.kind.eq_5, PV.kind.eq_6, PV.kind.eq_7, PV.kind.eq_8, isiB, BT.nm, PV.tys.eq_1, PV.tys.eq_2, PV.tys.eq_3, bLen.eq_1, bLen.eq_2, bLen.eq_3, bLen.eq_4, bLen.eq_5, bAbs.eq_1, bAbs.eq_2, bMax2.eq_1, bMax2.eq_2, bMin2.eq_1, bMin2.eq_2, bDivmod.eq_1, bDivmod.eq_2, divOk, bInt.eq_1, bInt.eq_2, bInt.eq_3, bList.eq_1, bList.eq_2, bTuple.eq_1, bTuple.eq_2, bTuple.eq_3, bAll.eq_1, bAll.eq_2, bAny.eq_1, bAny.eq_2, bls_bools, ints_ints, oEq, oNe, oIn, oNotIn, oInF, oNotInF, oIs, oIsNot, isNonP.eq_1, isNonP.eq_2, eqP_int, eqP_bl, eqP_tup, eqP_lst, inP_ints, inF_tup, inF_lst, oAdd, oSub, oMul, mulOk, oFdiv, oMod, oPow, powOk, oLt, oLe, oGt, oGe, uNeg, lExtend, lPop, lPopAt, lReverse, lIndex_ints, rgOk, valAt, S.wipe, wipeE, S.rest, restE, oI_c, oIc_c, lAppend_c, mkOut_c, oIxA_c, rngP_0, atI_0, atI_1, ixN_ok, bls_map, -List.map_map, all_tt, enP_ints, inF_items, turn_ap, lcT_ap, tTrue_ap, Option.bind_assoc, Option.map_bind, e1, hn, r1, r2, hr, i1, -Prod.exists]
  refine for_bindE (List.range 30) (fun k : Nat => .int (k : Int)) (fun i s => ∃ (a b : Int) (bs : List Int) (u : Option PV), PotV a b ∧ Boxes n (100 + 2 * (i : Int)) bs ∧ s = ⟨envR ca a b n bs (u.map .val) none, sto⟩) (s0 := ⟨envR ca a1 b1 n (bs0 n) none none, sto⟩) ?_ ⟨a1, b1, bs0 n, none, p1, by simpa using hb, rfl⟩ ?_ ?_
  · simp (config := { decide := false }) [dVal_ap, dC_ap, pLate_ap, dFrz_ap, pNow_ap, dOp_ap, dUn_ap, tCmp_ap, tOf_ap, tAnd_ap, tOr_ap, tNot_ap, dAnd_ap, dOr_ap, dNot_ap, dIf_ap, mOp_ap, aNil_ap, aV_ap, aIo_ap, dTup_ap, mLst_ap, qNil_ap, qC_ap, dCall_ap, mCall_ap, lNone_ap, lSome_ap, dSlT_ap, mSlL_ap, dFld_ap, gNm_ap, gsNil_ap, gsC_ap, gTp_ap, gIx_ap, sNx_ap, sSeq_ap, sEx_ap, sAsg_ap, sSetO_ap, sRet_ap, sRetO_ap, sRetNm_ap, sRetN_ap, sIf_ap, sNever_ap, sBk_ap, sCt_ap, gSet2_ap, gSet3_ap, sPar_ap, iL_ap, iT_ap, iR1_ap, iR2_ap, iEnL_ap, iEnT_ap, iZp_ap, iA_ap, iEnA_ap, mFn_ap, mFnT_ap, mMt_ap, mFnK_ap, mMk_ap, sFldSet_ap, mPr_ap, dChain_ap, dMl_ap, mRg1_ap, mRg2_ap, mV_ap, sParO_ap, mSortU_ap, putN, putP, rdAll, AV.pvs, oFld.eq_1, oFld.eq_2, lookP, callF, takeA, putA, okObj.eq_1, okObj.eq_2, isOf.eq_1, isOf.eq_2, PV.items.eq_1, PV.items.eq_2, PV.items.eq_3, PV.items.eq_4, dMt, PV.isLst.eq_1, PV.isLst.eq_2, S.set, MV.frz.eq_1, MV.frz.eq_2, MV.frz.eq_3, MV.frz.eq_4, heldM.eq_1, heldM.eq_2, valM.eq_1, valM.eq_2, finM, valsM, ofStr_beq, ofStr_eq, bIsi, bIsiT, PV.kind.eq_1, PV.kind.eq_2, PV.kind.eq_3, PV.kind.eq_4, PV.kind.eq_5, PV.kind.eq_6, PV.kind.eq_7, PV.kind.eq_8, isiB, BT.nm, PV.tys.eq_1, PV.tys.eq_2, PV.tys.eq_3, bLen.eq_1, bLen.eq_2, bLen.eq_3, bLen.eq_4, bLen.eq_5, bAbs.eq_1, bAbs.eq_2, bMax2.eq_1, bMax2.eq_2, bMin2.eq_1, bMin2.eq_2, bDivmod.eq_1, bDivmod.eq_2, divOk, bInt.eq_1, bInt.eq_2, bInt.eq_3, bList.eq_1, bList.eq_2, bTuple.eq_1, bTuple.eq_2, bTuple.eq_3, bAll.eq_1, bAll.eq_2, bAny.eq_1, bAny.eq_2, bls_bools, ints_ints, oEq, oNe, oIn, oNotIn, oInF, oNotInF, oIs, oIsNot, isNonP.eq_1, isNonP.eq_2, eqP_int, eqP_bl, eqP_tup, eqP_lst, inP_ints, inF_tup, inF_lst, oAdd, oSub, oMul, mulOk, oFdiv, oMod, oPow, powOk, oLt, oLe, oGt, oGe, uNeg, lExtend, lPop, lPopAt, lReverse, lIndex_ints, rgOk, valAt, S.wipe, wipeE, S.rest, restE, oI_c, oIc_c, lAppend_c, mkOut_c, oIxA_c, rngP_0, atI_0, atI_1, ixN_ok, bls_map, -List.map_map, all_tt, enP_ints, inF_items, turn_ap, lcT_ap, tTrue_ap, Option.bind_assoc, Option.map_bind, PtN, hq]
  · rintro i k s hi ⟨a, b, bs, u, pv, hbx, rfl⟩
    obtain ⟨hk, rfl⟩ : k < 30 ∧ k = i := by
      obtain ⟨h2, h3⟩ := List.getElem?_eq_some_iff.mp hi
      simp at h2 h3
      omega
    obtain ⟨a2, b2, bs2, p2, hb2, f1⟩ := e_moved (ca := ca) (sto := sto) pv hbx
    have f2 := e_is_shown (ca := ca) (sto := sto) (bs := bs2) (by have := hb2.len; have := hb2.n0; omega) (by have := hb2.len; have := hb2.n4; omega)
    refine ⟨⟨envR ca a2 b2 n bs2 (some (.val (.int k))) none, sto⟩, ?_, a2, b2, bs2, some (.int k), p2, ?_, rfl⟩
    · simp (config := { decide := false }) [dVal_ap, dC_ap, pLate_ap, dFrz_ap, pNow_ap, dOp_ap, dUn_ap, tCmp_ap, tOf_ap, tAnd_ap, tOr_ap, tNot_ap, dAnd_ap, dOr_ap, dNot_ap, dIf_ap, mOp_ap, aNil_ap, aV_ap, aIo_ap, dTup_ap, mLst_ap, qNil_ap, qC_ap, dCall_ap, mCall_ap, lNone_ap, lSome_ap, dSlT_ap, mSlL_ap, dFld_ap, gNm_ap, gsNil_ap, gsC_ap, gTp_ap, gIx_ap, sNx_ap, sSeq_ap, sEx_ap, sAsg_ap, sSetO_ap, sRet_ap, sRetO_ap, sRetNm_ap, sRetN_ap, sIf_ap, sNever_ap, sBk_ap, sCt_ap, gSet2_ap, gSet3_ap, sPar_ap, iL_ap, iT_ap, iR1_ap, iR2_ap, iEnL_ap, iEnT_ap, iZp_ap, iA_ap, iEnA_ap, mFn_ap, mFnT_ap, mMt_ap, mFnK_ap, mMk_ap, sFldSet_ap, mPr_ap, dChain_ap, dMl_ap, mRg1_ap, mRg2_ap, mV_ap, sParO_ap, mSortU_ap, putN, putP, rdAll, AV.pvs, oFld.eq_1, oFld.eq_2, lookP, callF, takeA, putA, okObj.eq_1, okObj.eq_2, isOf.eq_1, isOf.eq_2, PV.items.eq_1, PV.items.eq_2, PV.items.eq_3, PV.items.eq_4, dMt, PV.isLst.eq_1, PV.isLst.eq_2, S.set, MV.frz.eq_1, MV.frz.eq_2, MV.frz.eq_3, MV.frz.eq_4, heldM.eq_1, heldM.eq_2, valM.eq_1, valM.eq_2, finM, valsM, ofStr_beq, ofStr_eq, bIsi, bIsiT, PV.kind.eq_1, PV.kind.eq_2, PV.kind.eq_3, PV.kind.eq_4, PV.kind.eq_5, PV.kind.eq_6, PV.kind.eq_7, PV.kind.eq_8, isiB, BT.nm, PV.tys.eq_1, PV.tys.eq_2, PV.tys.eq_3, bLen.eq_1, bLen.eq_2, bLen.eq_3, bLen.eq_4, bLen.eq_5, bAbs.eq_1, bAbs.eq_2, bMax2.eq_1, bMax2.eq_2, bMin2.eq_1, bMin2.eq_2, bDivmod.eq_1, bDivmod.eq_2, divOk, bInt.eq_1, bInt.eq_2, bInt.eq_3, bList.eq_1, bList.eq_2, bTuple.eq_1, bTuple.eq_2, bTuple.eq_3, bAll.eq_1, bAll.eq_2, bAny.eq_1, bAny.eq_2, bls_bools, ints_ints, oEq, oNe, oIn, oNotIn, oInF, oNotInF, oIs, oIsNot, isNonP.eq_1, isNonP.eq_2, eqP_int, eqP_bl, eqP_tup, eqP_lst, inP_ints, inF_tup, inF_lst, oAdd, oSub, oMul, mulOk, oFdiv, oMod, oPow, powOk, oLt, oLe, oGt, oGe, uNeg, lExtend, lPop, lPopAt, lReverse, lIndex_ints, rgOk, valAt, S.wipe, wipeE, S.rest, restE, oI_c, oIc_c, lAppend_c, mkOut_c, oIxA_c, rngP_0, atI_0, atI_1, ixN_ok, bls_map, -List.map_map, all_tt, enP_ints, inF_items, turn_ap, lcT_ap, tTrue_ap, Option.bind_assoc, Option.map_bind, f1, f2]
    · have : (100 + 2 * (k : Int) + 2) = 100 + 2 * ((k + 1 : Nat) : Int) := by omega
      rw [← this]
      exact hb2
  · rintro s ⟨a, b, bs, u, pv, hbx, rfl⟩
    have f1 := e_end_right (ca := ca) (sto := sto) hbx (side := 0) (Or.inl rfl)
    have f2 := e_end_right (ca := ca) (sto := sto) hbx (side := n) (Or.inr rfl)
    refine ⟨_, ?_, a, b, rfl⟩
    simp (config := { decide := false }) [dVal_ap, dC_ap, pLate_ap, dFrz_ap, pNow_ap, dOp_ap, dUn_ap, tCmp_ap, tOf_ap, tAnd_ap, tOr_ap, tNot_ap, dAnd_ap, dOr_ap, dNot_ap, dIf_ap, mOp_ap, aNil_ap, aV_ap, aIo_ap, dTup_ap, mLst_ap, qNil_ap, qC_ap, dCall_ap, mCall_ap, lNone_ap, lSome_ap, dSlT_ap, mSlL_ap, dFld_ap, gNm_ap, gsNil_ap, gsC_ap, gTp_ap, gIx_ap, sNx_ap, sSeq_ap, sEx_ap, sAsg_ap, sSetO_ap, sRet_ap, sRetO_ap, sRetNm_ap, sRetN_ap, sIf_ap, sNever_ap, sBk_ap, sCt_ap, gSet2_ap, gSet3_ap, sPar_ap, iL_ap, iT_ap, iR1_ap, iR2_ap, iEnL_ap, iEnT_ap, iZp_ap, iA_ap, iEnA_ap, mFn_ap, mFnT_ap, mMt_ap, mFnK_ap, mMk_ap, sFldSet_ap, mPr_ap, dChain_ap, dMl_ap, mRg1_ap, mRg2_ap, mV_ap, sParO_ap, mSortU_ap, putN, putP, rdAll, AV.pvs, oFld.eq_1, oFld.eq_2, lookP, callF, takeA, putA, okObj.eq_1, okObj.eq_2, isOf.eq_1, isOf.eq_2, PV.items.eq_1, PV.items.eq_2, PV.items.eq_3, PV.items.eq_4, dMt, PV.isLst.eq_1, PV.isLst.eq_2, S.set, MV.frz.eq_1, MV.frz.eq_2, MV.frz.eq_3, MV.frz.eq_4, heldM.eq_1, heldM.eq_2, valM.eq_1, valM.eq_2, finM, valsM, ofStr_beq, ofStr_eq, bIsi, bIsiT, PV.kind.eq_1, PV.kind.eq_2, PV.kind.eq_3, PV.kind.eq_4, PV.kind.eq_5, PV.kind.eq_6, PV.kind.eq_7, PV.kind.eq_8, isiB, BT.nm, PV.tys.eq_1, PV.tys.eq_2, PV.tys.eq_3, bLen.eq_1, bLen.eq_2, bLen.eq_3, bLen.eq_4, bLen.eq_5, bAbs.eq_1, bAbs.eq_2, bMax2.eq_1, bMax2.eq_2, bMin2.eq_1, bMin2.eq_2, bDivmod.eq_1, bDivmod.eq_2, divOk, bInt.eq_1, bInt.eq_2, bInt.eq_3, bList.eq_1, bList.eq_2, bTuple.eq_1, bTuple.eq_2, bTuple.eq_3, bAll.eq_1, bAll.eq_2, bAny.eq_1, bAny.eq_2, bls_bools, ints_ints, oEq, oNe, oIn, oNotIn, oInF, oNotInF, oIs, oIsNot, isNonP.eq_1, isNonP.eq_2, eqP_int, eqP_bl, eqP_tup, eqP_lst, inP_ints, inF_tup, inF_lst, oAdd, oSub, oMul, mulOk, oFdiv, oMod, oPow, powOk, oLt, oLe, oGt, oGe, uNeg, lExtend, lPop, lPopAt, lReverse, lIndex_ints, rgOk, valAt, S.wipe, wipeE, S.rest, restE, oI_c, oIc_c, lAppend_c, mkOut_c, oIxA_c, rngP_0, atI_0, atI_1, ixN_ok, bls_map, -List.map_map, all_tt, enP_ints, inF_items, turn_ap, lcT_ap, tTrue_ap, Option.bind_assoc, Option.map_bind]
    rw [lc_map [0, n] .int (fun _ => .bl true) (s1 := ⟨envR ca a b n bs (u.map .val) none, sto⟩)]
    · have hbl : PV.bls [.bl true, .bl true] = some [true, true] := rfl
      simp (config := { decide := false }) [dVal_ap, dC_ap, pLate_ap, dFrz_ap, pNow_ap, dOp_ap, dUn_ap, tCmp_ap, tOf_ap, tAnd_ap, tOr_ap, tNot_ap, dAnd_ap, dOr_ap, dNot_ap, dIf_ap, mOp_ap, aNil_ap, aV_ap, aIo_ap, dTup_ap, mLst_ap, qNil_ap, qC_ap, dCall_ap, mCall_ap, lNone_ap, lSome_ap, dSlT_ap, mSlL_ap, dFld_ap, gNm_ap, gsNil_ap, gsC_ap, gTp_ap, gIx_ap, sNx_ap, sSeq_ap, sEx_ap, sAsg_ap, sSetO_ap, sRet_ap, sRetO_ap, sRetNm_ap, sRetN_ap, sIf_ap, sNever_ap, sBk_ap, sCt_ap, gSet2_ap, gSet3_ap, sPar_ap, iL_ap, iT_ap, iR1_ap, iR2_ap, iEnL_ap, iEnT_ap, iZp_ap, iA_ap, iEnA_ap, mFn_ap, mFnT_ap, mMt_ap, mFnK_ap, mMk_ap, sFldSet_ap, mPr_ap, dChain_ap, dMl_ap, mRg1_ap, mRg2_ap, mV_ap, sParO_ap, mSortU_ap, putN, putP, rdAll, AV.pvs, oFld.eq_1, oFld.eq_2, lookP, callF, takeA, putA, okObj.eq_1, okObj.eq_2, isOf.eq_1, isOf.eq_2, PV.items.eq_1, PV.items.eq_2, PV.items.eq_3, PV.items.eq_4, dMt, PV.isLst.eq_1, PV.isLst.eq_2, S.set, MV.frz.eq_1, MV.frz.eq_2, MV.frz.eq_3, MV.frz.eq_4, heldM.eq_1, heldM.eq_2, valM.eq_1, valM.eq_2, finM, valsM, ofStr_beq, ofStr_eq, bIsi, bIsiT, PV.kind.eq_1, PV.kind.eq_2, PV.kind.eq_3, PV.kind.eq_4, PV.kind.eq_5, PV.kind.eq_6, PV.kind.eq_7, PV.kind.eq_8, isiB, BT.nm, PV.tys.eq_1, PV.tys.eq_2, PV.tys.eq_3, bLen.eq_1, bLen.eq_2, bLen.eq_3, bLen.eq_4, bLen.eq_5, bAbs.eq_1, bAbs.eq_2, bMax2.eq_1, bMax2.eq_2, bMin2.eq_1, bMin2.eq_2, bDivmod.eq_1, bDivmod.eq_2, divOk, bInt.eq_1, bInt.eq_2, bInt.eq_3, bList.eq_1, bList.eq_2, bTuple.eq_1, bTuple.eq_2, bTuple.eq_3, bAll.eq_1, bAll.eq_2, bAny.eq_1, bAny.eq_2, bls_bools, ints_ints, oEq, oNe, oIn, oNotIn, oInF, oNotInF, oIs, oIsNot, isNonP.eq_1, isNonP.eq_2, eqP_int, eqP_bl, eqP_tup, eqP_lst, inP_ints, inF_tup, inF_lst, oAdd, oSub, oMul, mulOk, oFdiv, oMod, oPow, powOk, oLt, oLe, oGt, oGe, uNeg, lExtend, lPop, lPopAt, lReverse, lIndex_ints, rgOk, valAt, S.wipe, wipeE, S.rest, restE, oI_c, oIc_c, lAppend_c, mkOut_c, oIxA_c, rngP_0, atI_0, atI_1, ixN_ok, bls_map, -List.map_map, all_tt, enP_ints, inF_items, turn_ap, lcT_ap, tTrue_ap, Option.bind_assoc, Option.map_bind, hbl]
    · simp (config := { decide := false }) [dVal_ap, dC_ap, pLate_ap, dFrz_ap, pNow_ap, dOp_ap, dUn_ap, tCmp_ap, tOf_ap, tAnd_ap, tOr_ap, tNot_ap, dAnd_ap, dOr_ap, dNot_ap, dIf_ap, mOp_ap, aNil_ap, aV_ap, aIo_ap, dTup_ap, mLst_ap, qNil_ap, qC_ap, dCall_ap, mCall_ap, lNone_ap, lSome_ap, dSlT_ap, mSlL_ap, dFld_ap, gNm_ap, gsNil_ap, gsC_ap, gTp_ap, gIx_ap, sNx_ap, sSeq_ap, sEx_ap, sAsg_ap, sSetO_ap, sRet_ap, sRetO_ap, sRetNm_ap, sRetN_ap, sIf_ap, sNever_ap, sBk_ap, sCt_ap, gSet2_ap, gSet3_ap, sPar_ap, iL_ap, iT_ap, iR1_ap, iR2_ap, iEnL_ap, iEnT_ap, iZp_ap, iA_ap, iEnA_ap, mFn_ap, mFnT_ap, mMt_ap, mFnK_ap, mMk_ap, sFldSet_ap, mPr_ap, dChain_ap, dMl_ap, mRg1_ap, mRg2_ap, mV_ap, sParO_ap, mSortU_ap, putN, putP, rdAll, AV.pvs, oFld.eq_1, oFld.eq_2, lookP, callF, takeA, putA, okObj.eq_1, okObj.eq_2, isOf.eq_1, isOf.eq_2, PV.items.eq_1, PV.items.eq_2, PV.items.eq_3, PV.items.eq_4, dMt, PV.isLst.eq_1, PV.isLst.eq_2, S.set, MV.frz.eq_1, MV.frz.eq_2, MV.frz.eq_3, MV.frz.eq_4, heldM.eq_1, heldM.eq_2, valM.eq_1, valM.eq_2, finM, valsM, ofStr_beq, ofStr_eq, bIsi, bIsiT, PV.kind.eq_1, PV.kind.eq_2, PV.kind.eq_3, PV.kind.eq_4, PV.kind.eq_5, PV.kind.eq_6, PV.kind.eq_7, PV.kind.eq_8, isiB, BT.nm, PV.tys.eq_1, PV.tys.eq_2, PV.tys.eq_3, bLen.eq_1, bLen.eq_2, bLen.eq_3, bLen.eq_4, bLen.eq_5, bAbs.eq_1, bAbs.eq_2, bMax2.eq_1, bMax2.eq_2, bMin2.eq_1, bMin2.eq_2, bDivmod.eq_1, bDivmod.eq_2, divOk, bInt.eq_1, bInt.eq_2, bInt.eq_3, bList.eq_1, bList.eq_2, bTuple.eq_1, bTuple.eq_2, bTuple.eq_3, bAll.eq_1, bAll.eq_2, bAny.eq_1, bAny.eq_2, bls_bools, ints_ints, oEq, oNe, oIn, oNotIn, oInF, oNotInF, oIs, oIsNot, isNonP.eq_1, isNonP.eq_2, eqP_int, eqP_bl, eqP_tup, eqP_lst, inP_ints, inF_tup, inF_lst, oAdd, oSub, oMul, mulOk, oFdiv, oMod, oPow, powOk, oLt, oLe, oGt, oGe, uNeg, lExtend, lPop, lPopAt, lReverse, lIndex_ints, rgOk, valAt, S.wipe, wipeE, S.rest, restE, oI_c, oIc_c, lAppend_c, mkOut_c, oIxA_c, rngP_0, atI_0, atI_1, ixN_ok, bls_map, -List.map_map, all_tt, enP_ints, inF_items, turn_ap, lcT_ap, tTrue_ap, Option.bind_assoc, Option.map_bind]
    · simp (config := { decide := false }) [dVal_ap, dC_ap, pLate_ap, dFrz_ap, pNow_ap, dOp_ap, dUn_ap, tCmp_ap, tOf_ap, tAnd_ap, tOr_ap, tNot_ap, dAnd_ap, dOr_ap, dNot_ap, dIf_ap, mOp_ap, aNil_ap, aV_ap, aIo_ap, dTup_ap, mLst_ap, qNil_ap, qC_ap, dCall_ap, mCall_ap, lNone_ap, lSome_ap, dSlT_ap, mSlL_ap, dFld_ap, gNm_ap, gsNil_ap, gsC_ap, gTp_ap, gIx_ap, sNx_ap, sSeq_ap, sEx_ap, sAsg_ap, sSetO_ap, sRet_ap, sRetO_ap, sRetNm_ap, sRetN_ap, sIf_ap, sNever_ap, sBk_ap, sCt_ap, gSet2_ap, gSet3_ap, sPar_ap, iL_ap, iT_ap, iR1_ap, iR2_ap, iEnL_ap, iEnT_ap, iZp_ap, iA_ap, iEnA_ap, mFn_ap, mFnT_ap, mMt_ap, mFnK_ap, mMk_ap, sFldSet_ap, mPr_ap, dChain_ap, dMl_ap, mRg1_ap, mRg2_ap, mV_ap, sParO_ap, mSortU_ap, putN, putP, rdAll, AV.pvs, oFld.eq_1, oFld.eq_2, lookP, callF, takeA, putA, okObj.eq_1, okObj.eq_2, isOf.eq_1, isOf.eq_2, PV.items.eq_1, PV.items.eq_2, PV.items.eq_3, PV.items.eq_4, dMt, PV.isLst.eq_1, PV.isLst.eq_2, S.set, MV.frz.eq_1, MV.frz.eq_2, MV.frz.eq_3, MV.frz.eq_4, heldM.eq_1, heldM.eq_2, valM.eq_1, valM.eq_2, finM, valsM, ofStr_beq, ofStr_eq, bIsi, bIsiT, PV.kind.eq_1, PV.kind.eq_2, PV.kind.eq_3, PV.kind.eq_4, PV.kind.eq_5, PV.kind.eq_6, PV.kind.eq_7, PV.kind.eq_8, isiB, BT.nm, PV.tys.eq_1, PV.tys.eq_2, PV.tys.eq_3, bLen.eq_1, bLen.eq_2, bLen.eq_3, bLen.eq_4, bLen.eq_5, bAbs.eq_1, bAbs.eq_2, bMax2.eq_1, bMax2.eq_2, bMin2.eq_1, bMin2.eq_2, bDivmod.eq_1, bDivmod.eq_2, divOk, bInt.eq_1, bInt.eq_2, bInt.eq_3, bList.eq_1, bList.eq_2, bTuple.eq_1, bTuple.eq_2, bTuple.eq_3, bAll.eq_1, bAll.eq_2, bAny.eq_1, bAny.eq_2, bls_bools, ints_ints, oEq, oNe, oIn, oNotIn, oInF, oNotInF, oIs, oIsNot, isNonP.eq_1, isNonP.eq_2, eqP_int, eqP_bl, eqP_tup, eqP_lst, inP_ints, inF_tup, inF_lst, oAdd, oSub, oMul, mulOk, oFdiv, oMod, oPow, powOk, oLt, oLe, oGt, oGe, uNeg, lExtend, lPop, lPopAt, lReverse, lIndex_ints, rgOk, valAt, S.wipe, wipeE, S.rest, restE, oI_c, oIc_c, lAppend_c, mkOut_c, oIxA_c, rngP_0, atI_0, atI_1, ixN_ok, bls_map, -List.map_map, all_tt, enP_ints, inF_items, turn_ap, lcT_ap, tTrue_ap, Option.bind_assoc, Option.map_bind]
    · simp
    · intro k hk
      simp only [List.mem_cons, List.not_mem_nil, or_false] at hk
      rcases hk with rfl | rfl
      · simp (config := { decide := false }) [dVal_ap, dC_ap, pLate_ap, dFrz_ap, pNow_ap, dOp_ap, dUn_ap, tCmp_ap, tOf_ap, tAnd_ap, tOr_ap, tNot_ap, dAnd_ap, dOr_ap, dNot_ap, dIf_ap, mOp_ap, aNil_ap, aV_ap, aIo_ap, dTup_ap, mLst_ap, qNil_ap, qC_ap, dCall_ap, mCall_ap, lNone_ap, lSome_ap, dSlT_ap, mSlL_ap, dFld_ap, gNm_ap, gsNil_ap, gsC_ap, gTp_ap, gIx_ap, sNx_ap, sSeq_ap, sEx_ap, sAsg_ap, sSetO_ap, sRet_ap, sRetO_ap, sRetNm_ap, sRetN_ap, sIf_ap, sNever_ap, sBk_ap, sCt_ap, gSet2_ap, gSet3_ap, sPar_ap, iL_ap, iT_ap, iR1_ap, iR2_ap, iEnL_ap, iEnT_ap, iZp_ap, iA_ap, iEnA_ap, mFn_ap, mFnT_ap, mMt_ap, mFnK_ap, mMk_ap, sFldSet_ap, mPr_ap, dChain_ap, dMl_ap, mRg1_ap, mRg2_ap, mV_ap, sParO_ap, mSortU_ap, putN, putP, rdAll, AV.pvs, oFld.eq_1, oFld.eq_2, lookP, callF, takeA, putA, okObj.eq_1, okObj.eq_2, isOf.eq_1, isOf.eq_2, PV.items.eq_1, PV.items.eq_2, PV.items.eq_3, PV.items.eq_4, dMt, PV.isLst.eq_1, PV.isLst.eq_2, S.set, MV.frz.eq_1, MV.frz.eq_2, MV.frz.eq_3, MV.frz.eq_4, heldM.eq_1, heldM.eq_2, valM.eq_1, valM.eq_2, finM, valsM, ofStr_beq, ofStr_eq, bIsi, bIsiT, PV.kind.eq_1, PV.kind.eq_2, PV.kind.eq_3, PV.kind.eq_4, PV.kind.eq_5, PV.kind.eq_6, PV.kind.eq_7, PV.kind.eq_8, isiB, BT.nm, PV.tys.eq_1, PV.tys.eq_2, PV.tys.eq_3, bLen.eq_1, bLen.eq_2, bLen.eq_3, bLen.eq_4, bLen.eq_5, bAbs.eq_1, bAbs.eq_2, bMax2.eq_1, bMax2.eq_2, bMin2.eq_1, bMin2.eq_2, bDivmod.eq_1, bDivmod.eq_2, divOk, bInt.eq_1, bInt.eq_2, bInt.eq_3, bList.eq_1, bList.eq_2, bTuple.eq_1, bTuple.eq_2, bTuple.eq_3, bAll.eq_1, bAll.eq_2, bAny.eq_1, bAny.eq_2, bls_bools, ints_ints, oEq, oNe, oIn, oNotIn, oInF, oNotInF, oIs, oIsNot, isNonP.eq_1, isNonP.eq_2, eqP_int, eqP_bl, eqP_tup, eqP_lst, inP_ints, inF_tup, inF_lst, oAdd, oSub, oMul, mulOk, oFdiv, oMod, oPow, powOk, oLt, oLe, oGt, oGe, uNeg, lExtend, lPop, lPopAt, lReverse, lIndex_ints, rgOk, valAt, S.wipe, wipeE, S.rest, restE, oI_c, oIc_c, lAppend_c, mkOut_c, oIxA_c, rngP_0, atI_0, atI_1, ixN_ok, bls_map, -List.map_map, all_tt, enP_ints, inF_items, turn_ap, lcT_ap, tTrue_ap, Option.bind_assoc, Option.map_bind, f1]
      · simp (config := { decide := false }) [dVal_ap, dC_ap, pLate_ap, dFrz_ap, pNow_ap, dOp_ap, dUn_ap, tCmp_ap, tOf_ap, tAnd_ap, tOr_ap, tNot_ap, dAnd_ap, dOr_ap, dNot_ap, dIf_ap, mOp_ap, aNil_ap, aV_ap, aIo_ap, dTup_ap, mLst_ap, qNil_ap, qC_ap, dCall_ap, mCall_ap, lNone_ap, lSome_ap, dSlT_ap, mSlL_ap, dFld_ap, gNm_ap, gsNil_ap, gsC_ap, gTp_ap, gIx_ap, sNx_ap, sSeq_ap, sEx_ap, sAsg_ap, sSetO_ap, sRet_ap, sRetO_ap, sRetNm_ap, sRetN_ap, sIf_ap, sNever_ap, sBk_ap, sCt_ap, gSet2_ap, gSet3_ap, sPar_ap, iL_ap, iT_ap, iR1_ap, iR2_ap, iEnL_ap, iEnT_ap, iZp_ap, iA_ap, iEnA_ap, mFn_ap, mFnT_ap, mMt_ap, mFnK_ap, mMk_ap, sFldSet_ap, mPr_ap, dChain_ap, dMl_ap, mRg1_ap, mRg2_ap, mV_ap, sParO_ap, mSortU_ap, putN, putP, rdAll, AV.pvs, oFld.eq_1, oFld.eq_2, lookP, callF, takeA, putA, okObj.eq_1, okObj.eq_2, isOf.eq_1, isOf.eq_2, PV.items.eq_1, PV.items.eq_2, PV.items.eq_3, PV.items.eq_4, dMt, PV.isLst.eq_1, PV.isLst.eq_2, S.set, MV.frz.eq_1, MV.frz.eq_2, MV.frz.eq_3, MV.frz.eq_4, heldM.eq_1, heldM.eq_2, valM.eq_1, valM.eq_2, finM, valsM, ofStr_beq, ofStr_eq, bIsi, bIsiT, PV.kind.eq_1, PV.kind.eq_2, PV.kind.eq_3, PV.kind.eq_4, PV.kind.eq_5, PV.kind.eq_6, PV.kind.eq_7, PV.kind.eq_8, isiB, BT.nm, PV.tys.eq_1, PV.tys.eq_2, PV.tys.eq_3, bLen.eq_1, bLen.eq_2, bLen.eq_3, bLen.eq_4, bLen.eq_5, bAbs.eq_1, bAbs.eq_2, bMax2.eq_1, bMax2.eq_2, bMin2.eq_1, bMin2.eq_2, bDivmod.eq_1, bDivmod.eq_2, divOk, bInt.eq_1, bInt.eq_2, bInt.eq_3, bList.eq_1, bList.eq_2, bTuple.eq_1, bTuple.eq_2, bTuple.eq_3, bAll.eq_1, bAll.eq_2, bAny.eq_1, bAny.eq_2, bls_bools, ints_ints, oEq, oNe, oIn, oNotIn, oInF, oNotInF, oIs, oIsNot, isNonP.eq_1, isNonP.eq_2, eqP_int, eqP_bl, eqP_tup, eqP_lst, inP_ints, inF_tup, inF_lst, oAdd, oSub, oMul, mulOk, oFdiv, oMod, oPow, powOk, oLt, oLe, oGt, oGe, uNeg, lExtend, lPop, lPopAt, lReverse, lIndex_ints, rgOk, valAt, S.wipe, wipeE, S.rest, restE, oI_c, oIc_c, lAppend_c, mkOut_c, oIxA_c, rngP_0, atI_0, atI_1, ixN_ok, bls_map, -List.map_map, all_tt, enP_ints, inF_items, turn_ap, lcT_ap, tTrue_ap, Option.bind_assoc, Option.map_bind, f2]
theorem e_law {ns : List Int} : f_law ca [.val (.lsk (ns.map .int))] sto = some (.val (.bl true), [.val (.lsk (ns.map .int))], sto) := by
  unfold f_law
  have hl : bLen [.lsk (ns.map .int)] = some (.int ns.length) := by simp [bLen]
  have hi : PV.items (.lsk (ns.map .int)) = some (ns.map .int) := rfl
  have main : ∀ m : Int, 1 ≤ m → m ≤ 4 → iR1 (aV (dCall bMax2 (qC (pNow (dC (.int 1))) (qC (pNow (dCall bMin2 (qC (pNow (dCall bLen (qC (pLate 0) qNil))) (qC (pNow (dC (.int 4))) qNil)))) qNil))) aNil) ⟨[some (.val (.lsk (ns.map .int))), none], sto⟩ = some ((List.range m.toNat).map fun k : Nat => .int (k : Int), ⟨[some (.val (.lsk (ns.map .int))), none], sto⟩) →
      (runF 1 2 [] (b_law ca)) [.val (.lsk (ns.map .int))] sto = some (.val (.bl true), [.val (.lsk (ns.map .int))], sto) := by
    intro m m1 m4 hR
    unfold runF b_law
    simp (config := { decide := false }) [dVal_ap, dC_ap, pLate_ap, dFrz_ap, pNow_ap, dOp_ap, dUn_ap, tCmp_ap, tOf_ap, tAnd_ap, tOr_ap, tNot_ap, dAnd_ap, dOr_ap, dNot_ap, dIf_ap, mOp_ap, aNil_ap, aV_ap, aIo_ap, dTup_ap, mLst_ap, qNil_ap, qC_ap, dCall_ap, mCall_ap, lNone_ap, lSome_ap, dSlT_ap, mSlL_ap, dFld_ap, gNm_ap, gsNil_ap, gsC_ap, gTp_ap, gIx_ap, sNx_ap, sSeq_ap, sEx_ap, sAsg_ap, sSetO_ap, sRet_ap, sRetO_ap, sRetNm_ap, sRetN_ap, sIf_ap, sNever_ap, sBk_ap, sCt_ap, gSet2_ap, gSet3_ap, sPar_ap, iL_ap, iT_ap, iR1_ap, iR2_ap, iEnL_ap, iEnT_ap, iZp_ap, iA_ap, iEnA_ap, mFn_ap, mFnT_ap, mMt_ap, mFnK_ap, mMk_ap, sFldSet_ap, mPr_ap, dChain_ap, dMl_ap, mRg1_ap, mRg2_ap, mV_ap, sParO_ap, mSortU_ap, putN, putP, rdAll, AV.pvs, oFld.eq_1, oFld.eq_2, lookP, callF, takeA, putA, okObj.eq_1, okObj.eq_2, isOf.eq_1, isOf.eq_2, PV.items.eq_1, PV.items.eq_2, PV.items.eq_3, PV.items.eq_4, dMt, PV.isLst.eq_1, PV.isLst.eq_2, S.set, MV.frz.eq_1, MV.frz.eq_2, MV.frz.eq_3, MV.frz.eq_4, heldM.eq_1, heldM.eq_2, valM.eq_1, valM.eq_2, finM, valsM, ofStr_beq, ofStr_eq, bIsi, bIsiT, PV.kind.eq_1, PV.kind.eq_2, PV.kind.eq_3, PV.kind.eq_4, PV.kind.eq_5, PV.kind.eq_6, PV.kind.eq_7, PV.kind.eq_8, isiB, BT.nm, PV.tys.eq_1, PV.tys.eq_2, PV.tys.eq_3, bLen.eq_1, bLen.eq_2, bLen.eq_3, bLen.eq_4, bLen.eq_5, bAbs.eq_1, bAbs.eq_2, bMax2.eq_1, bMax2.eq_2, bMin2.eq_1, bMin2.eq_2, bDivmod.eq_1, bDivmod.eq_2, divOk, bInt.eq_1, bInt.eq_2, bInt.eq_3, bList.eq_1, bList.eq_2, bTuple.eq_1, bTuple.eq_2, bTuple.eq_3, bAll.eq_1, bAll.eq_2, bAny.eq_1, bAny.eq_2, bls_bools, ints_ints, oEq, oNe, oIn, oNotIn, oInF, oNotInF, oIs, oIsNot, isNonP.eq_1, isNonP.eq_2, eqP_int, eqP_bl, eqP_tup, eqP_lst, inP_ints, inF_tup, inF_lst, oAdd, oSub, oMul, mulOk, oFdiv, oMod, oPow, powOk, oLt, oLe, oGt, oGe, uNeg, lExtend, lPop, lPopAt, lReverse, lIndex_ints, rgOk, valAt, S.wipe, wipeE, S.rest, restE, oI_c, oIc_c, lAppend_c, mkOut_c, oIxA_c, rngP_0, atI_0, atI_1, ixN_ok, bls_map, -List.map_map, all_tt, enP_ints, inF_items, turn_ap, lcT_ap, tTrue_ap, Option.bind_assoc, Option.map_bind]
    rw [lc_map (List.range m.toNat) (fun k : Nat => .int (k : Int)) (fun _ => .bl true) (s1 := ⟨[some (.val (.lsk (ns.map .int))), none], sto⟩)]
    · simp (config := { decide := false }) [dVal_ap, dC_ap, pLate_ap, dFrz_ap, pNow_ap, dOp_ap, dUn_ap, tCmp_ap, tOf_ap, tAnd_ap, tOr_ap, tNot_ap, dAnd_ap, dOr_ap, dNot_ap, dIf_ap, mOp_ap, aNil_ap, aV_ap, aIo_ap, dTup_ap, mLst_ap, qNil_ap, qC_ap, dCall_ap, mCall_ap, lNone_ap, lSome_ap, dSlT_ap, mSlL_ap, dFld_ap, gNm_ap, gsNil_ap, gsC_ap, gTp_ap, gIx_ap, sNx_ap, sSeq_ap, sEx_ap, sAsg_ap, sSetO_ap, sRet_ap, sRetO_ap, sRetNm_ap, sRetN_ap, sIf_ap, sNever_ap, sBk_ap, sCt_ap, gSet2_ap, gSet3_ap, sPar_ap, iL_ap, iT_ap, iR1_ap, iR2_ap, iEnL_ap, iEnT_ap, iZp_ap, iA_ap, iEnA_ap, mFn_ap, mFnT_ap, mMt_ap, mFnK_ap, mMk_ap, sFldSet_ap, mPr_ap, dChain_ap, dMl_ap, mRg1_ap, mRg2_ap, mV_ap, sParO_ap, mSortU_ap, putN, putP, rdAll, AV.pvs, oFld.eq_1, oFld.eq_2, lookP, callF, takeA, putA, okObj.eq_1, okObj.eq_2, isOf.eq_1, isOf.eq_2, PV.items.eq_1, PV.items.eq_2, PV.items.eq_3, PV.items.eq_4, dMt, PV.isLst.eq_1, PV.isLst.eq_2, S.set, MV.frz.eq_1, MV.frz.eq_2, MV.frz.eq_3, MV.frz.eq_4, heldM.eq_1, heldM.eq_2, valM.eq_1, valM.eq_2, finM, valsM, ofStr_beq, ofStr_eq, bIsi, bIsiT, PV.kind.eq_1, PV.kind.eq_2, PV.kind.eq_3, PV.kind.eq_4, PV.kind.eq_5, PV.kind.eq_6, PV.kind.eq_7, PV.kind.eq_8, isiB, BT.nm, PV.tys.eq_1, PV.tys.eq_2, PV.tys.eq_3, bLen.eq_1, bLen.eq_2, bLen.eq_3, bLen.eq_4, bLen.eq_5, bAbs.eq_1, bAbs.eq_2, bMax2.eq_1, bMax2.eq_2, bMin2.eq_1, bMin2.eq_2, bDivmod.eq_1, bDivmod.eq_2, divOk, bInt.eq_1, bInt.eq_2, bInt.eq_3, bList.eq_1, bList.eq_2, bTuple.eq_1, bTuple.eq_2, bTuple.eq_3, bAll.eq_1, bAll.eq_2, bAny.eq_1, bAny.eq_2, bls_bools, ints_ints, oEq, oNe, oIn, oNotIn, oInF, oNotInF, oIs, oIsNot, isNonP.eq_1, isNonP.eq_2, eqP_int, eqP_bl, eqP_tup, eqP_lst, inP_ints, inF_tup, inF_lst, oAdd, oSub, oMul, mulOk, oFdiv, oMod, oPow, powOk, oLt, oLe, oGt, oGe, uNeg, lExtend, lPop, lPopAt, lReverse, lIndex_ints, rgOk, valAt, S.wipe, wipeE, S.rest, restE, oI_c, oIc_c, lAppend_c, mkOut_c, oIxA_c, rngP_0, atI_0, atI_1, ixN_ok, bls_map, -List.map_map, all_tt, enP_ints, inF_items, turn_ap, lcT_ap, tTrue_ap, Option.bind_assoc, Option.map_bind]
    · exact hR
    · simp (config := { decide := false }) [dVal_ap, dC_ap, pLate_ap, dFrz_ap, pNow_ap, dOp_ap, dUn_ap, tCmp_ap, tOf_ap, tAnd_ap, tOr_ap, tNot_ap, dAnd_ap, dOr_ap, dNot_ap, dIf_ap, mOp_ap, aNil_ap, aV_ap, aIo_ap, dTup_ap, mLst_ap, qNil_ap, qC_ap, dCall_ap, mCall_ap, lNone_ap, lSome_ap, dSlT_ap, mSlL_ap, dFld_ap, gNm_ap, gsNil_ap, gsC_ap, gTp_ap, gIx_ap, sNx_ap, sSeq_ap, sEx_ap, sAsg_ap, sSetO_ap, sRet_ap, sRetO_ap, sRetNm_ap, sRetN_ap, sIf_ap, sNever_ap, sBk_ap, sCt_ap, gSet2_ap, gSet3_ap, sPar_ap, iL_ap, iT_ap, iR1_ap, iR2_ap, iEnL_ap, iEnT_ap, iZp_ap, iA_ap, iEnA_ap, mFn_ap, mFnT_ap, mMt_ap, mFnK_ap, mMk_ap, sFldSet_ap, mPr_ap, dChain_ap, dMl_ap, mRg1_ap, mRg2_ap, mV_ap, sParO_ap, mSortU_ap, putN, putP, rdAll, AV.pvs, oFld.eq_1, oFld.eq_2, lookP, callF, takeA, putA, okObj.eq_1, okObj.eq_2, isOf.eq_1, isOf.eq_2, PV.items.eq_1, PV.items.eq_2, PV.items.eq_3, PV.items.eq_4, dMt, PV.isLst.eq_1, PV.isLst.eq_2, S.set, MV.frz.eq_1, MV.frz.eq_2, MV.frz.eq_3, MV.frz.eq_4, heldM.eq_1, heldM.eq_2, valM.eq_1, valM.eq_2, finM, valsM, ofStr_beq, ofStr_eq, bIsi, bIsiT, PV.kind.eq_1, PV.kind.eq_2, PV.kind.eq_3, PV.kind.eq_4, PV.kind.eq_5, PV.kind.eq_6, PV.kind.eq_7, PV.kind.eq_8, isiB, BT.nm, PV.tys.eq_1, PV.tys.eq_2, PV.tys.eq_3, bLen.eq_1, bLen.eq_2, bLen.eq_3, bLen.eq_4, bLen.eq_5, bAbs.eq_1, bAbs.eq_2, bMax2.eq_1, bMax2.eq_2, bMin2.eq_1, bMin2.eq_2, bDivmod.eq_1, bDivmod.eq_2, divOk, bInt.eq_1, bInt.eq_2, bInt.eq_3, bList.eq_1, bList.eq_2, bTuple.eq_1, bTuple.eq_2, bTuple.eq_3, bAll.eq_1, bAll.eq_2, bAny.eq_1, bAny.eq_2, bls_bools, ints_ints, oEq, oNe, oIn, oNotIn, oInF, oNotInF, oIs, oIsNot, isNonP.eq_1, isNonP.eq_2, eqP_int, eqP_bl, eqP_tup, eqP_lst, inP_ints, inF_tup, inF_lst, oAdd, oSub, oMul, mulOk, oFdiv, oMod, oPow, powOk, oLt, oLe, oGt, oGe, uNeg, lExtend, lPop, lPopAt, lReverse, lIndex_ints, rgOk, valAt, S.wipe, wipeE, S.rest, restE, oI_c, oIc_c, lAppend_c, mkOut_c, oIxA_c, rngP_0, atI_0, atI_1, ixN_ok, bls_map, -List.map_map, all_tt, enP_ints, inF_items, turn_ap, lcT_ap, tTrue_ap, Option.bind_assoc, Option.map_bind]
    · simp
      omega
    · intro k hk
      have hk2 := List.mem_range.mp hk
      obtain ⟨a, b, pv, f1⟩ := e_pot (ca := ca) (sto := sto) hi hl (k := k) (by omega) (by omega)
      obtain ⟨r, f2, a', b', rfl⟩ := e_right (ca := ca) (sto := sto) pv
      simp (config := { decide := false }) [dVal_ap, dC_ap, pLate_ap, dFrz_ap, pNow_ap, dOp_ap, dUn_ap, tCmp_ap, tOf_ap, tAnd_ap, tOr_ap, tNot_ap, dAnd_ap, dOr_ap, dNot_ap, dIf_ap, mOp_ap, aNil_ap, aV_ap, aIo_ap, dTup_ap, mLst_ap, qNil_ap, qC_ap, dCall_ap, mCall_ap, lNone_ap, lSome_ap, dSlT_ap, mSlL_ap, dFld_ap, gNm_ap, gsNil_ap, gsC_ap, gTp_ap, gIx_ap, sNx_ap, sSeq_ap, sEx_ap, sAsg_ap, sSetO_ap, sRet_ap, sRetO_ap, sRetNm_ap, sRetN_ap, sIf_ap, sNever_ap, sBk_ap, sCt_ap, gSet2_ap, gSet3_ap, sPar_ap, iL_ap, iT_ap, iR1_ap, iR2_ap, iEnL_ap, iEnT_ap, iZp_ap, iA_ap, iEnA_ap, mFn_ap, mFnT_ap, mMt_ap, mFnK_ap, mMk_ap, sFldSet_ap, mPr_ap, dChain_ap, dMl_ap, mRg1_ap, mRg2_ap, mV_ap, sParO_ap, mSortU_ap, putN, putP, rdAll, AV.pvs, oFld.eq_1, oFld.eq_2, lookP, callF, takeA, putA, okObj.eq_1, okObj.eq_2, isOf.eq_1, isOf.eq_2, PV.items.eq_1, PV.items.eq_2, PV.items.eq_3, PV.items.eq_4, dMt, PV.isLst.eq_1, PV.isLst.eq_2, S.set, MV.frz.eq_1, MV.frz.eq_2, MV.frz.eq_3, MV.frz.eq_4, heldM.eq_1, heldM.eq_2, valM.eq_1, valM.eq_2, finM, valsM, ofStr_beq, ofStr_eq, bIsi, bIsiT, PV.kind.eq_1, PV.kind.eq_2, PV.kind.eq_3, PV.kind.eq_4, PV.kind.eq_5, PV.kind.eq_6, PV.kind.eq_7, PV.kind.eq_8, isiB, BT.nm, PV.tys.eq_1, PV.tys.eq_2, PV.tys.eq_3, bLen.eq_1, bLen.eq_2, bLen.eq_3, bLen.eq_4, bLen.eq_5, bAbs.eq_1, bAbs.eq_2, bMax2.eq_1, bMax2.eq_2, bMin2.eq_1, bMin2.eq_2, bDivmod.eq_1, bDivmod.eq_2, divOk, bInt.eq_1, bInt.eq_2, bInt.eq_3, bList.eq_1, bList.eq_2, bTuple.eq_1, bTuple.eq_2, bTuple.eq_3, bAll.eq_1, bAll.eq_2, bAny.eq_1, bAny.eq_2, bls_bools, ints_ints, oEq, oNe, oIn, oNotIn, oInF, oNotInF, oIs, oIsNot, isNonP.eq_1, isNonP.eq_2, eqP_int, eqP_bl, eqP_tup, eqP_lst, inP_ints, inF_tup, inF_lst, oAdd, oSub, oMul, mulOk, oFdiv, oMod, oPow, powOk, oLt, oLe, oGt, oGe, uNeg, lExtend, lPop, lPopAt, lReverse, lIndex_ints, rgOk, valAt, S.wipe, wipeE, S.rest, restE, oI_c, oIc_c, lAppend_c, mkOut_c, oIxA_c, rngP_0, atI_0, atI_1, ixN_ok, bls_map, -List.map_map, all_tt, enP_ints, inF_items, turn_ap, lcT_ap, tTrue_ap, Option.bind_assoc, Option.map_bind, f1, f2]
  obtain ⟨m, m1, m4, hm⟩ : ∃ m : Int, 1 ≤ m ∧ m ≤ 4 ∧ bMax2 [.int 1, .int (if (4 : Int) < ns.length then 4 else ns.length)] = some (.int m) := by
    refine ⟨_, ?_, ?_, rfl⟩
    · repeat' split
      all_goals omega
    · repeat' split
      all_goals omega
  refine main m m1 m4 ?_
  have b1 : -4611686018427387904 ≤ m := by omega
  have b2 : m < 4611686018427387904 := by omega
  have hm2 : bMin2 [.int ns.length, .int 4] = some (.int (if (4 : Int) < ns.length then 4 else ns.length)) := rfl
  simp (config := { decide := false }) [dVal_ap, dC_ap, pLate_ap, dFrz_ap, pNow_ap, dOp_ap, dUn_ap, tCmp_ap, tOf_ap, tAnd_ap, tOr_ap, tNot_ap, dAnd_ap, dOr_ap, dNot_ap, dIf_ap, mOp_ap, aNil_ap, aV_ap, aIo_ap, dTup_ap, mLst_ap, qNil_ap, qC_ap, dCall_ap, mCall_ap, lNone_ap, lSome_ap, dSlT_ap, mSlL_ap, dFld_ap, gNm_ap, gsNil_ap, gsC_ap, gTp_ap, gIx_ap, sNx_ap, sSeq_ap, sEx_ap, sAsg_ap, sSetO_ap, sRet_ap, sRetO_ap, sRetNm_ap, sRetN_ap, sIf_ap, sNever_ap, sBk_ap, sCt_ap, gSet2_ap, gSet3_ap, sPar_ap, iL_ap, iT_ap, iR1_ap, iR2_ap, iEnL_ap, iEnT_ap, iZp_ap, iA_ap, iEnA_ap, mFn_ap, mFnT_ap, mMt_ap, mFnK_ap, mMk_ap, sFldSet_ap, mPr_ap, dChain_ap, dMl_ap, mRg1_ap, mRg2_ap, mV_ap, sParO_ap, mSortU_ap, putN, putP, rdAll, AV.pvs, oFld.eq_1, oFld.eq_2, lookP, callF, takeA, putA, okObj.eq_1, okObj.eq_2, isOf.eq_1, isOf.eq_2, PV.items.eq_1, PV.items.eq_2, PV.items.eq_3, PV.items.eq_4, dMt, PV.isLst.eq_1, PV.isLst.eq_2, S.set, MV.frz.eq_1, MV.frz.eq_2, MV.frz.eq_3, MV.frz.eq_4, heldM.eq_1, heldM.eq_2, valM.eq_1, valM.eq_2, finM, valsM, ofStr_beq, ofStr_eq, bIsi, bIsiT, PV.kind.eq_1, PV.kind.eq_2, PV.kind.eq_3, PV.kind.eq_4, PV.kind.eq_5, PV.kind.eq_6, PV.kind.eq_7, PV.kind.eq_8, isiB, BT.nm, PV.tys.eq_1, PV.tys.eq_2, PV.tys.eq_3, bLen.eq_1, bLen.eq_2, bLen.eq_3, bLen.eq_4, bLen.eq_5, bAbs.eq_1, bAbs.eq_2, bMax2.eq_1, bMax2.eq_2, bMin2.eq_1, bMin2.eq_2, bDivmod.eq_1, bDivmod.eq_2, divOk, bInt.eq_1, bInt.eq_2, bInt.eq_3, bList.eq_1, bList.eq_2, bTuple.eq_1, bTuple.eq_2, bTuple.eq_3, bAll.eq_1, bAll.eq_2, bAny.eq_1, bAny.eq_2, bls_bools, ints_ints, oEq, oNe, oIn, oNotIn, oInF, oNotInF, oIs, oIsNot, isNonP.eq_1, isNonP.eq_2, eqP_int, eqP_bl, eqP_tup, eqP_lst, inP_ints, inF_tup, inF_lst, oAdd, oSub, oMul, mulOk, oFdiv, oMod, oPow, powOk, oLt, oLe, oGt, oGe, uNeg, lExtend, lPop, lPopAt, lReverse, lIndex_ints, rgOk, valAt, S.wipe, wipeE, S.rest, restE, oI_c, oIc_c, lAppend_c, mkOut_c, oIxA_c, rngP_0, atI_0, atI_1, ixN_ok, bls_map, -List.map_map, all_tt, enP_ints, inF_items, turn_ap, lcT_ap, tTrue_ap, Option.bind_assoc, Option.map_bind, hl, hm2, hm, b1, b2, -bMax2.eq_1, -bMin2.eq_1]
end
end K17
namespace K17
open PySem L2 GG DD
def spLaw (K : PySem.W.Frag) : Sp := fun vs H Q _ => ∃ (a : Addr) (ns : List Int), vs = [.ref a] ∧ SqL K H a (ns.map V.int) ∧ ns.length ≤ 63 ∧ ∀ H', Q (.bl true) H'
theorem FnG_imp {P : Program} {w : World} {K : PySem.W.Frag} {mg : Str → Option Value} {base : Heap} {CX : CXT} {k : Nat} {f : Addr} {fd : FuncData} {ps : List Str} {sp sp' : Sp} (F : FnG P w K mg base CX k f fd ps sp) (i : ∀ vs H Q E, sp' vs H Q E → sp vs H Q E) : FnG P w K mg base CX k f fd ps sp' :=
  ⟨fun vs H Q E h => F.size _ _ _ _ (i vs H Q E h), fun A out s H args us vs Q E hr hg e0 hb hv h => F.go A out s H args us vs Q E hr hg e0 hb hv (i vs H Q E h)⟩
theorem start_one {K : PySem.W.Frag} {H : Hp} {v : V} {p : PV} (h : Rp K [] H v p) : Sat K ⟨H, H, [], fun _ => []⟩ ([v].map some) ⟨[MV.val p].map some, []⟩ none := by
  refine ⟨⟨fun _ _ e => e, fun k u m e => ?_, fun _ _ => rfl, fun _ _ h => by simp at h, fun _ _ _ h => by simp at h⟩, rfl, fun i m e => ?_, rfl⟩
  · cases k with
    | R => cases e
    | S j => cases j <;> cases e
    | L i =>
      match i with
      | 0 =>
        cases e
        exact .val h
      | i + 1 => cases e
  · match i with
    | 0 => exact ⟨v, rfl⟩
    | i + 1 => cases e
theorem ok_l_law {P : Program} {w : World} {K : PySem.W.Frag} {mg : Str → Option Value} {base : Heap} {ca fa : Nat → Addr} {fd : Nat → FuncData} (T : Txt K mg ca fa fd) : FnG P w K mg base CX0 9 (fa 21) (fd 21) ["_law_script"] (spLaw K) := by
  refine FnG_imp (ok_law T) fun vs H Q E h => ?_
  obtain ⟨a, ns, rfl, hS, hl, q⟩ := h
  refine ⟨⟨H, H, [], fun _ => []⟩, [.val (.lsk (ns.map .int))], [], _, _, _, rfl, start_one (.lsk hS (ints_of ns)), e_law, rfl, fun v g' h' e' => ?_⟩
  have hv := h'.o.rep .R v _ rfl
  generalize g'.fp .R = fp at hv
  cases hv with
  | val z =>
    cases z
    exact q _
theorem all_F {l : PySem.W.OpenLaw} {w : World} {K : PySem.W.Frag} {mg : Str → Option Value} {f : Addr} (hf : mg "law" = some (.ref f))
    (R : ∃ (ca fa : Nat → Addr) (fd : Nat → FuncData), (∃ kV dc pm an cd ct, fd 21 = PySem.W.fnOf "law" "law" (defArgs s_law) (defBody s_law) (defScope s_law) .none kV dc pm an cd ct) ∧ Txt K mg ca fa fd) :
    ∃ fd : FuncData, (∀ (s : Shared) (v : Value), BindsTo s fd ⟨[v], []⟩ [("_law_script", v)]) ∧
      ∀ base : Heap, K.In base → base.Ns mainGlobals mg → FnG l.prog w K mg base CX0 9 f fd ["_law_script"] (spLaw K) := by
  obtain ⟨ca, fa, fd, ⟨kV, dc, pm, an, cd, ct, e⟩, T⟩ := R
  obtain rfl : f = fa 21 := by
    have q := hf.symm.trans T.d_law.at_
    cases q
    rfl
  exact ⟨fd 21, fun s v => by rw [e]; exact .of_eq rfl, fun base _ _ => ok_l_law T⟩
theorem walk {l : PySem.W.OpenLaw} {q : Program} {loose : List Str} {XP : (Str → Option Value) → Heap → Prop} {YP : World → Heap → Prop} {d : DefRec} {K : Params → PySem.W.Frag} (hn : l.most = some 63) (hdf : d.params.defaults = [])
    (hY : ∀ (w : World) (h : Heap), YP w h → (K w.params).In h)
    (F : ∀ (w : World) (mg : Str → Option Value) (fa : Addr) (h : Heap), (K w.params).In h → h.Ns mainGlobals mg → mg d.name = some (.ref fa) →
      ∃ fd : FuncData, (∀ (s : Shared) (u : Value), BindsTo s fd ⟨[u], []⟩ [("_law_script", u)]) ∧ ∀ base : Heap, (K w.params).In base → base.Ns mainGlobals mg → FnG l.prog w (K w.params) mg base CX0 9 fa fd ["_law_script"] (spLaw (K w.params))) :
    PySem.W.WalkO q loose XP YP l.row.toRowW d [] (fun f vs => PySem.call f vs) :=
  GG.walkG (n := 63) (k := 9) (x := "_law_script") (sp := fun w => spLaw (K w.params)) hn (by decide) hdf ⟨rfl, by decide, by decide⟩ hY F
    (fun _ _ a ns hl _ hS => ⟨a, ns, rfl, hS, hl, fun _ => rfl⟩)
end K17
open PySem PySem.W PyProof.Rows
set_option maxRecDepth 100000 in
set_option maxHeartbeats 0 in
theorem PySem.Challenge.cw_cutshows_k17_whole_boxes_of_two_sides_holds : PySem.Challenge.rw_cutshows_k17_whole_boxes_of_two_sides.Holds := by
  w_on; o_law; k_head; (case hw => w_witness2)
  k_fill
  refine K17.walk (l := PySem.Challenge.rw_cutshows_k17_whole_boxes_of_two_sides) rfl rfl (fun w h Y => PySem.W.kIn_of Y) ?F
  case F =>
    intro w mg fa h KX G hmg
    refine K17.all_F hmg ?R
    refine' K17.all_mk KX G ?aC0 ?pg0 ?hd0 ?po0 ?sa0 ?km0 ?kc0 ?n0_own_classes ?cr0_MOST_HOLDERS ?cg0_MOST_HOLDERS ?cv0_MOST_HOLDERS ?a0 ?l0 ?c0 ?k0 ?a1 ?l1 ?c1 ?k1 ?a2 ?l2 ?c2 ?k2 ?a3 ?l3 ?c3 ?k3 ?a4 ?i4 ?l4 ?c4 ?k4 ?a5 ?pa5 ?pb5 ?pc5 ?l5 ?c5 ?k5 ?a6 ?i6 ?l6 ?c6 ?k6 ?a7 ?i7 ?l7 ?c7 ?k7 ?a8 ?i8 ?l8 ?c8 ?k8 ?a9 ?i9 ?l9 ?c9 ?k9 ?a10 ?i10 ?l10 ?c10 ?k10 ?a11 ?i11 ?l11 ?c11 ?k11 ?a12 ?i12 ?l12 ?c12 ?k12 ?a13 ?i13 ?l13 ?c13 ?k13 ?a14 ?l14 ?c14 ?k14 ?a15 ?l15 ?c15 ?k15 ?a16 ?l16 ?c16 ?k16 ?a17 ?l17 ?c17 ?k17 ?a18 ?l18 ?c18 ?k18 ?a19 ?l19 ?c19 ?k19 ?a20 ?l20 ?c20 ?k20 ?a21 ?l21 ?c21 ?k21 ?g_GONE ?z_abs ?z_all ?z_any ?z_bool ?z_divmod ?z_enumerate ?z_int ?z_isinstance ?z_len ?z_list ?z_max ?z_min ?z_range ?z_repr ?z_set ?z_sorted ?z_tuple
    (case aC0 => k_is); (case pg0 => k_is); (case hd0 => k_is); (case po0 => k_is); (case sa0 => k_is); (case km0 => k_is); (case kc0 => k_is); (case n0_own_classes => k_is); (case cr0_MOST_HOLDERS => k_is); (case cg0_MOST_HOLDERS => k_is); (case cv0_MOST_HOLDERS => k_is); (case a0 => k_is); (case l0 => k_is); (case c0 => k_is); (case k0 => k_is); (case a1 => k_is); (case l1 => k_is); (case c1 => k_is); (case k1 => k_is); (case a2 => k_is); (case l2 => k_is); (case c2 => k_is); (case k2 => k_is); (case a3 => k_is); (case l3 => k_is); (case c3 => k_is); (case k3 => k_is); (case a4 => k_is); (case i4 => k_is); (case l4 => k_is); (case c4 => k_is); (case k4 => k_is); (case a5 => k_is); (case pa5 => k_is); (case pb5 => k_is); (case pc5 => k_is); (case l5 => k_is); (case c5 => k_is); (case k5 => k_is); (case a6 => k_is); (case i6 => k_is); (case l6 => k_is); (case c6 => k_is); (case k6 => k_is); (case a7 => k_is); (case i7 => k_is); (case l7 => k_is); (case c7 => k_is); (case k7 => k_is); (case a8 => k_is); (case i8 => k_is); (case l8 => k_is); (case c8 => k_is); (case k8 => k_is); (case a9 => k_is); (case i9 => k_is); (case l9 => k_is); (case c9 => k_is); (case k9 => k_is); (case a10 => k_is); (case i10 => k_is); (case l10 => k_is); (case c10 => k_is); (case k10 => k_is); (case a11 => k_is); (case i11 => k_is); (case l11 => k_is); (case c11 => k_is); (case k11 => k_is); (case a12 => k_is); (case i12 => k_is); (case l12 => k_is); (case c12 => k_is); (case k12 => k_is); (case a13 => k_is); (case i13 => k_is); (case l13 => k_is); (case c13 => k_is); (case k13 => k_is); (case a14 => k_is); (case l14 => k_is); (case c14 => k_is); (case k14 => k_is); (case a15 => k_is); (case l15 => k_is); (case c15 => k_is); (case k15 => k_is); (case a16 => k_is); (case l16 => k_is); (case c16 => k_is); (case k16 => k_is); (case a17 => k_is); (case l17 => k_is); (case c17 => k_is); (case k17 => k_is); (case a18 => k_is); (case l18 => k_is); (case c18 => k_is); (case k18 => k_is); (case a19 => k_is); (case l19 => k_is); (case c19 => k_is); (case k19 => k_is); (case a20 => k_is); (case l20 => k_is); (case c20 => k_is); (case k20 => k_is); (case a21 => k_is); (case l21 => k_is); (case c21 => k_is); (case k21 => k_is); (case g_GONE => k_is); (case z_abs => k_is); (case z_all => k_is); (case z_any => k_is); (case z_bool => k_is); (case z_divmod => k_is); (case z_enumerate => k_is); (case z_int => k_is); (case z_isinstance => k_is); (case z_len => k_is); (case z_list => k_is); (case z_max => k_is); (case z_min => k_is); (case z_range => k_is); (case z_repr => k_is); (case z_set => k_is); (case z_sorted => k_is); (case z_tuple => k_is);
#print axioms PySem.Challenge.cw_cutshows_k17_whole_boxes_of_two_sides_holds
