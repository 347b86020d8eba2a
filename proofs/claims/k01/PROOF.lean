import PyProof.Rows.All
import Wide.All
import OpenK.AllK
import Wide.FinOn
import PySem.Challenge.RW_leastlore_k01_checks_told
import HandS.ForMost
import HandS.ForExc
import HandS.IsInst
import HandS.Wide
import HandS.Style
import HandS.EndBits
import HandS.ExcInit
import HandS.ExcField
import HandS.ExcIs
import KE.KExcIs
set_option Elab.async false
set_option linter.all false
set_option maxRecDepth 100000
set_option maxHeartbeats 4000000
/-! ### what serves every law -/
namespace My
open PySem PySem.Spec PyProof.Rows L2
/-- the def x of the text stands, binds its arguments, and keeps its promise -/
structure Ok (P : Program) (w : World) (K : PySem.W.Frag) (mg : Str → Option Value) (base : Heap) (CX : CXT) (x : Str) (k : Nat) (ps : List Str) (sp : Sp) : Prop where
  ex : ∃ (f : Addr) (fd : FuncData), mg x = some (.ref f) ∧ PySem.W.keepIn K (.ref f) = true ∧ Binds K fd ps [] ∧ FnOk P w K mg base CX k f fd ps sp
section
variable {X : Cx}
theorem pe_callO {CX : CXT} {x : Str} {k : Nat} {ps : List Str} {sp : Sp} {E : XK} {e : Expr} {es : List Expr} {t : TA} {p pos : Pos} (G : Ok X.prog X.w X.K X.mg X.base CX x k ps sp) (hr : Room k X.A) (hg : Gl X x) (hx : Passes CX X E) (ha : PA X (e :: es) t)
    (hdb : (x == ("__debug__" : Str)) = false := by decide) (he : starEach (e :: es) X.env = (false, eval e X.env) :: starEach es X.env := by rfl) (hpl : (backTo pos (starEach es X.env)).any (·.1) = false := by rfl) :
    PE X (.Call (.Name x p) (e :: es) [] pos) (tCall sp [] E t) := by
  obtain ⟨f, fd, m, kp, b, F⟩ := G.ex
  exact pe_call F hr hg m kp b .nil hx ha hdb he hpl
theorem pe_callO0 {CX : CXT} {x : Str} {k : Nat} {ps : List Str} {sp : Sp} {E : XK} {p pos : Pos} (G : Ok X.prog X.w X.K X.mg X.base CX x k ps sp) (hr : Room k X.A) (hg : Gl X x) (hx : Passes CX X E)
    (hdb : (x == ("__debug__" : Str)) = false := by decide) : PE X (.Call (.Name x p) [] [] pos) (tCall sp [] E tNil) := by
  obtain ⟨f, fd, m, kp, b, F⟩ := G.ex
  exact pe_call0 F hr hg m kp b .nil hx hdb
end
/-- the def st stands under the name x in the written part -/
structure At (K : PySem.W.Frag) (x : Str) (st : Stmt) : Prop where
  ex : ∃ (f : Addr) (fd : FuncData), PySem.W.nsIn K mainGlobals x = some (some (.ref f)) ∧ Fun K x x st f fd
theorem at_mk {K : PySem.W.Frag} {x : Str} {st : Stmt} {f : Addr} {oc : Value} {od an : Option Addr} {osl : Array (Option Value)} {kV doc pm cdv ct : Value} (a : PySem.W.nsIn K mainGlobals x = some (some (.ref f)))
    (l : K.lookup f = some ⟨oc, od, .func (PySem.W.fnOf x x (defArgs st) (defBody st) (defScope st) .none kV doc pm an cdv ct), osl⟩)
    (c : PySem.W.codeIn K cdv x = true) (k : PySem.W.keepIn K (.ref f) = true) : At K x st := ⟨f, _, a, fun_mk l c k⟩
/-- from where it stands and what its body keeps -/
theorem At.ok {P : Program} {w : World} {K : PySem.W.Frag} {mg : Str → Option Value} {base h : Heap} {CX : CXT} {x : Str} {st : Stmt} {k : Nat} {ps : List Str} {sp : Sp} (A : At K x st) (X : K.In h) (G : h.Ns mainGlobals mg)
    (hb : ∀ (kV doc pm : Value) (an : Option Addr) (cdv ct : Value) (us : List Value), us.length = ps.length → bindArgs (PySem.W.fnOf x x (defArgs st) (defBody st) (defScope st) .none kV doc pm an cdv ct) ⟨us, []⟩ = pure (ps.zip us))
    (hF : ∀ f fd, Fun K x x st f fd → FnOk P w K mg base CX k f fd ps sp) : Ok P w K mg base CX x k ps sp := by
  obtain ⟨f, fd, a, F⟩ := A.ex
  exact ⟨f, fd, PySem.W.mg_of X G a, F.kp, F.binds hb, hF f fd F⟩
/-! ### heaps: a box of draws at b changes, new things come, all else stands -/
def Box (H : Hp) (b : Addr) : Prop := ∃ d m c : Int, H b = some (.lst [.int d, .int m, .int c])
structure Keep (b : Addr) (H H' : Hp) : Prop where
  box : Box H' b
  old : ∀ a o, a ≠ b → H a = some o → H' a = some o
theorem Keep.refl {b : Addr} {H : Hp} (h : Box H b) : Keep b H H := ⟨h, fun _ _ _ e => e⟩
theorem Keep.trans {b : Addr} {H H1 H2 : Hp} (k : Keep b H H1) (l : Keep b H1 H2) : Keep b H H2 := ⟨l.box, fun a o n e => l.old a o n (k.old a o n e)⟩
theorem Box.some {H : Hp} {b : Addr} (h : Box H b) : ∃ o, H b = some o := by
  obtain ⟨d, m, c, e⟩ := h
  exact ⟨_, e⟩
theorem Box.new {H : Hp} {b p : Addr} {o : HO} (h : Box H b) (n : H p = none) : Box (upd H p o) b := by
  obtain ⟨d, m, c, e⟩ := h
  exact ⟨d, m, c, by rw [upd_ne (ne_of_none e n)]; exact e⟩
theorem Keep.new {b p : Addr} {H H' : Hp} {o : HO} (k : Keep b H H') (n : H' p = none) : Keep b H (upd H' p o) :=
  ⟨k.box.new n, fun a u na e => by rw [upd_ne (ne_of_none (k.old a u na e) n)]; exact k.old a u na e⟩
theorem Keep.seq {K : PySem.W.Frag} {b a : Addr} {H H' : Hp} {xs : List V} (k : Keep b H H') (n : a ≠ b) (h : SqL K H a xs) : SqL K H' a xs := by
  rcases h with (h | ⟨o, h⟩) | h
  · exact .inl (.inl (k.old _ _ n h))
  · exact .inl (.inr ⟨o, k.old _ _ n h⟩)
  · exact .inr h
theorem same_upd {H : Hp} {p : Addr} {o : HO} (h : H p = none) : Same H (upd H p o) := fun b x e => by
  rw [upd_ne (ne_of_none e h)]
  exact e
theorem Same.new {H H' : Hp} {p : Addr} {o : HO} (k : Same H H') (h : H' p = none) : Same H (upd H' p o) := k.trans (same_upd h)
theorem Box.same {H H' : Hp} {b : Addr} (h : Box H b) (s : Same H H') : Box H' b := by
  obtain ⟨d, m, c, e⟩ := h
  exact ⟨d, m, c, s _ _ e⟩
theorem Same.keep {H H' : Hp} {b : Addr} (h : Box H b) (s : Same H H') : Keep b H H' := ⟨h.same s, fun a o _ e => s a o e⟩
theorem Keep.free {b p : Addr} {H H' : Hp} (k : Keep b H H') (h : Box H b) (n : H' p = none) : H p = none := by
  cases q : H p with
  | none => rfl
  | some o =>
    by_cases e : p = b
    · subst e
      obtain ⟨d, m, c, e2⟩ := k.box
      rw [e2] at n
      cases n
    · rw [k.old p o e q] at n
      cases n
end My

/-! ### defs that are run while nothing is being written out by repr (no guards): a promise over such surroundings alone -/
namespace My
open PySem PySem.Spec PyProof.Rows L2
structure FnG (P : Program) (w : World) (K : PySem.W.Frag) (mg : Str → Option Value) (base : Heap) (CX : CXT) (k : Nat) (f : Addr) (fd : FuncData) (ps : List Str) (sp : Sp) : Prop where
  len : ∀ vs H Q E, sp vs H Q E → vs.length = ps.length
  run : ∀ (A : Around) (outer : List Env) (s : Shared) (H : Hp) (args : Args) (us : List Value) (vs : List V) (Q : VK) (E : XK), A.guards = some [] → Room k A →
    Env0 P w K mg base A outer s H → BindsTo s fd args (ps.zip us) → Vals vs us → sp vs H Q E → codeAny (model P w) A (.call (.ref f) args) (CR CX outer P w H s Q E) s
section
variable {P : Program} {w : World} {K : PySem.W.Frag} {mg : Str → Option Value} {base : Heap} {CX : CXT} {k : Nat} {f : Addr} {fd : FuncData} {ps : List Str} {sp : Sp}
theorem fnG_of_ok (F : FnOk P w K mg base CX k f fd ps sp) : FnG P w K mg base CX k f fd ps sp :=
  ⟨F.len, fun A outer s H args us vs Q E _ hr e0 hb hv hs => F.run A outer s H args us vs Q E hr e0 hb hv hs⟩
/-- from a body -/
theorem fnG_of {name qual : Str} {params : Arguments} {body : List Stmt} {scope : Scope} {dV kV doc pm cdv ct oc : Value} {an od : Option Addr} {osl : Array (Option Value)} {N : List Str}
    (lk : K.lookup f = some ⟨oc, od, .func (PySem.W.fnOf name qual params body scope dV kV doc pm an cdv ct), osl⟩)
    (hcd : PySem.W.codeIn K cdv qual = true) (S : FnScope N ps scope) (len : ∀ vs H Q E, sp vs H Q E → vs.length = ps.length)
    (hbody : ∀ (A : Around) (outer : List Env) (s : Shared) (H : Hp) (vs : List V) (Q : VK) (E : XK), A.guards = some [] →
      Room k (A.deeper (envOfC qual scope s.heap.objs.size f cdv)) → sp vs H Q E →
      ∃ t, PSs (cxOf CX P w K mg base N qual scope f cdv A outer s H E) body t ∧ t { nx := fun _ H' => Q .non H', rt := Q } (start N vs) H) :
    FnG P w K mg base CX (k + 1) f (PySem.W.fnOf name qual params body scope dV kV doc pm an cdv ct) ps sp := by
  constructor
  · exact len
  · intro A outer s H args us vs Q E hgd hr e0 hb r hsp
    have kin : K.In s.heap := e0.mod.kin.keeps fun b o e => (e0.bs b o e).1
    have nol : s.heap.NoLimit := e0.mod.nolimit.keeps fun b o e => (e0.bs b o e).1
    have kinds : ∀ y ∈ ps.zip us, scope.names.lookup y.1 = some .local ∨ (scope.names.lookup y.1 = some .cell ∧ ((cellsFrom (s.heap.objs.size + 1) scope.names []).lookup y.1).isSome = true) := by
      intro y hy
      obtain ⟨n, v⟩ := y
      have hm := (List.of_mem_zip hy).1
      cases S.par n hm with
      | inl q => exact Or.inl q
      | inr q => exact Or.inr ⟨q, PySem.W.cellsFrom_some _ _ _ (Or.inl q)⟩
    apply codeAny_call_function hr.depth (kin _ _ lk) rfl S.co S.gen rfl (PySem.W.codeRec_of kin hcd)
    apply hb
    apply wpAny_newFunctionEnv_cells S.kind kinds
    intro env he s1 x
    subst he
    constructor
    · exact nol.keeps x.toInCall.keep
    · apply codeAny_func
      obtain ⟨t, ht, hq⟩ := hbody A outer s H vs Q E hgd (hr.deeper _) hsp
      have I : Inv (cxOf CX P w K mg base N qual scope f cdv A outer s H E) [] (start N vs) H s1 := inv_start S hr.hd e0 (len _ _ _ _ hsp) r x
      refine wpAny_mono (ht.run [] s1 (start N vs) H _ I hq) ?_ (fun e s' hs => hs)
      intro fl s' hs
      cases fl with
      | ret u =>
        obtain ⟨v, σ', H', J, rv, q⟩ := hs
        exact ⟨v, H', J.os, J.bare, J.base, J.hok, rv, q⟩
      | next =>
        obtain ⟨σ', H', J, q⟩ := hs
        exact ⟨V.non, H', J.os, J.bare, J.base, J.hok, rfl, q⟩
      | brk =>
        obtain ⟨_, _, _, q⟩ := hs
        cases q
      | cont =>
        obtain ⟨_, _, _, q⟩ := hs
        cases q
theorem okG {x qual : Str} {st : Stmt} {N : List Str} (F : Fun K x qual st f fd) (S : FnScope N ps (defScope st)) (len : ∀ vs H Q E, sp vs H Q E → vs.length = ps.length)
    (hbody : ∀ (cdv : Value) (A : Around) (outer : List Env) (s : Shared) (H : Hp) (vs : List V) (Q : VK) (E : XK), A.guards = some [] →
      Room k (A.deeper (envOfC qual (defScope st) s.heap.objs.size f cdv)) → sp vs H Q E →
      ∃ t, PSs (cxOf CX0 P w K mg base N qual (defScope st) f cdv A outer s H E).nox (defBody st) t ∧ t { nx := fun _ H' => Q .non H', rt := Q } (start N vs) H) :
    FnG P w K mg base CX0 (k + 1) f fd ps sp := by
  obtain ⟨oc, od, kV, doc, pm, an, cdv, ct, osl, rfl, lk, hcd⟩ := F.ex
  apply fnG_of lk hcd S len
  intro A outer s H vs Q E hgd hr hsp
  obtain ⟨t, h, q⟩ := hbody cdv A outer s H vs Q E hgd hr hsp
  exact ⟨t, h.nox, q⟩
end
/-- as Ok, over such surroundings -/
structure OkG (P : Program) (w : World) (K : PySem.W.Frag) (mg : Str → Option Value) (base : Heap) (CX : CXT) (x : Str) (k : Nat) (ps : List Str) (sp : Sp) : Prop where
  ex : ∃ (f : Addr) (fd : FuncData), mg x = some (.ref f) ∧ PySem.W.keepIn K (.ref f) = true ∧ Binds K fd ps [] ∧ FnG P w K mg base CX k f fd ps sp
theorem At.okG {P : Program} {w : World} {K : PySem.W.Frag} {mg : Str → Option Value} {base h : Heap} {CX : CXT} {x : Str} {st : Stmt} {k : Nat} {ps : List Str} {sp : Sp} (A : At K x st) (X : K.In h) (G : h.Ns mainGlobals mg)
    (hb : ∀ (kV doc pm : Value) (an : Option Addr) (cdv ct : Value) (us : List Value), us.length = ps.length → bindArgs (PySem.W.fnOf x x (defArgs st) (defBody st) (defScope st) .none kV doc pm an cdv ct) ⟨us, []⟩ = pure (ps.zip us))
    (hF : ∀ f fd, Fun K x x st f fd → FnG P w K mg base CX k f fd ps sp) : OkG P w K mg base CX x k ps sp := by
  obtain ⟨f, fd, a, F⟩ := A.ex
  exact ⟨f, fd, PySem.W.mg_of X G a, F.kp, F.binds hb, hF f fd F⟩
section
variable {X : Cx} {CX : CXT} {k : Nat} {f : Addr} {fd : FuncData} {ps : List Str} {sp : Sp} {E : XK} {x : Str}
theorem run_fnG {pins : List (Addr × Obj)} {σ : L2.St} {H : Hp} {s : Shared} {Q : VK} {us : List Value} {vs : List V} (F : FnG X.prog X.w X.K X.mg X.base CX k f fd ps sp) (hgd : X.A.guards = some []) (hr : Room k X.A) (hb : Binds X.K fd ps []) (hx : Passes CX X E)
    (I : Inv X pins σ H s) (r : Vals vs us) (h : sp vs H Q E) : wpAny (model X.prog X.w) X.A (call (.ref f) us) (EP X pins σ Q) X.xe s := by
  have hl : us.length = ps.length := r.length.symm.trans (F.len _ _ _ _ h)
  have hbt : BindsTo s fd ⟨us, []⟩ (ps.zip us) := by
    have z := hb s us I.kIn (by rw [List.append_nil]; exact hl)
    rw [List.append_nil] at z
    exact z
  apply wpAny_call
  refine codeAny_mono (F.run X.A X.stack s H ⟨us, []⟩ us vs Q E hgd hr I.env0 hbt r h) ?_
  intro res s' hq
  rcases res with e | fl
  · exact hx pins σ H s e s' I hq
  · cases fl with
    | ret u => exact I.after hq
    | next => cases hq
    | brk => cases hq
    | cont => cases hq
theorem pe_callG {e : Expr} {es : List Expr} {t : TA} {p pos : Pos} (G : OkG X.prog X.w X.K X.mg X.base CX x k ps sp) (hr : Room k X.A) (hgd : X.A.guards = some []) (hg : Gl X x) (hx : Passes CX X E) (ha : PA X (e :: es) t)
    (hdb : (x == ("__debug__" : Str)) = false := by decide) (he : starEach (e :: es) X.env = (false, eval e X.env) :: starEach es X.env := by rfl) (hpl : (backTo pos (starEach es X.env)).any (·.1) = false := by rfl) :
    PE X (.Call (.Name x p) (e :: es) [] pos) (tCall sp [] E t) := by
  obtain ⟨f, fd, hm, hk, hb, F⟩ := G.ex
  constructor
  intro pins s σ H Q I h
  apply wpAny_Call_Name_kw
  refine ld_glob I hg hm ?_ hdb
  refine PySem.W.callWith_K (h₀ := X.base) I.ok.mod.kin hk (thn (ha.run pos pins s σ H _ I h) ?_) he hpl
  intro us s1 hh
  obtain ⟨vs, H1, I1, r, q⟩ := hh
  rw [List.append_nil] at q
  exact ⟨I1.kIn, run_fnG F hgd hr hb hx I1 r q⟩
end
/-! ### repr of data -/
def rRepr (K : PySem.W.Frag) : List V → Hp → VK → Prop := fun xs H Q => ∃ (x : V) (d : PyData), xs = [x] ∧ Dp K H x d ∧ d.showable = true ∧ d.depth ≤ 60 ∧ d.shown.length ≤ sizeLine ∧ Q (.str d.shown) H
theorem dp_nodict {K : PySem.W.Frag} {H : Hp} : ∀ (d : PyData), (∀ v, Dp K H v d → d.hasDict = false) ∧ True := by
  intro d
  refine ⟨?_, trivial⟩
  intro v h
  induction h using Dp.rec (motive_2 := fun vs ds _ => PyData.hasDictAll ds = false) with
  | non => rfl
  | bl b => rfl
  | int i => rfl
  | str x => rfl
  | lst _ _ ih => simp only [PyData.hasDict]; exact ih
  | tup _ _ ih => simp only [PyData.hasDict]; exact ih
  | nil => rfl
  | cons _ _ ih1 ih2 => simp only [PyData.hasDictAll, ih1, ih2]; rfl
theorem call_reprD {X : Cx} (hgd : X.A.guards = some []) (hu : X.A.units + 64 < cLine) : CallR X (.builtin "repr") (rRepr X.K) := by
  intro pins s σ H xs us Q I r h
  obtain ⟨x, d, rfl, hd, hs, hdep, hz, q⟩ := h
  obtain ⟨u, rfl, r1⟩ := vals1 r
  obtain ⟨as, hr⟩ := Dp.reads I d x u hd r1
  have hnd := (dp_nodict d).1 x hd
  cases hd with
  | non =>
    cases r1
    exact PySem.P.repr_of_none ⟨.str _, H, I.tok _, ⟨_, rfl⟩, q⟩
  | bl b =>
    cases r1
    exact PySem.P.repr_of_bool ⟨.str _, H, I.tok _, ⟨_, rfl⟩, q⟩
  | int i =>
    obtain ⟨t, rfl⟩ := r1
    exact PySem.P.repr_of_int (by simpa [PyData.showable] using hs) ⟨.str _, H, I.tok _, ⟨_, rfl⟩, q⟩
  | str z =>
    obtain ⟨t, rfl⟩ := r1
    exact PySem.P.repr_of_str ⟨.str _, H, I.tok _, ⟨_, rfl⟩, q⟩ (by simpa only [PyData.shown] using hz)
  | lst h1 h2 =>
    cases r1
    exact repr_of_reads' hr hs (PyData.noDict_hsm hnd) hgd (by omega) (fun _ _ e => e) (fun h' u tk hk => ⟨.str _, H, I.kept (t' := tk) hk, ⟨_, rfl⟩, q⟩) hz
  | tup h1 h2 =>
    cases r1
    exact repr_of_reads' hr hs (PyData.noDict_hsm hnd) hgd (by omega) (fun _ _ e => e) (fun h' u tk hk => ⟨.str _, H, I.kept (t' := tk) hk, ⟨_, rfl⟩, q⟩) hz
end My

/-! ### the program's own errors: class X(LoreError), whose __init__ says LoreError.__init__(self, words) and keeps one thing -/
namespace My
open PySem PySem.Spec PyProof.Rows L2
/-- LoreError stands at L and hands on ValueError's __init__ -/
structure BaseC (K : PySem.W.Frag) (mg : Str → Option Value) (L : Addr) : Prop where
  gL : mg "LoreError" = some (.ref L)
  rd : PySem.W.readsIn K L (.type "type") = true
  ga : PySem.W.specialIn K (.ref L) "__getattribute__" = some (some (.builtin "type.__getattribute__"))
  vI : PySem.W.findCls K (.ref L) (.type "type") "__init__" = some (.val (.builtin "ValueError.__init__"))
theorem pe_loreinit {X : Cx} {L : Addr} {e : Expr} {es : List Expr} {ta : TA} {p1 p2 pos : Pos} {pl : Sem Bool} (B : BaseC X.K X.mg L) (hg : Gl X "LoreError") (ha : PA X (e :: es) ta)
    (hc : eval (.Call (.Attribute (.Name "LoreError" p1) "__init__" p2) (e :: es) [] pos) X.env = (do
      let ov ← eval (.Name "LoreError" p1) X.env
      standAt p2.atName
      let (g, first) ← holding [ov] (getMethod ov "__init__" pl)
      callWith pos g first (backTo pos (starEach (e :: es) X.env)) (backToKw pos (keywordEach [] X.env))) := by rfl)
    (he : starEach (e :: es) X.env = (false, eval e X.env) :: starEach es X.env := by rfl) (hpl : (backTo pos (starEach es X.env)).any (·.1) = false := by rfl) :
    PE X (.Call (.Attribute (.Name "LoreError" p1) "__init__" p2) (e :: es) [] pos) (tVeI X.K ta) := by
  constructor
  intro pins s σ H Q I h
  refine PySem.W.methodCall_KW (ld_glob I hg B.gL ?_) hc
  refine PySem.W.method_cls I.kIn B.ga (PySem.W.cls_value I.kIn B.rd B.vI (by decide +kernel) ?_)
  show wpAny _ _ (callWith pos (Value.builtin "ValueError.__init__") [] (backTo pos (starEach (e :: es) X.env)) []) _ _ _
  refine PyProof.Rows.callWith_method1 (thn (ha.run pos pins _ σ H _ (I.tok _) h) ?_) he hpl
  intro us s1 hh
  obtain ⟨vs, H1, I1, r1, a, C, ws, ev, hl, T, ea, q⟩ := hh
  subst ev
  cases r1 with
  | @cons _ u0 _ ur ra rw' =>
    have e0 : u0 = Value.ref a := ra
    subst e0
    refine oinit_ok T I1 ea ?_ fun s' J => ⟨.non, H1, J, rfl, q⟩
    have z := Paired.length rw'
    rw [sizeLine_eq]
    omega
/-- what __init__ does: self keeps v as f -/
def spInit1 (C : Addr) (f : Str) : Sp := fun vs H Q _ => ∃ (a : Addr) (v : V), vs = [.ref a, v] ∧ H a = some (exo a C none) ∧
  ∀ dx, H dx = none → dx ≠ a → Q .non (upd (upd H dx (exd dx [(f, v)])) a (exo a C (some dx)))
/-- what of the text such a class must have -/
structure ErrC (P : Program) (w : World) (K : PySem.W.Frag) (mg : Str → Option Value) (base : Heap) (x f : Str) (C : Addr) : Prop where
  gC : mg x = some (.ref C)
  oex : OexC K C
  noF : PySem.W.findIn K (.ref C) f = some none
  xf : XfC K C
  hcl : (PySem.W.clsIn K C).isSome = true
  ha : PySem.W.findIn K (.ref C) "__class__" = some (some (.builtin "object.__class__"))
  hm : PySem.W.mroIn K C (.type "object") = some true
  te : PySem.W.exmOne K (.ref C) (.ref C) = some true
  hn : PySem.W.specialIn K (.builtin "object.__class__") "__get__" = some (some (.builtin "getset_descriptor.__get__"))
  ht : PySem.W.takesIn K (.builtin "object.__class__") = some true
  ini : ∃ (fI : Addr) (fd : FuncData), PySem.W.findIn K (.ref C) "__init__" = some (some (.ref fI)) ∧ PySem.W.typeIn K (.ref fI) = some (.type "function") ∧ Binds K fd ["self", f] [] ∧ FnOk P w K mg base CX0 1 fI fd ["self", f] (spInit1 C f)
theorem PA_mono {X : Cx} {es : List Expr} {ta : TA} (h : PA X es ta) : PA X es (fun σ H Q => ∃ Q0 : List V → Hp → Prop, ta σ H Q0 ∧ ∀ vs H1, Q0 vs H1 → Q vs H1) := by
  constructor
  intro pos pins s σ H Q I hq
  obtain ⟨Q0, h0, h1⟩ := hq
  refine thn (h.run pos pins s σ H Q0 I h0) ?_
  intro us s1 hh
  obtain ⟨vs, H1, I1, r, q⟩ := hh
  exact ⟨vs, H1, I1, r, h1 vs H1 q⟩
/-- X(e): for any new d the dict that keeps the thing -/
def tMkE (C : Addr) (f : Str) (ta : TA) : L2.St → Hp → XK → Prop := fun σ H Q => ta σ H fun vs H1 => ∃ v, vs = [v] ∧ ∀ d, H1 d = none → Q (.ref C) (some d) (upd H1 d (.xd [(f, v)]))
theorem err_heap {H : Hp} {a dx C : Addr} {fs : List (Str × V)} (n : H a = none) (ne : dx ≠ a) :
    upd (del (upd (upd (upd H a (exo a C none)) dx (exd dx fs)) a (exo a C (some dx))) a) dx (.xd fs) = upd H dx (.xd fs) := by
  funext b
  by_cases h1 : b = dx
  · subst h1
    rw [upd_same, upd_same]
  · rw [upd_ne h1, upd_ne h1]
    by_cases h2 : b = a
    · subst h2
      rw [del_same, n]
    · rw [del_ne h2, upd_ne h2, upd_ne h1, upd_ne h2]
theorem pmk_err {X : Cx} {x f : Str} {C : Addr} {e : Expr} {ta : TA} {p pos : Pos} {k : Nat} (T : ErrC X.prog X.w X.K X.mg X.base x f C) (hr : Room (k + 2) X.A) (hg : Gl X x) (ha : PA X [e] ta)
    (hdb : (x == ("__debug__" : Str)) = false := by decide) (he : starEach [e] X.env = (false, eval e X.env) :: starEach [] X.env := by rfl) (hpl : (backTo pos (starEach [] X.env)).any (·.1) = false := by rfl) :
    PMk X (.Call (.Name x p) [e] [] pos) (tMkE C f ta) := by
  obtain ⟨fI, fd, iC, tI, hb, F1⟩ := T.ini
  intro pins s σ H Q I h
  refine pmk_oex T.oex iC tI F1 (hr.mono (by omega)) hb .nil pass0 hg T.gC (PA_mono ha) hdb he hpl pins s σ H Q I ⟨_, h, ?_⟩
  intro vs H1 hv
  obtain ⟨v, rfl, q⟩ := hv
  refine ⟨(by show 1 ≤ 1000; decide), fun a na => ⟨a, v, rfl, upd_same, fun dx nd ne => ?_⟩⟩
  have nd1 : H1 dx = none := by
    rw [upd_ne ne] at nd
    exact nd
  refine ⟨rfl, dx, [(f, v)], upd_same, ?_, nd1, ?_⟩
  · rw [upd_ne ne, upd_same]
  · rw [err_heap na ne]
    exact q dx nd1
/-- raise X(e) -/
theorem ps_err {X : Cx} {W : WX} {x f : Str} {C : Addr} {e : Expr} {ta : TA} {p pos pos2 : Pos} {k : Nat} (hc : X.calm = true) (T : ErrC X.prog X.w X.K X.mg X.base x f C) (hr : Room (k + 2) X.A) (tk : Takes X W) (hg : Gl X x) (ha : PA X [e] ta)
    (hdb : (x == ("__debug__" : Str)) = false := by decide) (he : starEach [e] X.env = (false, eval e X.env) :: starEach [] X.env := by rfl) (hpl : (backTo pos (starEach [] X.env)).any (·.1) = false := by rfl) :
    PS X (.Raise (some (.Call (.Name x p) [e] [] pos)) none pos2) (fun _ σ H => tMkE C f ta σ H fun cls d H' => W cls d σ H') := ps_raise hc tk (pmk_err T hr hg ha hdb he hpl)
/-- isinstance(e, c), e the caught error (at a, of the class cls, its dict d) -/
def rIsED (K : PySem.W.Frag) (D a : Addr) (cls : Value) (d : Option Addr) : List V → Hp → VK → Prop := fun xs H Q => ∃ (c : V) (cv : Value) (b : Bool) (dd : Addr) (fs : List (Str × V)), xs = [.ref a, c] ∧ cls = .ref D ∧ d = some dd ∧ H dd = some (.xd fs) ∧
  ClsV c cv ∧ PySem.W.kitOne K (.ref D) cv = some b ∧ Q (.bl b) H
theorem call_isED {X : Cx} {x f : Str} {a D : Addr} {oe : Obj} {cls : Value} {d : Option Addr} {pn : List (Addr × Obj)} (T : ErrC X.prog X.w X.K X.mg X.base x f D) (hz : Zc cls d oe) (hf : ∃ vs, oe.data = .fields vs) :
    CallR (X.suite a ((a, oe) :: pn)) (.builtin "isinstance") (rIsED X.K D a cls d) := by
  intro pins s σ H xs us Q I r h
  obtain ⟨c, cv, b, dd, fs, rfl, rfl, rfl, hd, hcv, e, q⟩ := h
  obtain ⟨u1, u2, rfl, r1, r2⟩ := vals2 r
  have e1 : u1 = Value.ref a := r1
  have e2 := hcv.eq r2
  subst e1 e2
  obtain ⟨hget, _⟩ := I.pin (a, oe) (List.mem_append.mpr (.inl List.mem_cons_self))
  obtain ⟨vs, hv⟩ := hf
  obtain ⟨mA, hns, _⟩ := (show ObjOk X.prog X.w H s.heap dd (.xd fs) from I.hok dd _ hd)
  obtain ⟨od, ho, _⟩ := lookIn_ns hns
  have J : PySem.W.InstAt s.heap a oe D (some od) := ⟨hget, hz.1, by unfold PySem.W.notCls; rw [hv] <;> rfl, by rw [hz.2]; exact ho⟩
  have Z := PySem.W.kitx_exc (K := X.K) (x := a) (C := D) (ox := oe) (od := some od) T.hcl T.xf.ga T.xf.gg T.xf.exC T.ha T.hn T.ht T.hm
  exact PySem.W.kia_one Z I.kIn J e (fun z => nomatch z) fun tk => ⟨.bl b, H, I.kept (t' := tk) fun _ _ z => z, rfl, q⟩
end My

/-! ### things by their kinds, and what isinstance says of them -/
namespace My
open PySem PySem.Spec PyProof.Rows L2
inductive Kd | non | bl | int | str | lst | tup | dic
deriving DecidableEq
def Kd.ty : Kd → String
  | .non => "NoneType" | .bl => "bool" | .int => "int" | .str => "str" | .lst => "list" | .tup => "tuple" | .dic => "dict"
inductive Thing (H : Hp) : V → Kd → Prop
  | non : Thing H .non .non
  | bl (b : Bool) : Thing H (.bl b) .bl
  | int (i : Int) : Thing H (.int i) .int
  | str (z : Str) : Thing H (.str z) .str
  | lst {a : Addr} {xs : List V} (h : H a = some (.lst xs)) : Thing H (.ref a) .lst
  | tup {a : Addr} {xs : List V} (h : H a = some (.tup xs)) : Thing H (.ref a) .tup
  | dic {a : Addr} {kvs : List (Key × V)} (h : H a = some (.dK kvs)) : Thing H (.ref a) .dic
theorem Thing.mono {H H' : Hp} {x : V} {k : Kd} (t : Thing H x k) (h : ∀ a o, x = .ref a → H a = some o → H' a = some o) : Thing H' x k := by
  cases t with
  | non => exact .non
  | bl b => exact .bl b
  | int i => exact .int i
  | str z => exact .str z
  | lst e => exact .lst (h _ _ rfl e)
  | tup e => exact .tup (h _ _ rfl e)
  | dic e => exact .dic (h _ _ rfl e)
theorem Thing.same {H H' : Hp} {x : V} {k : Kd} (t : Thing H x k) (s : Same H H') : Thing H' x k := t.mono fun a o _ e => s a o e
theorem Thing.tyx {K : PySem.W.Frag} {H : Hp} {x : V} {k : Kd} (t : Thing H x k) : TyX K H x (.type k.ty) := by
  cases t with
  | non => exact .base .non
  | bl b => exact .base (.bl b)
  | int i => exact .base (.int i)
  | str z => exact .base (.str z)
  | lst e => exact .base (.lst e)
  | tup e => exact .base (.tup e)
  | dic e => exact .base (.dK e)
def Kd.isInt : Kd → Bool | .int => true | .bl => true | _ => false
def Kd.isBool : Kd → Bool | .bl => true | _ => false
def Kd.isStr : Kd → Bool | .str => true | _ => false
def Kd.isList : Kd → Bool | .lst => true | _ => false
def Kd.isTup : Kd → Bool | .tup => true | _ => false
theorem kit_int (k : Kd) : kitB k.ty "int" = some k.isInt := by cases k <;> decide +kernel
theorem kit_bool (k : Kd) : kitB k.ty "bool" = some k.isBool := by cases k <;> decide +kernel
theorem kit_str (k : Kd) : kitB k.ty "str" = some k.isStr := by cases k <;> decide +kernel
theorem kit_list (k : Kd) : kitB k.ty "list" = some k.isList := by cases k <;> decide +kernel
theorem kit_tuple (k : Kd) : kitB k.ty "tuple" = some k.isTup := by cases k <;> decide +kernel
theorem kit_seq {K : PySem.W.Frag} (k : Kd) : PySem.W.kitAny K (.type k.ty) [.type "list", .type "tuple"] = some (k.isList || k.isTup) := by
  refine kitAny_cons (b := k.isList) (kit_ty (kit_list k)) (fun h => ?_) (fun h => by rw [h]; rfl)
  rw [h, Bool.false_or]
  exact kitAny_cons (b := k.isTup) (kit_ty (kit_tuple k)) (fun h => by rw [h]; exact kitAny_nil) (fun h => h)
/-! ### data without things within things, and how repr writes it -/
inductive Dat (H : Hp) : V → PyData → Kd → Prop
  | non : Dat H .non .none .non
  | bl (b : Bool) : Dat H (.bl b) (.bool b) .bl
  | int (i : Int) : Dat H (.int i) (.int i) .int
  | str (z : Str) : Dat H (.str z) (.str z) .str
  | lst {a : Addr} {ns : List Int} (h : H a = some (.lst (ns.map V.int))) : Dat H (.ref a) (.list (ns.map PyData.int)) .lst
  | tup {a : Addr} {ns : List Int} (h : H a = some (.tup (ns.map V.int))) : Dat H (.ref a) (.tuple (ns.map PyData.int)) .tup
  | dic {a : Addr} (h : H a = some (.dK [])) : Dat H (.ref a) (.dict []) .dic
theorem Dat.thing {H : Hp} {x : V} {d : PyData} {k : Kd} (t : Dat H x d k) : Thing H x k := by
  cases t with
  | non => exact .non
  | bl b => exact .bl b
  | int i => exact .int i
  | str z => exact .str z
  | lst e => exact .lst e
  | tup e => exact .tup e
  | dic e => exact .dic e
theorem Dat.mono {H H' : Hp} {x : V} {d : PyData} {k : Kd} (t : Dat H x d k) (h : ∀ a o, x = .ref a → H a = some o → H' a = some o) : Dat H' x d k := by
  cases t with
  | non => exact .non
  | bl b => exact .bl b
  | int i => exact .int i
  | str z => exact .str z
  | lst e => exact .lst (h _ _ rfl e)
  | tup e => exact .tup (h _ _ rfl e)
  | dic e => exact .dic (h _ _ rfl e)
theorem Dat.same {H H' : Hp} {x : V} {d : PyData} {k : Kd} (t : Dat H x d k) (s : Same H H') : Dat H' x d k := t.mono fun a o _ e => s a o e
theorem dpInts {K : PySem.W.Frag} {H : Hp} : ∀ ns : List Int, DpAll K H (ns.map V.int) (ns.map PyData.int)
  | [] => .nil
  | n :: r => .cons (.int n) (dpInts r)
def rReprX (K : PySem.W.Frag) : List V → Hp → VK → Prop := fun xs H Q => ∃ (x : V) (d : PyData) (k : Kd), xs = [x] ∧ Dat H x d k ∧ d.showable = true ∧ d.shown.length ≤ sizeLine ∧ Q (.str d.shown) H
theorem depth_ints : ∀ ns : List Int, PyData.depthAll (ns.map PyData.int) ≤ 1
  | [] => by simp [PyData.depthAll]
  | n :: r => by
    have z := depth_ints r
    simp only [List.map_cons, PyData.depthAll, PyData.depth]
    omega
theorem call_reprX {X : Cx} (hgd : X.A.guards = some []) (hu : X.A.units + 64 < cLine) : CallR X (.builtin "repr") (rReprX X.K) := by
  intro pins s σ H xs us Q I r h
  obtain ⟨x, d, k, rfl, hd, hs, hz, q⟩ := h
  by_cases hdic : ∃ a, x = .ref a ∧ H a = some (.dK []) ∧ d = .dict []
  · obtain ⟨a, rfl, ha, rfl⟩ := hdic
    obtain ⟨u, rfl, r1⟩ := vals1 r
    have e1 : u = Value.ref a := r1
    subst e1
    obtain ⟨_, hsys, vs, hkv, o, es, ep, h1, h2, h3, _, h4, _⟩ := (show ObjOk X.prog X.w H s.heap a (.dK []) from I.hok a _ ha)
    cases hkv
    have hes : es = #[] := by
      obtain ⟨l⟩ := es
      cases l with
      | nil => rfl
      | cons e r => cases h4
    subst hes
    have rd : Reads s.heap (.ref a) (.dict []) (a :: [] ++ []) := .dict (kvs := []) (as := []) (bs := []) h1 h2.1 h3 .nil .nil
    refine repr_of_reads' rd hs (fun _ hm => ?_) hgd (by simp only [PyData.depth, PyData.depthKv]; omega) (fun _ _ e => e) (fun h' u tk hk => ⟨.str _, H, I.kept (t' := tk) hk, ⟨_, rfl⟩, q⟩) hz
    rcases List.mem_cons.mp hm with e | e
    · rw [← e] at hsys
      simp at hsys
    · cases e
  · refine call_reprD hgd hu pins s σ H [x] us Q I r ⟨x, d, rfl, ?_, hs, ?_, hz, q⟩
    · cases hd with
      | non => exact .non
      | bl b => exact .bl b
      | int i => exact .int i
      | str z => exact .str z
      | lst e => exact .lst (SqL.of e) (dpInts _)
      | tup e => exact .tup (SqT.of e) (dpInts _)
      | dic e => exact absurd ⟨_, rfl, e, rfl⟩ hdic
    · cases hd with
      | non => decide
      | bl b => simp only [PyData.depth]; omega
      | int i => simp only [PyData.depth]; omega
      | str z => simp only [PyData.depth]; omega
      | lst e =>
        have := depth_ints ‹List Int›
        simp only [PyData.depth]
        omega
      | tup e =>
        have := depth_ints ‹List Int›
        simp only [PyData.depth]
        omega
      | dic e => exact absurd ⟨_, rfl, e, rfl⟩ hdic
theorem look1 {f : Str} {v : V} : ([(f, v)] : List (Str × V)).lookup f = some v := by simp [List.lookup]
end My

/-! ### from what the top has written to the facts of an error's class -/
namespace My
open PySem PySem.Spec PyProof.Rows L2
/-- the class stands at C, its __init__ is st -/
structure ErrAt (K : PySem.W.Frag) (x f q : Str) (st : Stmt) (C L : Addr) : Prop where
  at_ : PySem.W.nsIn K mainGlobals x = some (some (.ref C))
  oex : OexC K C
  noF : PySem.W.findIn K (.ref C) f = some none
  xf : XfC K C
  hcl : (PySem.W.clsIn K C).isSome = true
  ha : PySem.W.findIn K (.ref C) "__class__" = some (some (.builtin "object.__class__"))
  hm : PySem.W.mroIn K C (.type "object") = some true
  te : PySem.W.exmOne K (.ref C) (.ref C) = some true
  hn : PySem.W.specialIn K (.builtin "object.__class__") "__get__" = some (some (.builtin "getset_descriptor.__get__"))
  ht : PySem.W.takesIn K (.builtin "object.__class__") = some true
  ini : ∃ (fI : Addr) (fd : FuncData), PySem.W.findIn K (.ref C) "__init__" = some (some (.ref fI)) ∧ PySem.W.typeIn K (.ref fI) = some (.type "function") ∧ Fun K "__init__" q st fI fd
  lo : PySem.W.kitOne K (.ref C) (.ref L) = some true
theorem errAt_mk {K : PySem.W.Frag} {x f q : Str} {st : Stmt} {C L fI : Addr} {nm qn : Str} {N : Addr} {bs : List Value} {sn : List Str} {sub : List Value} {ab : Bool} {col : Option Bool} {dd : Option Addr} {m0 m1 m2 m3 m5 : Option Value}
    {oc : Value} {od an : Option Addr} {osl : Array (Option Value)} {kV doc pm cdv ct : Value}
    (a : PySem.W.nsIn K mainGlobals x = some (some (.ref C)))
    (xL : K.lookup C = some (excClassObj nm qn C N bs [.ref L, .type "ValueError", .type "Exception", .type "BaseException", .type "object"] true sn sub ab col dd m0 m1 m2 m3 m5 "ValueError.__new__"))
    (i : PySem.W.findIn K (.ref C) "__init__" = some (some (.ref fI)))
    (l : K.lookup fI = some ⟨oc, od, .func (PySem.W.fnOf "__init__" q (defArgs st) (defBody st) (defScope st) .none kV doc pm an cdv ct), osl⟩)
    (c : PySem.W.codeIn K cdv q = true) (k : PySem.W.keepIn K (.ref fI) = true) (tI : PySem.W.typeIn K (.ref fI) = some (.type "function"))
    (sa : PySem.W.findIn K (.ref C) "__setattr__" = some (some (.builtin "object.__setattr__"))) (ga : PySem.W.findIn K (.ref C) "__getattribute__" = some (some (.builtin "BaseException.__getattribute__")))
    (gg : PySem.W.findIn K (.ref C) "__getattr__" = some none) (noF : PySem.W.findIn K (.ref C) f = some none)
    (kC : PySem.W.keepIn K (.ref C) = true) (eC : PySem.W.subIn K (.ref C) (.type "BaseException") = some true) (tC : PySem.W.typeIn K (.ref C) = some (.type "type")) (hC : PySem.W.hasDictIn K C = true) (iC : PySem.W.isClsIn K C = true) (sC : PySem.W.subIn K (.ref C) (.ref C) = some true)
    (ha : PySem.W.findIn K (.ref C) "__class__" = some (some (.builtin "object.__class__"))) (hm : PySem.W.mroIn K C (.type "object") = some true)
    (hn : PySem.W.specialIn K (.builtin "object.__class__") "__get__" = some (some (.builtin "getset_descriptor.__get__"))) (ht : PySem.W.takesIn K (.builtin "object.__class__") = some true)
    (lo : PySem.W.kitOne K (.ref C) (.ref L) = some true) : ErrAt K x f q st C L where
  at_ := a
  oex := ⟨⟨nm, qn, N, bs, _, sn, sub, ab, col, dd, m0, m1, m2, m3, m5, xL, by rfl⟩, sa, eC, tC, kC⟩
  noF := noF
  xf := ⟨ga, gg, eC, hC⟩
  hcl := iC
  ha := ha
  hm := hm
  te := PySem.W.exm_ref eC hC tC sC
  hn := hn
  ht := ht
  ini := ⟨fI, _, i, tI, fun_mk l c k⟩
  lo := lo
theorem ErrAt.mk' {P : Program} {w : World} {K : PySem.W.Frag} {mg : Str → Option Value} {base h : Heap} {x f q : Str} {st : Stmt} {C L : Addr} (T : ErrAt K x f q st C L) (X : K.In h) (G : h.Ns mainGlobals mg)
    (hb : ∀ (kV doc pm : Value) (an : Option Addr) (cdv ct : Value) (us : List Value), us.length = (["self", f] : List Str).length → bindArgs (PySem.W.fnOf "__init__" q (defArgs st) (defBody st) (defScope st) .none kV doc pm an cdv ct) ⟨us, []⟩ = pure ((["self", f] : List Str).zip us))
    (hF : ∀ fI fd, Fun K "__init__" q st fI fd → FnOk P w K mg base CX0 1 fI fd ["self", f] (spInit1 C f)) : ErrC P w K mg base x f C := by
  obtain ⟨fI, fd, i, tI, F⟩ := T.ini
  exact { gC := PySem.W.mg_of X G T.at_, oex := T.oex, noF := T.noF, xf := T.xf, hcl := T.hcl, ha := T.ha, hm := T.hm, te := T.te, hn := T.hn, ht := T.ht, ini := ⟨fI, fd, i, tI, F.binds hb, hF fI fd F⟩ }
theorem baseC_mk {K : PySem.W.Frag} {h : Heap} {mg : Str → Option Value} {L : Addr} (X : K.In h) (G : h.Ns mainGlobals mg) (a : PySem.W.nsIn K mainGlobals "LoreError" = some (some (.ref L))) (rd : PySem.W.readsIn K L (.type "type") = true)
    (ga : PySem.W.specialIn K (.ref L) "__getattribute__" = some (some (.builtin "type.__getattribute__"))) (vI : PySem.W.findCls K (.ref L) (.type "type") "__init__" = some (.val (.builtin "ValueError.__init__"))) : BaseC K mg L := ⟨PySem.W.mg_of X G a, rd, ga, vI⟩
end My

/-! ### the law's call, where its promise is of that kind -/
namespace My
open PySem PySem.Spec PyProof.Rows L2
theorem law_callG {P : Program} {w : World} {K : PySem.W.Frag} {mg mb : Str → Option Value} {CX : CXT} {k : Nat} {fa a : Addr} {fd : FuncData} {x : Str} {sp : Sp} {s₁ : Shared} {vs : List Value} {ns : List Int} (KX : K.In s₁.heap) (hns : s₁.heap.Ns mainGlobals mg)
    (hb : s₁.heap.Ns builtinsNs mb) (hbb : ∀ x : Str, x ≠ "__name__" → mb x = bootBuiltins x) (hlim : s₁.heap.NoLimit) (hg : s₁.gens = #[]) (ha : s₁.heap.get? a = some { cls := .type "list", data := .seq vs.toArray })
    (hi : IntsAre vs ns) (hl : ns.length ≤ sizeLine) (hr : Room k callerA) (F : ∀ base : Heap, K.In base → base.Ns mainGlobals mg → FnG P w K mg base CX k fa fd [x] sp) (hbind : ∀ (s : Shared) (u : Value), BindsTo s fd ⟨[u], []⟩ [(x, u)])
    (hsp : ∀ H : Hp, Only H → SqL K H a (ns.map V.int) → sp [.ref a] H (fun v _ => v = .bl true) fun _ _ _ => False) (hCX : ∀ H e s', CX [] H s₁ (fun _ _ _ => False) e s' → False) :
    codeAny (model P w) callerA (.call (.ref fa) ⟨[.ref a], []⟩)
      (fun r s' => r = .ok (.ret (.bool true)) ∧ OldK s₁.heap s'.heap ∧ s'.os = s₁.os ∧ AllBare s'.gens) s₁ := by
  have rv := vals_ints hi
  have lenV := hi.length
  have core : ∀ H : Hp, Only H → SqL K H a (ns.map V.int) → HOk P w H s₁.heap → (∀ b, H b ≠ none → b = a) → (H a ≠ none → K.lookup a = none) →
      codeAny (model P w) callerA (.call (.ref fa) ⟨[.ref a], []⟩)
        (fun r s' => r = .ok (.ret (.bool true)) ∧ OldK s₁.heap s'.heap ∧ s'.os = s₁.os ∧ AllBare s'.gens) s₁ := by
    intro H hO hS hok hA hK
    have isA : ∀ {b : Addr} {u : HO}, H b = some u → b = a := by
      intro b u q
      apply hA b
      rw [q]
      exact fun z => nomatch z
    have dictFree : ∀ {b : Addr} {o : Obj} {es : Array DictEntry} {ep : Nat}, s₁.heap.get? b = some o → o.data = .dict es ep → H b = none := by
      intro b o es ep e d
      cases q : H b with
      | none => rfl
      | some u =>
        have e' := isA q
        subst e'
        rw [ha] at e
        cases e
        have d' : Data.seq vs.toArray _ = Data.dict es ep := d
        cases d'
    have ns2 : ∀ {b : Addr} {m : Str → Option Value}, s₁.heap.Ns b m → (hidT s₁.heap H).Ns b m := by
      intro b m h
      obtain ⟨o, es, ep, e, d, r⟩ := h
      exact ⟨o, es, ep, hidT_get e (dictFree e d), d, r⟩
    have kin2 : K.In (hidT s₁.heap H) := by
      intro b o e
      apply hidT_get (KX b o e)
      cases q : H b with
      | none => rfl
      | some u =>
        have e' := isA q
        subst e'
        have z := hK (by rw [q]; exact fun z => nomatch z)
        rw [z] at e
        cases e
    have nol2 : (hidT s₁.heap H).NoLimit := by
      obtain ⟨mc, h1, h2⟩ := hlim
      exact ⟨mc, ns2 h1, h2⟩
    have e0 : Env0 P w K mg (hidT s₁.heap H) callerA [] s₁ H :=
      { frames := rfl, mod := ⟨kin2, ns2 hns, ⟨mb, ns2 hb, hbb⟩, nol2⟩, bs := fun b o e => of_hidT e, bsz := Nat.le_of_eq (hidT_size _ _), funs := trivial, frf := fun b hb => (by cases (show b ∈ ([] : List Addr) from hb)), hok := hok, bare := .of_eq hg }
    have run := (F _ kin2 (ns2 hns)).run callerA [] s₁ H ⟨[.ref a], []⟩ [.ref a] [.ref a] _ _ rfl hr e0 (hbind s₁ (.ref a)) (.cons rfl .nil) (hsp H hO hS)
    refine codeAny_mono run ?_
    intro r s' h
    rcases r with e | fl
    · exact (hCX H e s' h).elim
    · cases fl with
      | next => cases h
      | brk => cases h
      | cont => cases h
      | ret u =>
        obtain ⟨v, H', os, bare, un, hok', r', q⟩ := h
        have q' : v = .bl true := q
        subst q'
        have ru : u = Value.bool true := r'
        subst ru
        refine ⟨rfl, OldK.of_keep ?_, os, bare⟩
        intro b o e
        cases q : H b with
        | none => exact un.keep b o e q (fun z => by cases (show b ∈ ([] : List Addr) from z)) (by simp)
        | some u =>
          rcases hO b with z | ⟨ob, xs, z⟩
          · rw [q] at z
            cases z
          · obtain ⟨e1, _⟩ := hok b _ z
            obtain ⟨e2, _⟩ := hok' b _ (un.frzs b ob _ z)
            rw [e] at e1
            cases e1
            exact e2
  cases hk : K.lookup a with
  | some o =>
    have e := KX a o hk
    rw [ha] at e
    cases e
    have hsq : SqL K (fun _ => none) a (ns.map V.int) := .inr ⟨_, vs.toArray, _, hk, rfl, rfl, rfl, by rw [List.size_toArray, lenV]; exact hl, by simpa using rv⟩
    exact core (fun _ => none) (fun _ => .inl rfl) hsq (fun b u z => nomatch z) (fun b z => absurd rfl z) fun z => absurd rfl z
  | none =>
    let H0 : Hp := upd (fun _ => none) a (.frz { cls := .type "list", data := .seq vs.toArray } (.lst (ns.map V.int)))
    have at0 : H0 a = some (.frz { cls := .type "list", data := .seq vs.toArray } (.lst (ns.map V.int))) := upd_same
    have off0 : ∀ b, b ≠ a → H0 b = none := fun b hb => upd_ne hb
    refine core H0 ?_ (.inl (.inr ⟨_, at0⟩)) ?_ ?_ (fun _ => hk)
    · intro b
      by_cases hb : b = a
      · subst hb
        exact .inr ⟨_, _, at0⟩
      · exact .inl (off0 b hb)
    · intro b u z
      by_cases hb : b = a
      · subst hb
        rw [at0] at z
        cases z
        exact ⟨ha, by rw [List.length_map]; exact hl, vs, _, rv, ha⟩
      · rw [off0 b hb] at z
        cases z
    · intro b z
      by_cases hb : b = a
      · exact hb
      · exact absurd (off0 b hb) z
theorem walk_ofG {l : PySem.W.OpenLaw} {n k : Nat} {q : Program} {loose : List Str} {XP : (Str → Option Value) → Heap → Prop} {YP : World → Heap → Prop} {d : DefRec} {K : Params → PySem.W.Frag} {CX : World → CXT} {sp : World → Sp} {x : Str}
    (hn : l.most = some n) (hn2 : n ≤ sizeLine) (hdf : d.params.defaults = []) (hr : Room k callerA) (hY : ∀ (w : World) (h : Heap), YP w h → (K w.params).In h)
    (F : ∀ (w : World) (mg : Str → Option Value) (fa : Addr) (h : Heap), (K w.params).In h → h.Ns mainGlobals mg → mg d.name = some (.ref fa) →
      ∃ fd : FuncData, (∀ (s : Shared) (u : Value), BindsTo s fd ⟨[u], []⟩ [(x, u)]) ∧ ∀ base : Heap, (K w.params).In base → base.Ns mainGlobals mg → FnG l.prog w (K w.params) mg base (CX w) k fa fd [x] (sp w))
    (hsp : ∀ (w : World) (H : Hp) (a : Addr) (ns : List Int), ns.length ≤ n → (∀ z ∈ ns, Builtin.Int.intBits z ≤ 1048576) → Only H → SqL (K w.params) H a (ns.map V.int) → sp w [.ref a] H (fun v _ => v = .bl true) fun _ _ _ => False)
    (hCX : ∀ (w : World) (H : Hp) (s : Shared) (e : Value) (s' : Shared), CX w [] H s (fun _ _ _ => False) e s' → False) : PySem.W.WalkO q loose XP YP l.row.toRowW d [] (fun f vs => PySem.call f vs) := by
  apply Att.attach_callB hn hdf
  intro w s₀ s₁ mg mb fa o pm cd doc a vs ns G Y ho hd hcd hmg hobj hints hlen hbits hg
  have KX := hY w _ Y
  obtain ⟨fd, hb, hF⟩ := F w mg fa _ KX G.T.g hmg
  exact law_callG KX G.T.g G.T.b G.T.builtins G.T.nolimit hg hobj hints (Nat.le_trans hlen hn2) hr hF hb (fun H hO hS => hsp w H a ns hlen hbits hO hS) fun H e s' => hCX w H s₁ e s'
end My

namespace My
open PySem PySem.Spec PyProof.Rows L2
def topS (i : Nat) : Stmt := PySem.Challenge.pw_leastlore_k01_checks_told.main.body.getD i (.Pass ⟨0, 0, 0, 0⟩)
abbrev sis_whole : Stmt := topS 5
theorem scis_whole : FnScope ["thing"] ["thing"] (defScope sis_whole) := ⟨rfl, rfl, rfl, by decide +kernel, rfl, by decide +kernel, by decide +kernel⟩

abbrev sis_within : Stmt := topS 6
theorem scis_within : FnScope ["thing", "low", "high"] ["thing", "low", "high"] (defScope sis_within) := ⟨rfl, rfl, rfl, by decide +kernel, rfl, by decide +kernel, by decide +kernel⟩

abbrev scheck_of : Stmt := topS 13
theorem sccheck_of : FnScope ["numbers", "check", "number"] ["numbers"] (defScope scheck_of) := ⟨rfl, rfl, rfl, by decide +kernel, rfl, by decide +kernel, by decide +kernel⟩

abbrev s_law_cell_at : Stmt := topS 15
theorem sc_law_cell_at : FnScope ["_law_script", "_law_k"] ["_law_script", "_law_k"] (defScope s_law_cell_at) := ⟨rfl, rfl, rfl, by decide +kernel, rfl, by decide +kernel, by decide +kernel⟩

abbrev s_law_box : Stmt := topS 16
theorem sc_law_box : FnScope ["_law_cell"] ["_law_cell"] (defScope s_law_box) := ⟨rfl, rfl, rfl, by decide +kernel, rfl, by decide +kernel, by decide +kernel⟩

abbrev s_law_take : Stmt := topS 17
theorem sc_law_take : FnScope ["_law_box_here", "_law_many", "_law_number", "_law_digit"] ["_law_box_here", "_law_many"] (defScope s_law_take) := ⟨rfl, rfl, rfl, by decide +kernel, rfl, by decide +kernel, by decide +kernel⟩

abbrev s_law_crossed : Stmt := topS 18
theorem sc_law_crossed : FnScope ["_law_one", "_law_other"] ["_law_one", "_law_other"] (defScope s_law_crossed) := ⟨rfl, rfl, rfl, by decide +kernel, rfl, by decide +kernel, by decide +kernel⟩

abbrev s_law_check : Stmt := topS 19
theorem sc_law_check : FnScope ["_law_numbers", "_law_check_here", "_law_number"] ["_law_numbers"] (defScope s_law_check) := ⟨rfl, rfl, rfl, by decide +kernel, rfl, by decide +kernel, by decide +kernel⟩

abbrev s_law_word : Stmt := topS 20
theorem sc_law_word : FnScope ["_law_box_here", "_law_some"] ["_law_box_here"] (defScope s_law_word) := ⟨rfl, rfl, rfl, by decide +kernel, rfl, by decide +kernel, by decide +kernel⟩

abbrev s_law_refused : Stmt := topS 22
theorem sc_law_refused : FnScope ["_law_thing", "_law_found", "e"] ["_law_thing"] (defScope s_law_refused) := ⟨rfl, rfl, rfl, by decide +kernel, rfl, by decide +kernel, by decide +kernel⟩

abbrev s_law_no_word : Stmt := topS 23
theorem sc_law_no_word : FnScope ["_law_box_here", "_law_some"] ["_law_box_here"] (defScope s_law_no_word) := ⟨rfl, rfl, rfl, by decide +kernel, rfl, by decide +kernel, by decide +kernel⟩

abbrev slaw : Stmt := topS 24
theorem sclaw : FnScope ["_law_script", "_law_k", "_law_box_here", "_law_long", "_law_thing", "_law_numbers", "_law_kept", "_law_due", "_law_found", "_law_bad", "_law_at", "_law_behind", "_law_handed", "_law_j"] ["_law_script"] (defScope slaw) := ⟨rfl, rfl, rfl, by decide +kernel, rfl, by decide +kernel, by decide +kernel⟩

/-- NoNumber's __init__ -/
abbrev sIni : Stmt := inClass (topS 2) 0
theorem scIni : FnScope ["self", "found"] ["self", "found"] (defScope sIni) := ⟨rfl, rfl, rfl, by decide +kernel, rfl, by decide +kernel, by decide +kernel⟩
/-! ### the mathematics -/
def stp (c n : Int) : Int := Builtin.bitXor (Builtin.bitAnd (Builtin.bitXor c n * 2654435769 + 40503) 4294967295) (Builtin.bitAnd (Builtin.bitXor c n * 2654435769 + 40503) 4294967295 / 2 ^ (15 : Int).toNat)
def chk (ns : List Int) : Int := ns.foldl stp 2166136261
def W (n : Int) : Prop := 0 ≤ n ∧ n < 4294967296
def stpN (c n : Nat) : Nat := ((c ^^^ n) * 2654435769 + 40503) % 4294967296 ^^^ (((c ^^^ n) * 2654435769 + 40503) % 4294967296) >>> 15
theorem back_mul {N T U q z : Nat} (hT : T * U = N * q + 1) (hz : z < N) : (z * T % N) * U % N = z := by
  rw [Nat.mod_mul_mod, Nat.mul_assoc, hT, Nat.mul_add, Nat.mul_one, Nat.mul_left_comm, Nat.add_comm, Nat.add_mul_mod_self_left]
  exact Nat.mod_eq_of_lt hz
theorem off {x y : Nat} (h : (x + 40503) % 4294967296 = (y + 40503) % 4294967296) : x % 4294967296 = y % 4294967296 := by omega
theorem mul_inj {a b : Nat} (ha : a < 4294967296) (hb : b < 4294967296) (h : (a * 2654435769 + 40503) % 4294967296 = (b * 2654435769 + 40503) % 4294967296) : a = b := by
  have e1 : a * 2654435769 % 4294967296 = b * 2654435769 % 4294967296 := by
    exact off h
  have hT : 2654435769 * 340573321 = 4294967296 * 210485888 + 1 := by decide +kernel
  have ea := back_mul hT ha
  have eb := back_mul hT hb
  rw [e1] at ea
  exact ea.symm.trans eb
theorem unshift {x : Nat} (h : x < 4294967296) : (x ^^^ x >>> 15) ^^^ ((x ^^^ x >>> 15) >>> 15 ^^^ (x ^^^ x >>> 15) >>> 30) = x := by
  apply Nat.eq_of_testBit_eq
  intro i
  have z : x.testBit (15 + (15 + (15 + i))) = false := by
    apply Nat.testBit_lt_two_pow
    exact Nat.lt_of_lt_of_le h (Nat.le_trans (by decide : 4294967296 ≤ 2 ^ 45) (Nat.pow_le_pow_right (by decide) (by omega)))
  have z2 : x.testBit (15 + (30 + i)) = false := by
    rw [show 15 + (30 + i) = 15 + (15 + (15 + i)) by omega]; exact z
  have z3 : x.testBit (30 + i) = x.testBit (15 + (15 + i)) := by
    rw [show 15 + (15 + i) = 30 + i by omega]
  simp only [Nat.testBit_xor, Nat.testBit_shiftRight, z2, z3]
  cases x.testBit i <;> cases x.testBit (15 + i) <;> cases x.testBit (15 + (15 + i)) <;> rfl
theorem xor_inj {a b c : Nat} (h : a ^^^ b = a ^^^ c) : b = c := by
  have e := congrArg (a ^^^ ·) h
  simpa [← Nat.xor_assoc] using e
theorem xor_lt {a b : Nat} (ha : a < 4294967296) (hb : b < 4294967296) : a ^^^ b < 4294967296 := Nat.xor_lt_two_pow (n := 32) ha hb
theorem stpN_inj {x y : Nat} (hx : x < 4294967296) (hy : y < 4294967296)
    (h : (x * 2654435769 + 40503) % 4294967296 ^^^ ((x * 2654435769 + 40503) % 4294967296) >>> 15 = (y * 2654435769 + 40503) % 4294967296 ^^^ ((y * 2654435769 + 40503) % 4294967296) >>> 15) : x = y := by
  have e1 := unshift (x := (x * 2654435769 + 40503) % 4294967296) (Nat.mod_lt _ (by decide))
  have e2 := unshift (x := (y * 2654435769 + 40503) % 4294967296) (Nat.mod_lt _ (by decide))
  rw [h, e2] at e1
  exact mul_inj hx hy e1.symm
theorem stpN_lt (c n : Nat) : stpN c n < 4294967296 := by
  unfold stpN
  refine xor_lt (Nat.mod_lt _ (by decide)) ?_
  exact Nat.lt_of_le_of_lt (by rw [Nat.shiftRight_eq_div_pow]; exact Nat.div_le_self _ _) (Nat.mod_lt _ (by decide))
theorem and_mask (x : Nat) : Builtin.bitAnd ((x : Int) * 2654435769 + 40503) 4294967295 = (((x * 2654435769 + 40503) % 4294967296 : Nat) : Int) := by
  have q := bitAnd_pp (x := (x : Int) * 2654435769 + 40503) (y := 4294967295) (by omega) (by decide)
  have e : ((x : Int) * 2654435769 + 40503).toNat = x * 2654435769 + 40503 := by omega
  have m := Nat.and_two_pow_sub_one_eq_mod (x * 2654435769 + 40503) 32
  rw [show (2 : Nat) ^ 32 - 1 = 4294967295 from rfl, show (2 : Nat) ^ 32 = 4294967296 from rfl] at m
  rw [q, e, show (4294967295 : Int).toNat = 4294967295 from rfl, m]
theorem shr15 (d : Nat) : (d : Int) / (2 : Int) ^ (15 : Int).toNat = ((d >>> 15 : Nat) : Int) := by
  rw [Nat.shiftRight_eq_div_pow, show (15 : Int).toNat = 15 from rfl]
  omega
theorem stp_nat {c n : Nat} : stp (c : Int) (n : Int) = ((stpN c n : Nat) : Int) := by
  have e0 : Builtin.bitXor (c : Int) (n : Int) = ((c ^^^ n : Nat) : Int) := Bits.bitXor_pp (Int.natCast_nonneg _) (Int.natCast_nonneg _)
  unfold stp
  rw [e0, and_mask, shr15, Bits.bitXor_pp (Int.natCast_nonneg _) (Int.natCast_nonneg _), Int.toNat_natCast, Int.toNat_natCast]
  rfl
theorem nat_of {n : Int} (h : W n) : ∃ m : Nat, n = (m : Int) ∧ m < 4294967296 := ⟨n.toNat, by have := h.1; omega, by have := h.1; have := h.2; omega⟩
theorem W.stp {c n : Int} (hc : W c) (hn : W n) : W (stp c n) := by
  obtain ⟨a, rfl, _⟩ := nat_of hc
  obtain ⟨b, rfl, _⟩ := nat_of hn
  rw [stp_nat]
  have := stpN_lt a b
  exact ⟨Int.natCast_nonneg _, by omega⟩
theorem stp_right {c n m : Int} (hc : W c) (hn : W n) (hm : W m) (h : My.stp c n = My.stp c m) : n = m := by
  obtain ⟨a, rfl, la⟩ := nat_of hc
  obtain ⟨b, rfl, lb⟩ := nat_of hn
  obtain ⟨d, rfl, ld⟩ := nat_of hm
  rw [stp_nat, stp_nat] at h
  have h2 : stpN a b = stpN a d := by omega
  have h3 : b = d := xor_inj (stpN_inj (xor_lt la lb) (xor_lt la ld) h2)
  rw [h3]
theorem stp_left {c d n : Int} (hc : W c) (hd : W d) (hn : W n) (h : My.stp c n = My.stp d n) : c = d := by
  obtain ⟨a, rfl, la⟩ := nat_of hc
  obtain ⟨b, rfl, lb⟩ := nat_of hd
  obtain ⟨e, rfl, le⟩ := nat_of hn
  rw [stp_nat, stp_nat] at h
  have h2 : stpN a e = stpN b e := by omega
  have h3 := stpN_inj (xor_lt la le) (xor_lt lb le) h2
  rw [Nat.xor_comm a e, Nat.xor_comm b e] at h3
  rw [xor_inj h3]
def Ws (ns : List Int) : Prop := ∀ n ∈ ns, W n
theorem W_fold : ∀ (ns : List Int) (c : Int), W c → Ws ns → W (ns.foldl My.stp c)
  | [], _, h, _ => h
  | n :: r, c, h, hs => W_fold r _ (h.stp (hs n List.mem_cons_self)) fun m hm => hs m (List.mem_cons_of_mem _ hm)
theorem fold_left : ∀ (ns : List Int) (c d : Int), W c → W d → Ws ns → ns.foldl My.stp c = ns.foldl My.stp d → c = d
  | [], _, _, _, _, _, h => h
  | n :: r, c, d, hc, hd, hs, h =>
    stp_left hc hd (hs n List.mem_cons_self) (fold_left r _ _ (hc.stp (hs n List.mem_cons_self)) (hd.stp (hs n List.mem_cons_self)) (fun m hm => hs m (List.mem_cons_of_mem _ hm)) h)
theorem W0 : W 2166136261 := ⟨by decide, by decide⟩
/-- just one number changed -/
theorem chk_one {xs ys : List Int} {n m : Int} (hx : Ws xs) (hy : Ws ys) (hn : W n) (hm : W m) : chk (xs ++ [m] ++ ys) = chk (xs ++ [n] ++ ys) ↔ m = n := by
  unfold chk
  simp only [List.foldl_append, List.foldl_cons, List.foldl_nil]
  refine ⟨fun h => ?_, fun h => by rw [h]⟩
  have h1 := W_fold xs _ W0 hx
  exact stp_right h1 hm hn (fold_left ys _ _ (h1.stp hm) (h1.stp hn) hy h)

structure Tx (mg : Str → Option Value) : Prop where
  b_bool : mg "bool" = none
  b_int : mg "int" = none
  b_isinstance : mg "isinstance" = none
  b_len : mg "len" = none
  b_list : mg "list" = none
  b_max : mg "max" = none
  b_min : mg "min" = none
  b_range : mg "range" = none
  b_repr : mg "repr" = none
  b_tuple : mg "tuple" = none
  c_BEGIN : ∃ t, mg "BEGIN" = some (.int 2166136261 t)
  c_TIMES : ∃ t, mg "TIMES" = some (.int 2654435769 t)
  c_MORE : ∃ t, mg "MORE" = some (.int 40503 t)
  c_MOST : ∃ t, mg "MOST" = some (.int 4294967295 t)
  c_FAR : ∃ t, mg "FAR" = some (.int 15 t)

section
variable {P : Program} {w : World} {K : PySem.W.Frag} {mg : Str → Option Value} {base : Heap}
theorem ok_ini {f C L : Addr} {fd : FuncData} (B : BaseC K mg L) (O : OexC K C) (noF : PySem.W.findIn K (.ref C) "found" = some none) (F : Fun K "__init__" "NoNumber.__init__" sIni f fd) : FnOk P w K mg base CX0 1 f fd ["self", "found"] (spInit1 C "found") := by
  refine F.ok scIni (fun vs H Q E h => ?_) (fun cdv A outer s H vs Q E hr h => ?_)
  · obtain ⟨a, v, rfl, _⟩ := h
    rfl
  · obtain ⟨a, v, rfl, ha, q⟩ := h
    refine ⟨_, pss_cons (ps_expr (pe_loreinit B (by rfl) (pa_cons (pv 0) (pa_cons pe_str pa_nil)))) (pss_one (ps_ost (pv 0) (pv 1))), ?_⟩
    refine ⟨_, rfl, a, C, [_], rfl, (by show 1 ≤ 1000; decide), O, ha, ?_⟩
    exact ⟨_, rfl, _, rfl, a, C, rfl, O, noF, .inl ⟨ha, fun dx h1 h2 => q dx h1 h2⟩⟩
/-! ### is_whole, is_within, check_of -/
def isI : V → Bool | .int _ => true | _ => false
def wi (x : V) (lo hi : Int) : Bool := match x with | .int i => decide (lo ≤ i ∧ i ≤ hi) | _ => false
def spWhole : Sp := fun vs H Q _ => ∃ (x : V) (k : Kd), vs = [x] ∧ Thing H x k ∧ Q (.bl (isI x)) H
theorem ok_whole {f : Addr} {fd : FuncData} (T : Tx mg) (F : Fun K "is_whole" "is_whole" sis_whole f fd) : FnOk P w K mg base CX0 1 f fd ["thing"] spWhole := by
  refine F.ok scis_whole (fun vs H Q E h => ?_) (fun cdv A outer s H vs Q E hr h => ?_)
  · obtain ⟨x, k, rfl, _⟩ := h
    rfl
  · obtain ⟨x, k, rfl, t, q⟩ := h
    refine ⟨_, (pss_one (ps_ret (pe_and (pe_callB call_isi (by rfl) T.b_isinstance PyProof.Rows.boot_isinstance (pa_cons (pv 0) (pa_cons (pe_bltn (v := .ty "int") (by rfl) T.b_int PyProof.Rows.boot_int rfl) pa_nil))) (pe_one (pe_not (pe_callB call_isi (by rfl) T.b_isinstance PyProof.Rows.boot_isinstance (pa_cons (pv 0) (pa_cons (pe_bltn (v := .ty "bool") (by rfl) T.b_bool PyProof.Rows.boot_bool rfl) pa_nil)))))))), ?_⟩
    refine ⟨_, rfl, _, _, _, _, k.isInt, rfl, .ty _, t.tyx, kit_ty (kit_int k), k.isInt, rfl, ?_⟩
    have e : isI x = (k.isInt && !k.isBool) := by cases t <;> rfl
    rw [e] at q
    refine ite2 (fun c => ?_) (fun c => ?_)
    · refine ⟨_, rfl, _, _, _, _, k.isBool, rfl, .ty _, t.tyx, kit_ty (kit_bool k), k.isBool, rfl, ?_⟩
      rw [c, Bool.true_and] at q
      exact q
    · have c' : k.isInt = false := by simpa using c
      rw [c', Bool.false_and] at q
      exact q
def spWithin : Sp := fun vs H Q _ => ∃ (x : V) (k : Kd) (lo hi : Int), vs = [x, .int lo, .int hi] ∧ Thing H x k ∧ Q (.bl (wi x lo hi)) H
theorem ok_within {f : Addr} {fd : FuncData} (T : Tx mg) (G_is_whole : Ok P w K mg base CX0 "is_whole" 1 ["thing"] spWhole) (F : Fun K "is_within" "is_within" sis_within f fd) : FnOk P w K mg base CX0 2 f fd ["thing", "low", "high"] spWithin := by
  refine F.ok scis_within (fun vs H Q E h => ?_) (fun cdv A outer s H vs Q E hr h => ?_)
  · obtain ⟨x, k, lo, hi, rfl, _⟩ := h
    rfl
  · obtain ⟨x, k, lo, hi, rfl, t, q⟩ := h
    refine ⟨_, (pss_one (ps_ret (pe_and (pe_callO G_is_whole (hr.mono (by decide)) (by rfl) pass0 (pa_cons (pv 0) pa_nil)) (pe_one (pe_chain op_le op_le (pv 1) (pv 0) (pv 2)))))), ?_⟩
    refine ⟨_, rfl, x, k, rfl, t, isI x, rfl, ?_⟩
    cases t with
    | int i =>
      refine ⟨_, rfl, _, rfl, lo, i, rfl, rfl, _, rfl, ite2 (fun e => ?_) (fun e => ?_)⟩
      · refine ⟨_, rfl, i, hi, rfl, rfl, ?_⟩
        have e2 : lo ≤ i := of_decide_eq_true e
        have e3 : decide (lo ≤ i ∧ i ≤ hi) = decide (i ≤ hi) := by
          rw [decide_eq_decide]
          exact ⟨fun z => z.2, fun z => ⟨e2, z⟩⟩
        have q2 : Q (.bl (decide (lo ≤ i ∧ i ≤ hi))) H := q
        rw [e3] at q2
        exact q2
      · have e2 : decide (lo ≤ i ∧ i ≤ hi) = false := decide_eq_false fun z => e (decide_eq_true z.1)
        have q2 : Q (.bl (decide (lo ≤ i ∧ i ≤ hi))) H := q
        rw [e2] at q2
        exact q2
    | non => exact q
    | bl b => exact q
    | str z => exact q
    | lst e => exact q
    | tup e => exact q
    | dic e => exact q
abbrev isW (x : V) : Bool := wi x 0 4294967295
theorem isW_int {n : Int} : isW (.int n) = true ↔ W n := by
  show decide ((0 : Int) ≤ n ∧ n ≤ 4294967295) = true ↔ _
  rw [decide_eq_true_eq]
  unfold W
  omega
theorem no_bad {ns ms : List Int} {b : V} {rest : List V} (h : ns.map V.int = ms.map V.int ++ b :: rest) (hw : Ws ns) (hb : isW b = false) : False := by
  have m : b ∈ ns.map V.int := by
    rw [h]
    exact List.mem_append_right _ List.mem_cons_self
  obtain ⟨n, hn, rfl⟩ := List.mem_map.mp m
  rw [isW_int.mpr (hw n hn)] at hb
  cases hb
def spCheck (C : Addr) : Sp := fun vs H Q E => ∃ (x : V) (k : Kd), vs = [x] ∧ Thing H x k ∧
  ((∃ (a : Addr) (xs : List V), x = .ref a ∧ (H a = some (.lst xs) ∨ H a = some (.tup xs)) ∧ (∀ y ∈ xs, ∃ k, Thing H y k) ∧
      (∀ ns, xs = ns.map V.int → Ws ns → ∀ H', Same H H' → Q (.int (chk ns)) H') ∧
      (∀ ns b rest, xs = ns.map V.int ++ b :: rest → Ws ns → isW b = false → ∀ H' d, Same H H' → H' d = some (.xd [("found", b)]) → E (.ref C) (some d) H')) ∨
    (k.isList = false ∧ k.isTup = false ∧ ∀ H' d, Same H H' → H' d = some (.xd [("found", x)]) → E (.ref C) (some d) H'))
/-- the turn and the end of check_of's loop, over a list and over a tuple -/
theorem ok_check {f C : Addr} {fd : FuncData} (T : Tx mg) (E_NoNumber : ErrC P w K mg base "NoNumber" "found" C) (G_is_within : Ok P w K mg base CX0 "is_within" 2 ["thing", "low", "high"] spWithin) (F : Fun K "check_of" "check_of" scheck_of f fd) :
    FnOk P w K mg base (L2.CX P w) 4 f fd ["numbers"] (spCheck C) := by
  obtain ⟨t1, c_BEGIN⟩ := T.c_BEGIN
  obtain ⟨t2, c_TIMES⟩ := T.c_TIMES
  obtain ⟨t3, c_MORE⟩ := T.c_MORE
  obtain ⟨t4, c_MOST⟩ := T.c_MOST
  obtain ⟨t5, c_FAR⟩ := T.c_FAR
  refine F.okX sccheck_of (fun vs H Q E h => ?_) (fun cdv A outer s H vs Q E hr h => ?_)
  · obtain ⟨x, k, rfl, _⟩ := h
    rfl
  · obtain ⟨x, k, rfl, t, h⟩ := h
    rcases h with ⟨a, xs, rfl, hl | hl, hy, q1, q2⟩ | ⟨k1, k2, q⟩
    · refine ⟨_, (pss_cons (ps_if (pt_not (pt_val (pe_callB call_isiT (by rfl) T.b_isinstance PyProof.Rows.boot_isinstance (pa_cons (pv 0) (pa_cons (pe_tup (pa_cons (pe_bltn (v := .ty "list") (by rfl) T.b_list PyProof.Rows.boot_list rfl) (pa_cons (pe_bltn (v := .ty "tuple") (by rfl) T.b_tuple PyProof.Rows.boot_tuple rfl) pa_nil))) pa_nil))))) (pss_one (ps_err rfl E_NoNumber hr (takes_of rfl rfl rfl rfl) (by rfl) (pa_cons (pv 0) pa_nil))) pss_nil)
      (pss_cons (ps_set (i := 1) sccheck_of.nd rfl (.inl rfl) (pe_glob (v := .int 2166136261) (by rfl) c_BEGIN ⟨_, rfl⟩))
      (pss_cons (ps_for (passes_of rfl) rfl (pi_list (pv 0)) (pg_name (i := 2) sccheck_of.nd rfl (.inl rfl)) (pss_cons (ps_if (pt_not (pt_val (pe_callO G_is_within (hr.mono (by decide)) (by rfl) pass0 (pa_cons (pv 2) (pa_cons pe_int (pa_cons (pe_glob (v := .int 4294967295) (by rfl) c_MOST ⟨_, rfl⟩) pa_nil)))))) (pss_one (ps_err rfl E_NoNumber hr (takes_of rfl rfl rfl rfl) (by rfl) (pa_cons (pv 2) pa_nil))) pss_nil)
      (pss_cons (ps_set (i := 1) sccheck_of.nd rfl (.inl rfl) (pe_op op_and (pe_op op_add (pe_op op_mul (pe_op op_xor (pv 1) (pv 2)) (pe_glob (v := .int 2654435769) (by rfl) c_TIMES ⟨_, rfl⟩)) (pe_glob (v := .int 40503) (by rfl) c_MORE ⟨_, rfl⟩)) (pe_glob (v := .int 4294967295) (by rfl) c_MOST ⟨_, rfl⟩)))
      (pss_one (ps_set (i := 1) sccheck_of.nd rfl (.inl rfl) (pe_op op_xor (pv 1) (pe_op op_shr (pv 1) (pe_glob (v := .int 15) (by rfl) c_FAR ⟨_, rfl⟩))))))))
      (pss_one (ps_ret (pv 1)))))), ?_⟩
      refine ⟨_, rfl, by decide, fun p hp => ?_⟩
      have s1 : Same H (upd H p (.tup [.ty "list", .ty "tuple"])) := same_upd hp
      have h1 := s1 _ _ hl
      refine ⟨.ref a, p, _, _, [.type "list", .type "tuple"], _, rfl, upd_same, .cons (.ty _) (.cons (.ty _) .nil), (Thing.lst h1).tyx, kit_seq .lst, true, rfl, ?_⟩
      refine iteF ?_
      refine ⟨_, rfl, a, rfl, ⟨_, SqL.of h1⟩, for_list (K := K) (a := a) (xs := xs) (fun i σ H' => ∃ (v : Option V) (ns : List Int), xs.take i = ns.map V.int ∧ Ws ns ∧ σ = [some (.ref a), some (.int (chk ns)), v] ∧ H' = upd H p (.tup [.ty "list", .ty "tuple"])) ⟨none, [], rfl, fun n hn => (by cases hn), rfl, rfl⟩ (fun i σ H' _ hW => ?_) (fun i x σ H' hi hW => ?_) (fun σ H' hW => ?_)⟩
      · obtain ⟨v, ns, _, _, rfl, rfl⟩ := hW
        exact SqL.of h1
      · obtain ⟨v, ns, en, hw, rfl, rfl⟩ := hW
        obtain ⟨kx, tx⟩ := hy x (List.mem_of_getElem? hi)
        refine ⟨_, rfl, x, kx, 0, 4294967295, rfl, tx.same s1, isW x, rfl, ?_⟩
        have et : xs.take (i + 1) = xs.take i ++ [x] := by
          rw [List.take_add_one, hi]
          rfl
        have ex : xs = ns.map V.int ++ x :: xs.drop (i + 1) := by
          have z := List.take_append_drop (i + 1) xs
          rw [et, en, List.append_assoc] at z
          exact z.symm
        cases hx : isW x with
        | false =>
          refine iteT ?_
          refine ⟨_, rfl, x, rfl, fun d hd => ?_⟩
          exact q2 ns x _ ex hw hx _ d (Same.new s1 hd) upd_same
        | true =>
          refine iteF ?_
          cases tx with
          | int n =>
            have hnW : W n := isW_int.mp hx
            refine ⟨_, rfl, _, rfl, _, _, rfl, rfl, _, _, rfl, rfl, .inr ⟨by decide, by decide⟩, _, _, rfl, rfl, _, _, rfl, rfl, ?_⟩
            refine ⟨_, rfl, _, rfl, _, _, rfl, rfl, (by show (0 : Int) ≤ 15; decide), _, _, rfl, rfl, ?_⟩
            refine ⟨some (.int n), ns ++ [n], by rw [et, en, List.map_append]; rfl, fun m hm => ?_, ?_, rfl⟩
            · rcases List.mem_append.mp hm with z | z
              · exact hw m z
              · cases List.mem_singleton.mp z
                exact hnW
            · unfold chk
              rw [List.foldl_append]
              rfl
          | non => cases hx
          | bl b => cases hx
          | str z => cases hx
          | lst e => cases hx
          | tup e => cases hx
          | dic e => cases hx
      · obtain ⟨v, ns, en, hw, rfl, rfl⟩ := hW
        rw [List.take_length] at en
        exact ⟨_, rfl, q1 ns en hw _ s1⟩
    · refine ⟨_, (pss_cons (ps_if (pt_not (pt_val (pe_callB call_isiT (by rfl) T.b_isinstance PyProof.Rows.boot_isinstance (pa_cons (pv 0) (pa_cons (pe_tup (pa_cons (pe_bltn (v := .ty "list") (by rfl) T.b_list PyProof.Rows.boot_list rfl) (pa_cons (pe_bltn (v := .ty "tuple") (by rfl) T.b_tuple PyProof.Rows.boot_tuple rfl) pa_nil))) pa_nil))))) (pss_one (ps_err rfl E_NoNumber hr (takes_of rfl rfl rfl rfl) (by rfl) (pa_cons (pv 0) pa_nil))) pss_nil)
      (pss_cons (ps_set (i := 1) sccheck_of.nd rfl (.inl rfl) (pe_glob (v := .int 2166136261) (by rfl) c_BEGIN ⟨_, rfl⟩))
      (pss_cons (ps_for (passes_of rfl) rfl (pi_tup (pv 0)) (pg_name (i := 2) sccheck_of.nd rfl (.inl rfl)) (pss_cons (ps_if (pt_not (pt_val (pe_callO G_is_within (hr.mono (by decide)) (by rfl) pass0 (pa_cons (pv 2) (pa_cons pe_int (pa_cons (pe_glob (v := .int 4294967295) (by rfl) c_MOST ⟨_, rfl⟩) pa_nil)))))) (pss_one (ps_err rfl E_NoNumber hr (takes_of rfl rfl rfl rfl) (by rfl) (pa_cons (pv 2) pa_nil))) pss_nil)
      (pss_cons (ps_set (i := 1) sccheck_of.nd rfl (.inl rfl) (pe_op op_and (pe_op op_add (pe_op op_mul (pe_op op_xor (pv 1) (pv 2)) (pe_glob (v := .int 2654435769) (by rfl) c_TIMES ⟨_, rfl⟩)) (pe_glob (v := .int 40503) (by rfl) c_MORE ⟨_, rfl⟩)) (pe_glob (v := .int 4294967295) (by rfl) c_MOST ⟨_, rfl⟩)))
      (pss_one (ps_set (i := 1) sccheck_of.nd rfl (.inl rfl) (pe_op op_xor (pv 1) (pe_op op_shr (pv 1) (pe_glob (v := .int 15) (by rfl) c_FAR ⟨_, rfl⟩))))))))
      (pss_one (ps_ret (pv 1)))))), ?_⟩
      refine ⟨_, rfl, by decide, fun p hp => ?_⟩
      have s1 : Same H (upd H p (.tup [.ty "list", .ty "tuple"])) := same_upd hp
      have h1 := s1 _ _ hl
      refine ⟨.ref a, p, _, _, [.type "list", .type "tuple"], _, rfl, upd_same, .cons (.ty _) (.cons (.ty _) .nil), (Thing.tup h1).tyx, kit_seq .tup, true, rfl, ?_⟩
      refine iteF ?_
      refine ⟨_, rfl, a, rfl, ⟨_, SqT.of h1⟩, for_tup (K := K) (a := a) (xs := xs) (fun i σ H' => ∃ (v : Option V) (ns : List Int), xs.take i = ns.map V.int ∧ Ws ns ∧ σ = [some (.ref a), some (.int (chk ns)), v] ∧ H' = upd H p (.tup [.ty "list", .ty "tuple"])) ⟨none, [], rfl, fun n hn => (by cases hn), rfl, rfl⟩ (fun i σ H' _ hW => ?_) (fun i x σ H' hi hW => ?_) (fun σ H' hW => ?_)⟩
      · obtain ⟨v, ns, _, _, rfl, rfl⟩ := hW
        exact SqT.of h1
      · obtain ⟨v, ns, en, hw, rfl, rfl⟩ := hW
        obtain ⟨kx, tx⟩ := hy x (List.mem_of_getElem? hi)
        refine ⟨_, rfl, x, kx, 0, 4294967295, rfl, tx.same s1, isW x, rfl, ?_⟩
        have et : xs.take (i + 1) = xs.take i ++ [x] := by
          rw [List.take_add_one, hi]
          rfl
        have ex : xs = ns.map V.int ++ x :: xs.drop (i + 1) := by
          have z := List.take_append_drop (i + 1) xs
          rw [et, en, List.append_assoc] at z
          exact z.symm
        cases hx : isW x with
        | false =>
          refine iteT ?_
          refine ⟨_, rfl, x, rfl, fun d hd => ?_⟩
          exact q2 ns x _ ex hw hx _ d (Same.new s1 hd) upd_same
        | true =>
          refine iteF ?_
          cases tx with
          | int n =>
            have hnW : W n := isW_int.mp hx
            refine ⟨_, rfl, _, rfl, _, _, rfl, rfl, _, _, rfl, rfl, .inr ⟨by decide, by decide⟩, _, _, rfl, rfl, _, _, rfl, rfl, ?_⟩
            refine ⟨_, rfl, _, rfl, _, _, rfl, rfl, (by show (0 : Int) ≤ 15; decide), _, _, rfl, rfl, ?_⟩
            refine ⟨some (.int n), ns ++ [n], by rw [et, en, List.map_append]; rfl, fun m hm => ?_, ?_, rfl⟩
            · rcases List.mem_append.mp hm with z | z
              · exact hw m z
              · cases List.mem_singleton.mp z
                exact hnW
            · unfold chk
              rw [List.foldl_append]
              rfl
          | non => cases hx
          | bl b => cases hx
          | str z => cases hx
          | lst e => cases hx
          | tup e => cases hx
          | dic e => cases hx
      · obtain ⟨v, ns, en, hw, rfl, rfl⟩ := hW
        rw [List.take_length] at en
        exact ⟨_, rfl, q1 ns en hw _ s1⟩
    · refine ⟨_, (pss_cons (ps_if (pt_not (pt_val (pe_callB call_isiT (by rfl) T.b_isinstance PyProof.Rows.boot_isinstance (pa_cons (pv 0) (pa_cons (pe_tup (pa_cons (pe_bltn (v := .ty "list") (by rfl) T.b_list PyProof.Rows.boot_list rfl) (pa_cons (pe_bltn (v := .ty "tuple") (by rfl) T.b_tuple PyProof.Rows.boot_tuple rfl) pa_nil))) pa_nil))))) (pss_one (ps_err rfl E_NoNumber hr (takes_of rfl rfl rfl rfl) (by rfl) (pa_cons (pv 0) pa_nil))) pss_nil)
      (pss_cons (ps_set (i := 1) sccheck_of.nd rfl (.inl rfl) (pe_glob (v := .int 2166136261) (by rfl) c_BEGIN ⟨_, rfl⟩))
      (pss_cons (ps_for (passes_of rfl) rfl (pi_list (pv 0)) (pg_name (i := 2) sccheck_of.nd rfl (.inl rfl)) (pss_cons (ps_if (pt_not (pt_val (pe_callO G_is_within (hr.mono (by decide)) (by rfl) pass0 (pa_cons (pv 2) (pa_cons pe_int (pa_cons (pe_glob (v := .int 4294967295) (by rfl) c_MOST ⟨_, rfl⟩) pa_nil)))))) (pss_one (ps_err rfl E_NoNumber hr (takes_of rfl rfl rfl rfl) (by rfl) (pa_cons (pv 2) pa_nil))) pss_nil)
      (pss_cons (ps_set (i := 1) sccheck_of.nd rfl (.inl rfl) (pe_op op_and (pe_op op_add (pe_op op_mul (pe_op op_xor (pv 1) (pv 2)) (pe_glob (v := .int 2654435769) (by rfl) c_TIMES ⟨_, rfl⟩)) (pe_glob (v := .int 40503) (by rfl) c_MORE ⟨_, rfl⟩)) (pe_glob (v := .int 4294967295) (by rfl) c_MOST ⟨_, rfl⟩)))
      (pss_one (ps_set (i := 1) sccheck_of.nd rfl (.inl rfl) (pe_op op_xor (pv 1) (pe_op op_shr (pv 1) (pe_glob (v := .int 15) (by rfl) c_FAR ⟨_, rfl⟩))))))))
      (pss_one (ps_ret (pv 1)))))), ?_⟩
      refine ⟨_, rfl, by decide, fun p hp => ?_⟩
      have s1 : Same H (upd H p (.tup [.ty "list", .ty "tuple"])) := same_upd hp
      refine ⟨x, p, _, _, [.type "list", .type "tuple"], _, rfl, upd_same, .cons (.ty _) (.cons (.ty _) .nil), (t.same s1).tyx, kit_seq k, _, rfl, ?_⟩
      rw [k1, k2]
      refine iteT ?_
      refine ⟨_, rfl, x, rfl, fun d hd => ?_⟩
      exact q _ d (Same.new s1 hd) upd_same
/-! ### the law's helpers -/
def spCell (K : PySem.W.Frag) : Sp := fun vs H Q _ => ∃ (a : Addr) (ns : List Int) (k : Nat), vs = [.ref a, .int k] ∧ SqL K H a (ns.map V.int) ∧ ∀ c : Int, Q (.int c) H
theorem ok_cell {f : Addr} {fd : FuncData} (T : Tx mg) (F : Fun K "_law_cell_at" "_law_cell_at" s_law_cell_at f fd) : FnOk P w K mg base CX0 1 f fd ["_law_script", "_law_k"] (spCell K) := by
  refine F.ok sc_law_cell_at (fun vs H Q E h => ?_) (fun cdv A outer s H vs Q E hr h => ?_)
  · obtain ⟨a, ns, k, rfl, _⟩ := h
    rfl
  · obtain ⟨a, ns, k, rfl, ha, q⟩ := h
    refine ⟨_, (pss_cons (ps_if (pt_cmpR op_lt (pv 1) (pe_callB call_len_seq (by rfl) T.b_len PySem.boot_len (pa_cons (pv 0) pa_nil)) (nomark _)) (pss_one (ps_ret (pe_ix ix_list (pv 0) (pv 1) (fun _ _ => rfl)))) pss_nil)
      (pss_one (ps_ret (pe_op op_add (pe_op op_mul pe_int (pv 1)) pe_int)))), ?_⟩
    refine ⟨_, rfl, _, rfl, a, _, rfl, .inl ha, _, _, rfl, rfl, _, rfl, ite2 (fun e => ?_) (fun e => ?_)⟩
    · have e2 : (k : Int) < ((ns.map V.int).length : Int) := of_decide_eq_true e
      rw [List.length_map] at e2
      have e3 : k < ns.length := by omega
      refine ⟨_, rfl, _, rfl, a, _, k, .int ns[k], rfl, rfl, ha, atI_nat (j := k) ?_, q _⟩
      rw [List.getElem?_map, List.getElem?_eq_getElem e3]
      rfl
    · exact ⟨_, rfl, _, _, rfl, rfl, .inl ⟨by decide, by decide⟩, _, _, rfl, rfl, q _⟩
def spBox : Sp := fun vs H Q _ => ∃ c : Int, vs = [.int c] ∧ ∀ b H', H b = none → Box H' b → Same H H' → Q (.ref b) H'
theorem ok_box {f : Addr} {fd : FuncData} (T : Tx mg) (F : Fun K "_law_box" "_law_box" s_law_box f fd) : FnOk P w K mg base CX0 1 f fd ["_law_cell"] spBox := by
  refine F.ok sc_law_box (fun vs H Q E h => ?_) (fun cdv A outer s H vs Q E hr h => ?_)
  · obtain ⟨c, rfl, _⟩ := h
    rfl
  · obtain ⟨c, rfl, q⟩ := h
    refine ⟨_, (pss_one (ps_ret (pe_lst (pa_cons (pe_op op_mul (pe_callB (call_max2 rfl) (by rfl) T.b_max PyProof.Rows.boot_max (pa_cons pe_int (pa_cons (pv 0) pa_nil))) (pe_callTy call_int1 (by rfl) T.b_int PyProof.Rows.boot_int (pa_cons (pe_cmpR op_ge (pv 0) (pe_op op_pow pe_int pe_int) (nomark _)) pa_nil))) (pa_cons (pe_op op_mod (pv 0) pe_int) (pa_cons pe_int pa_nil)))))), ?_⟩
    refine ⟨_, rfl, _, _, rfl, _, rfl, _, _, rfl, rfl, ⟨by decide, by decide, by decide⟩, _, _, rfl, rfl, .inr ⟨_, rfl, _, _, rfl, rfl, .inr ?_, ?_⟩⟩
    · split <;> exact ⟨by decide, by decide⟩
    · refine ⟨_, rfl, _, _, rfl, rfl, (by show (0 : Int) < 2147483563; decide), (by show 3 ≤ sizeLine; decide), fun p hp => ?_⟩
      exact q p _ hp ⟨_, _, _, upd_same⟩ (same_upd hp)
def spTake : Sp := fun vs H Q _ => ∃ (b : Addr) (m : Int), vs = [.ref b, .int m] ∧ Box H b ∧ 0 < m ∧ m ≤ 4294967296 ∧ ∀ r H', 0 ≤ r → r < m → Keep b H H' → Q (.int r) H'
theorem ok_take {f : Addr} {fd : FuncData} (T : Tx mg) (F : Fun K "_law_take" "_law_take" s_law_take f fd) : FnOk P w K mg base CX0 1 f fd ["_law_box_here", "_law_many"] spTake := by
  refine F.ok sc_law_take (fun vs H Q E h => ?_) (fun cdv A outer s H vs Q E hr h => ?_)
  · obtain ⟨b, m, rfl, _⟩ := h
    rfl
  · obtain ⟨b, m, rfl, ⟨d, x, c, hb⟩, h0, h1, q⟩ := h
    have hdW : CDivW d m := wide_div (b := 33) h0 (by have : m.natAbs ≤ 4294967296 := by omega
                                                      exact Nat.lt_of_le_of_lt this (by decide)) (by decide) (by decide)
    refine ⟨_, (pss_cons (ps_if (pt_cmpR op_gt (pe_ix ix_list (pv 0) pe_int (fun _ _ => rfl)) pe_int (nomark _)) (pss_cons (ps_set (i := 3) sc_law_take.nd rfl (.inl rfl) (pe_op op_mod (pe_ix ix_list (pv 0) pe_int (fun _ _ => rfl)) (pv 1)))
      (pss_cons (ps_asg (pe_op op_fdivW (pe_ix ix_list (pv 0) pe_int (fun _ _ => rfl)) (pv 1)) (pg_sub (pv 0) pe_int set_list))
      (pss_one (ps_ret (pv 3))))) pss_nil)
      (pss_cons (ps_asg (pe_op op_add (pe_ix ix_list (pv 0) pe_int (fun _ _ => rfl)) pe_int) (pg_sub (pv 0) pe_int set_list))
      (pss_cons (ps_set (i := 2) sc_law_take.nd rfl (.inl rfl) (pe_op op_mod (pe_op op_add (pe_op op_add (pe_op op_mul (pe_ix ix_list (pv 0) pe_int (fun _ _ => rfl)) pe_int) (pe_op op_mul pe_int (pe_ix ix_list (pv 0) pe_int (fun _ _ => rfl)))) pe_int) pe_int))
      (pss_cons (ps_set (i := 2) sc_law_take.nd rfl (.inl rfl) (pe_op op_mod (pe_op op_mul (pe_op op_add (pv 2) (pe_op op_mul pe_int (pe_ix ix_list (pv 0) pe_int (fun _ _ => rfl)))) (pv 2)) pe_int))
      (pss_one (ps_ret (pe_op op_mod (pe_op op_fdivW (pe_op op_mod (pe_op op_mul (pe_op op_mod (pe_op op_add (pe_op op_mul (pv 2) pe_int) pe_int) pe_int) (pe_op op_add (pv 2) pe_int)) pe_int) pe_int) (pv 1)))))))), ?_⟩
    refine ⟨_, rfl, b, _, 0, .int d, rfl, rfl, SqL.of hb, atI_nat (j := 0) rfl, _, _, rfl, rfl, _, rfl, ite2 (fun e => ?_) (fun e => ?_)⟩
    · refine ⟨_, rfl, b, _, 0, .int d, rfl, rfl, SqL.of hb, atI_nat (j := 0) rfl, _, rfl, _, _, rfl, rfl, h0, ?_⟩
      refine ⟨_, rfl, b, _, 0, .int d, rfl, rfl, SqL.of hb, atI_nat (j := 0) rfl, _, rfl, _, _, rfl, rfl, hdW, ?_⟩
      refine ⟨_, rfl, b, _, 0, 0, rfl, rfl, hb, rfl, _, rfl, ?_⟩
      refine q _ _ (Int.emod_nonneg _ (by omega)) (Int.emod_lt_of_pos _ h0) ⟨⟨_, _, _, upd_same⟩, fun a o na e => ?_⟩
      rw [upd_ne na]
      exact e
    · refine ⟨_, rfl, b, _, 2, .int c, rfl, rfl, SqL.of hb, atI_nat (j := 2) rfl, _, _, rfl, rfl, ?_⟩
      refine ⟨_, rfl, b, _, 2, 2, rfl, rfl, hb, rfl, ?_⟩
      have hb2 : (upd H b (.lst [.int d, .int x, .int (c + 1)])) b = some (.lst [.int d, .int x, .int (c + 1)]) := upd_same
      refine ⟨_, rfl, b, _, 1, .int x, rfl, rfl, SqL.of hb2, atI_nat (j := 1) rfl, _, _, rfl, rfl, .inr ⟨by decide, by decide⟩, ?_⟩
      refine ⟨_, rfl, b, _, 2, .int (c + 1), rfl, rfl, SqL.of hb2, atI_nat (j := 2) rfl, _, _, rfl, rfl, .inl ⟨by decide, by decide⟩, _, _, rfl, rfl, _, _, rfl, rfl, _, _, rfl, rfl, (by show (0 : Int) < 2147483647; decide), ?_⟩
      generalize hu : (x * 40692 + 10007 * (c + 1) + 13) % 2147483647 = u
      have u0 : 0 ≤ u ∧ u < 2147483647 := by omega
      refine ⟨_, rfl, _, rfl, b, _, 2, .int (c + 1), rfl, rfl, SqL.of hb2, atI_nat (j := 2) rfl, _, _, rfl, rfl, .inl ⟨by decide, by decide⟩, _, _, rfl, rfl, _, rfl, _, _, rfl, rfl, .inr ⟨by omega, by omega⟩, _, _, rfl, rfl, (by show (0 : Int) < 2147483629; decide), ?_⟩
      generalize hv : (u + 11 * (c + 1)) * u % 2147483629 = v
      have v0 : 0 ≤ v ∧ v < 2147483629 := by
        rw [← hv]
        exact ⟨Int.emod_nonneg _ (by decide), Int.emod_lt_of_pos _ (by decide)⟩
      refine ⟨_, rfl, _, _, rfl, rfl, .inr ⟨by decide, by decide⟩, _, _, rfl, rfl, _, _, rfl, rfl, (by show (0 : Int) < 2147483587; decide), _, rfl, _, _, rfl, rfl, _, _, rfl, rfl, .inr ⟨by omega, by omega⟩, _, _, rfl, rfl, (by show (0 : Int) < 2147483579; decide), _, _, rfl, rfl, wide_div (b := 4) (by decide) (by decide) (by decide) (by decide), _, rfl, _, _, rfl, rfl, h0, ?_⟩
      refine q _ _ (Int.emod_nonneg _ (by omega)) (Int.emod_lt_of_pos _ h0) ⟨⟨_, _, _, upd_same⟩, fun a o na e => ?_⟩
      rw [upd_ne na]
      exact e
def spCrossed : Sp := fun vs H Q _ => ∃ i j : Int, vs = [.int i, .int j] ∧ Q (.int (Builtin.bitXor i j)) H
theorem ok_crossed {f : Addr} {fd : FuncData} (T : Tx mg) (F : Fun K "_law_crossed" "_law_crossed" s_law_crossed f fd) : FnOk P w K mg base CX0 1 f fd ["_law_one", "_law_other"] spCrossed := by
  refine F.ok sc_law_crossed (fun vs H Q E h => ?_) (fun cdv A outer s H vs Q E hr h => ?_)
  · obtain ⟨i, j, rfl, _⟩ := h
    rfl
  · obtain ⟨i, j, rfl, q⟩ := h
    refine ⟨_, (pss_one (ps_ret (pe_op op_sub (pe_op op_add (pv 0) (pv 1)) (pe_op op_mul pe_int (pe_op op_and (pv 0) (pv 1)))))), ?_⟩
    refine ⟨_, rfl, _, rfl, _, _, rfl, rfl, _, rfl, _, rfl, _, _, rfl, rfl, _, _, rfl, rfl, .inl ⟨by decide, by decide⟩, _, _, rfl, rfl, ?_⟩
    rw [bitXor_and] at q
    exact q
def spWord : Sp := fun vs H Q _ => ∃ b : Addr, vs = [.ref b] ∧ Box H b ∧ ∀ r H', W r → Keep b H H' → Q (.int r) H'
theorem pick {xs : List Int} {r : Int} (h0 : 0 ≤ r) (h1 : r < xs.length) : ∃ v, v ∈ xs ∧ atI (xs.map V.int) r = some (.int v) := by
  obtain ⟨n, rfl⟩ := Int.eq_ofNat_of_zero_le h0
  have hl : n < xs.length := by omega
  refine ⟨xs[n], List.getElem_mem hl, atI_nat (j := n) ?_⟩
  rw [List.getElem?_map, List.getElem?_eq_getElem hl]
  rfl
theorem W.shl {r : Int} (h0 : 0 ≤ r) (h1 : r < 32) : W (1 * 2 ^ r.toNat) := by
  obtain ⟨n, rfl⟩ := Int.eq_ofNat_of_zero_le h0
  have h : n < 32 := by omega
  rw [show ((n : Int)).toNat = n from rfl, Int.one_mul]
  have e : (2 : Int) ^ n = ((2 ^ n : Nat) : Int) := by
    rw [Int.natCast_pow]
    rfl
  rw [e]
  have l : 2 ^ n < 2 ^ 32 := Nat.pow_lt_pow_right (by decide) h
  exact ⟨Int.natCast_nonneg _, by rw [show (2 : Nat) ^ 32 = 4294967296 from rfl] at l; omega⟩
theorem ok_word {f : Addr} {fd : FuncData} (T : Tx mg) (G__law_take : Ok P w K mg base CX0 "_law_take" 1 ["_law_box_here", "_law_many"] spTake) (F : Fun K "_law_word" "_law_word" s_law_word f fd) : FnOk P w K mg base CX0 2 f fd ["_law_box_here"] spWord := by
  refine F.ok sc_law_word (fun vs H Q E h => ?_) (fun cdv A outer s H vs Q E hr h => ?_)
  · obtain ⟨b, rfl, _⟩ := h
    rfl
  · obtain ⟨b, rfl, hb, q⟩ := h
    refine ⟨_, (pss_cons (ps_set (i := 1) sc_law_word.nd rfl (.inl rfl) (pe_lst (pa_cons pe_int (pa_cons pe_int (pa_cons pe_int (pa_cons pe_int (pa_cons (pe_op op_shl pe_int (pe_callO G__law_take (hr.mono (by decide)) (by rfl) pass0 (pa_cons (pv 0) (pa_cons pe_int pa_nil)))) (pa_cons (pe_callO G__law_take (hr.mono (by decide)) (by rfl) pass0 (pa_cons (pv 0) (pa_cons pe_int pa_nil))) (pa_cons (pe_callO G__law_take (hr.mono (by decide)) (by rfl) pass0 (pa_cons (pv 0) (pa_cons pe_int pa_nil))) pa_nil)))))))))
      (pss_one (ps_ret (pe_ix ix_list (pv 1) (pe_callO G__law_take (hr.mono (by decide)) (by rfl) pass0 (pa_cons (pv 0) (pa_cons pe_int pa_nil))) (fun _ _ => rfl))))), ?_⟩
    refine ⟨_, rfl, b, 32, rfl, hb, by decide, by decide, fun r1 H1 r10 r11 k1 => ?_⟩
    refine ⟨_, _, rfl, rfl, ⟨r10, by omega, by decide⟩, ?_⟩
    refine ⟨_, rfl, b, 4294967296, rfl, k1.box, by decide, by decide, fun r2 H2 r20 r21 k2 => ?_⟩
    refine ⟨_, rfl, b, 400, rfl, k2.box, by decide, by decide, fun r3 H3 r30 r31 k3 => ?_⟩
    refine ⟨(by show 7 ≤ sizeLine; decide), fun p hp => ?_⟩
    have kp := ((k1.trans k2).trans k3).new (o := .lst [.int 0, .int 1, .int 2, .int 4294967295, .int (1 * 2 ^ r1.toNat), .int r2, .int r3]) hp
    obtain ⟨ob, eb⟩ := k3.box.some
    have np : p ≠ b := (ne_of_none eb hp).symm
    refine ⟨_, rfl, _, rfl, b, 7, rfl, kp.box, by decide, by decide, fun r4 H4 r40 r41 k4 => ?_⟩
    obtain ⟨v, hv, ev⟩ := pick (xs := [0, 1, 2, 4294967295, 1 * 2 ^ r1.toNat, r2, r3]) r40 (by show r4 < 7; exact r41)
    refine ⟨p, _, r4, .int v, rfl, rfl, SqL.of (k4.old p _ np upd_same), ev, q v H4 ?_ (kp.trans k4)⟩
    simp only [List.mem_cons, List.not_mem_nil, or_false] at hv
    rcases hv with rfl | rfl | rfl | rfl | rfl | rfl | rfl
    · exact ⟨by decide, by decide⟩
    · exact ⟨by decide, by decide⟩
    · exact ⟨by decide, by decide⟩
    · exact ⟨by decide, by decide⟩
    · exact W.shl r10 r11
    · exact ⟨r20, r21⟩
    · exact ⟨r30, by omega⟩

theorem stp_alt {c n : Int} (hc : W c) (hn : W n) : stp c n = Builtin.bitXor ((Builtin.bitXor c n * 2654435769 + 40503) % 4294967296) ((Builtin.bitXor c n * 2654435769 + 40503) % 4294967296 / 32768) := by
  obtain ⟨a, rfl, _⟩ := nat_of hc
  obtain ⟨b, rfl, _⟩ := nat_of hn
  have e0 : Builtin.bitXor (a : Int) (b : Int) = ((a ^^^ b : Nat) : Int) := Bits.bitXor_pp (Int.natCast_nonneg _) (Int.natCast_nonneg _)
  unfold stp
  rw [e0, and_mask]
  have e1 : (((a ^^^ b : Nat) : Int) * 2654435769 + 40503) % 4294967296 = ((((a ^^^ b) * 2654435769 + 40503) % 4294967296 : Nat) : Int) := by omega
  rw [e1]
  have e2 : (2 : Int) ^ (15 : Int).toNat = 32768 := rfl
  rw [e2]
def spLCheck (K : PySem.W.Frag) : Sp := fun vs H Q _ => ∃ (a : Addr) (ns : List Int), vs = [.ref a] ∧ SqL K H a (ns.map V.int) ∧ Ws ns ∧ Q (.int (chk ns)) H
theorem ok_lcheck {f : Addr} {fd : FuncData} (T : Tx mg) (G__law_crossed : Ok P w K mg base CX0 "_law_crossed" 1 ["_law_one", "_law_other"] spCrossed) (F : Fun K "_law_check" "_law_check" s_law_check f fd) : FnOk P w K mg base CX0 2 f fd ["_law_numbers"] (spLCheck K) := by
  refine F.ok sc_law_check (fun vs H Q E h => ?_) (fun cdv A outer s H vs Q E hr h => ?_)
  · obtain ⟨a, ns, rfl, _⟩ := h
    rfl
  · obtain ⟨a, ns, rfl, ha, hw, q⟩ := h
    refine ⟨_, (pss_cons (ps_set (i := 1) sc_law_check.nd rfl (.inl rfl) pe_int)
      (pss_cons (ps_for PassesOwn.never rfl (pi_list (pv 0)) (pg_name (i := 2) sc_law_check.nd rfl (.inl rfl)) (pss_cons (ps_set (i := 1) sc_law_check.nd rfl (.inl rfl) (pe_op op_mod (pe_op op_add (pe_op op_mul (pe_callO G__law_crossed (hr.mono (by decide)) (by rfl) pass0 (pa_cons (pv 1) (pa_cons (pv 2) pa_nil))) pe_int) pe_int) pe_int))
      (pss_one (ps_set (i := 1) sc_law_check.nd rfl (.inl rfl) (pe_callO G__law_crossed (hr.mono (by decide)) (by rfl) pass0 (pa_cons (pv 1) (pa_cons (pe_op op_fdivW (pv 1) pe_int) pa_nil)))))))
      (pss_one (ps_ret (pv 1))))), ?_⟩
    refine ⟨_, rfl, a, rfl, ⟨_, ha⟩, for_list (K := K) (a := a) (xs := ns.map V.int) (fun i σ H' => ∃ v : Option V, σ = [some (.ref a), some (.int (chk (ns.take i))), v] ∧ H' = H) ⟨none, rfl, rfl⟩ (fun i σ H' _ hW => ?_) (fun i x σ H' hi hW => ?_) (fun σ H' hW => ?_)⟩
    · obtain ⟨v, rfl, rfl⟩ := hW
      exact ha
    · obtain ⟨v, rfl, rfl⟩ := hW
      rw [List.getElem?_map] at hi
      obtain ⟨n, hn, rfl⟩ : ∃ n, ns[i]? = some n ∧ x = V.int n := by
        cases e : ns[i]? with
        | none => rw [e] at hi; cases hi
        | some n => rw [e] at hi; exact ⟨n, rfl, (Option.some.inj hi).symm⟩
      have hnW : W n := hw n (List.mem_of_getElem? hn)
      have hcW : W (chk (ns.take i)) := W_fold _ _ W0 fun m hm => hw m (List.mem_of_mem_take hm)
      have et : ns.take (i + 1) = ns.take i ++ [n] := by
        rw [List.take_add_one, hn]
        rfl
      refine ⟨_, rfl, _, rfl, _, _, rfl, _, _, rfl, rfl, .inr ⟨by decide, by decide⟩, _, _, rfl, rfl, _, _, rfl, rfl, (by show (0 : Int) < 4294967296; decide), ?_⟩
      refine ⟨_, rfl, _, rfl, _, _, rfl, rfl, wide_div (b := 16) (by decide) (by decide) (by decide) (by decide), _, _, rfl, some (.int n), ?_, rfl⟩
      rw [et]
      unfold chk
      rw [List.foldl_append]
      show ([some (V.ref a), some (V.int _), some (V.int n)] : List (Option V)) = [some (V.ref a), some (V.int (stp (chk (ns.take i)) n)), some (V.int n)]
      rw [stp_alt hcW hnW]
      rfl
    · obtain ⟨v, rfl, rfl⟩ := hW
      rw [List.length_map, List.take_length]
      exact ⟨_, rfl, q⟩
/-! ### what is no word -/
def badOk (d : PyData) : Bool := d.showable && (decide (d.shown.length ≤ 1000) && PyData.canLay0 (.str d.shown))
theorem badOk_len {d : PyData} (h : badOk d = true) : d.showable = true ∧ d.shown.length ≤ sizeLine ∧ PyData.canLay0 (.str d.shown) = true := by
  unfold badOk at h
  simp only [Bool.and_eq_true, decide_eq_true_eq] at h
  exact ⟨h.1, Nat.le_of_lt (small1000 h.2.1), h.2.2⟩
theorem pickV {xs : List V} {r : Int} (h0 : 0 ≤ r) (h1 : r < xs.length) : ∃ v, v ∈ xs ∧ atI xs r = some v := by
  obtain ⟨n, rfl⟩ := Int.eq_ofNat_of_zero_le h0
  have hl : n < xs.length := by omega
  exact ⟨xs[n], List.getElem_mem hl, atI_nat (j := n) (List.getElem?_eq_getElem hl)⟩
def spNoWord : Sp := fun vs H Q _ => ∃ b : Addr, vs = [.ref b] ∧ Box H b ∧ ∀ x d k H', Keep b H H' → Dat H' x d k → badOk d = true → isW x = false → x ≠ .ref b → Q x H'
theorem ok_noword {f : Addr} {fd : FuncData} (T : Tx mg) (G__law_take : Ok P w K mg base CX0 "_law_take" 1 ["_law_box_here", "_law_many"] spTake) (F : Fun K "_law_no_word" "_law_no_word" s_law_no_word f fd) : FnOk P w K mg base CX0 2 f fd ["_law_box_here"] spNoWord := by
  refine F.ok sc_law_no_word (fun vs H Q E h => ?_) (fun cdv A outer s H vs Q E hr h => ?_)
  · obtain ⟨b, rfl, _⟩ := h
    rfl
  · obtain ⟨b, rfl, hb, q⟩ := h
    refine ⟨_, (pss_cons (ps_set (i := 1) sc_law_no_word.nd rfl (.inl rfl) (pe_lst (pa_cons pe_non (pa_cons (pe_un un_neg pe_int) (pa_cons pe_int (pa_cons pe_bl (pa_cons pe_bl (pa_cons pe_str (pa_cons pe_str (pa_cons (pe_tup (pa_cons pe_int pa_nil)) (pa_cons (pe_lst (pa_cons pe_int pa_nil)) (pa_cons pe_dnewK (pa_cons (pe_op op_pow pe_int pe_int) (pa_cons (pe_un un_neg pe_int) (pa_cons (pe_op op_mul pe_int pe_int) pa_nil)))))))))))))))
      (pss_one (ps_ret (pe_ix ix_list (pv 1) (pe_callO G__law_take (hr.mono (by decide)) (by rfl) pass0 (pa_cons (pv 0) (pa_cons pe_int pa_nil))) (fun _ _ => rfl))))), ?_⟩
    have neb : ∀ {H' : Hp} {p : Addr}, Box H' b → H' p = none → p ≠ b := fun h n => by
      obtain ⟨o, e⟩ := h.some
      exact (ne_of_none e n).symm
    refine ⟨1, rfl, (by show 1 ≤ sizeLine; decide), fun p1 n1 => ?_⟩
    have k1 : Keep b H (upd H p1 (.tup [.int 1])) := (Keep.refl hb).new n1
    refine ⟨(by show 1 ≤ sizeLine; decide), fun p2 n2 => ?_⟩
    have k2 := k1.new (o := .lst [.int 1]) n2
    refine fun p3 n3 => ?_
    have k3 := k2.new (o := .dK []) n3
    refine ⟨10, 29, rfl, rfl, ⟨by decide, by decide, by decide⟩, 4294967296, rfl, 4294967296, 3, rfl, rfl, .inl ⟨by decide, by decide⟩, (by show 13 ≤ sizeLine; decide), fun p hp => ?_⟩
    have e1 : (upd (upd (upd H p1 (.tup [.int 1])) p2 (.lst [.int 1])) p3 (.dK [])) p1 = some (.tup [.int 1]) := same_upd n3 _ _ (same_upd n2 _ _ upd_same)
    have e2 : (upd (upd (upd H p1 (.tup [.int 1])) p2 (.lst [.int 1])) p3 (.dK [])) p2 = some (.lst [.int 1]) := same_upd n3 _ _ upd_same
    have e3 : (upd (upd (upd H p1 (.tup [.int 1])) p2 (.lst [.int 1])) p3 (.dK [])) p3 = some (.dK []) := upd_same
    generalize (upd (upd (upd H p1 (.tup [.int 1])) p2 (.lst [.int 1])) p3 (.dK [])) = H3 at *
    have kp := k3.new (o := .lst [.non, .int (-1), .int 4294967296, .bl true, .bl false, .str "1", .str "", .ref p1, .ref p2, .ref p3, .int (10 ^ (29 : Int).toNat), .int (-4294967296), .int (4294967296 * 3)]) hp
    have m1 : p1 ≠ b := neb hb n1
    have m2 : p2 ≠ b := neb k1.box n2
    have m3 : p3 ≠ b := neb k2.box n3
    have np : p ≠ b := neb k3.box hp
    refine ⟨_, rfl, _, rfl, b, 13, rfl, kp.box, by decide, by decide, fun r H4 r0 r1 k4 => ?_⟩
    have f1 := k4.old p1 _ m1 (same_upd hp _ _ e1)
    have f2 := k4.old p2 _ m2 (same_upd hp _ _ e2)
    have f3 := k4.old p3 _ m3 (same_upd hp _ _ e3)
    have fp := k4.old p _ np upd_same
    have kk := kp.trans k4
    obtain ⟨v, hv, ev⟩ := pickV (xs := [.non, .int (-1), .int 4294967296, .bl true, .bl false, .str "1", .str "", .ref p1, .ref p2, .ref p3, .int (10 ^ (29 : Int).toNat), .int (-4294967296), .int (4294967296 * 3)]) r0 (by show r < 13; exact r1)
    refine ⟨p, _, r, v, rfl, rfl, SqL.of fp, ev, ?_⟩
    simp only [List.mem_cons, List.not_mem_nil, or_false] at hv
    rcases hv with rfl | rfl | rfl | rfl | rfl | rfl | rfl | rfl | rfl | rfl | rfl | rfl | rfl
    · exact q _ .none _ H4 kk .non (by decide +kernel) rfl (fun z => nomatch z)
    · exact q _ (.int (-1)) _ H4 kk (.int _) (by decide +kernel) (by decide) (fun z => nomatch z)
    · exact q _ (.int 4294967296) _ H4 kk (.int _) (by decide +kernel) (by decide) (fun z => nomatch z)
    · exact q _ (.bool true) _ H4 kk (.bl _) (by decide +kernel) rfl (fun z => nomatch z)
    · exact q _ (.bool false) _ H4 kk (.bl _) (by decide +kernel) rfl (fun z => nomatch z)
    · exact q _ (.str "1") _ H4 kk (.str _) (by decide +kernel) rfl (fun z => nomatch z)
    · exact q _ (.str "") _ H4 kk (.str _) (by decide +kernel) rfl (fun z => nomatch z)
    · exact q _ (.tuple [.int 1]) _ H4 kk (.tup (ns := [1]) f1) (by decide +kernel) rfl (fun z => m1 (V.ref.inj z))
    · exact q _ (.list [.int 1]) _ H4 kk (.lst (ns := [1]) f2) (by decide +kernel) rfl (fun z => m2 (V.ref.inj z))
    · exact q _ (.dict []) _ H4 kk (.dic f3) (by decide +kernel) rfl (fun z => m3 (V.ref.inj z))
    · exact q _ (.int (10 ^ 29)) _ H4 kk (.int _) (by decide +kernel) (by decide) (fun z => nomatch z)
    · exact q _ (.int (-4294967296)) _ H4 kk (.int _) (by decide +kernel) (by decide) (fun z => nomatch z)
    · exact q _ (.int (4294967296 * 3)) _ H4 kk (.int _) (by decide +kernel) (by decide) (fun z => nomatch z)
/-! ### what is refused -/
def spRefused : Sp := fun vs H Q _ => ∃ (x : V) (k : Kd) (y : V) (dt : PyData) (ky : Kd), vs = [x] ∧ Thing H x k ∧ Dat H y dt ky ∧ badOk dt = true ∧
  ((∃ (a : Addr) (ns : List Int) (rest : List V), x = .ref a ∧ isW y = false ∧ (H a = some (.lst (ns.map V.int ++ y :: rest)) ∨ H a = some (.tup (ns.map V.int ++ y :: rest))) ∧ (∀ z ∈ rest, ∃ k, Thing H z k) ∧ Ws ns) ∨ (x = y ∧ k.isList = false ∧ k.isTup = false)) ∧
  ∀ p H', Same H H' → H' p = some (.lst [.str dt.shown, .bl false, .bl true]) → Q (.ref p) H'
theorem split_uniq {ns ms : List Int} {b c : V} {r s : List V} (h : ns.map V.int ++ b :: r = ms.map V.int ++ c :: s) (hn : Ws ns) (hm : Ws ms) (hb : isW b = false) (hc : isW c = false) : b = c := by
  induction ns generalizing ms with
  | nil =>
    cases ms with
    | nil => exact (List.cons.inj h).1
    | cons m ms =>
      have e := (List.cons.inj h).1
      subst e
      rw [isW_int.mpr (hm m List.mem_cons_self)] at hb
      cases hb
  | cons n ns ih =>
    cases ms with
    | nil =>
      have e := (List.cons.inj h).1
      rw [← e, isW_int.mpr (hn n List.mem_cons_self)] at hc
      cases hc
    | cons m ms => exact ih (List.cons.inj h).2 (fun z hz => hn z (List.mem_cons_of_mem _ hz)) (fun z hz => hm z (List.mem_cons_of_mem _ hz))
theorem pe_callSO {X : Cx} {CX : CXT} {x : Str} {k : Nat} {ps : List Str} {sp : Sp} {E : L2.St → XK} {e : Expr} {es : List Expr} {t : TA} {p pos : Pos} (G : Ok X.prog X.w X.K X.mg X.base CX x k ps sp) (hr : Room k X.A) (hg : Gl X x) (hx : ∀ σ, PassesAt CX X σ (E σ)) (ha : PA X (e :: es) t)
    (hdb : (x == ("__debug__" : Str)) = false := by decide) (he : starEach (e :: es) X.env = (false, eval e X.env) :: starEach es X.env := by rfl) (hpl : (backTo pos (starEach es X.env)).any (·.1) = false := by rfl) :
    PE X (.Call (.Name x p) (e :: es) [] pos) (tCallS sp E t) := by
  obtain ⟨f, fd, m, kp, b, F⟩ := G.ex
  exact pe_callS F hr hg m kp b hx ha hdb he hpl
theorem ok_refused {f C CP L : Addr} {fd : FuncData} (T : Tx mg) (E_NoNumber : ErrC P w K mg base "NoNumber" "found" C) (gP : mg "NoPage" = some (.ref CP)) (gL : mg "LoreError" = some (.ref L)) (iP : PySem.W.kitOne K (.ref C) (.ref CP) = some false) (iL : PySem.W.kitOne K (.ref C) (.ref L) = some true)
    (G_check_of : Ok P w K mg base (L2.CX P w) "check_of" 4 ["numbers"] (spCheck C)) (F : Fun K "_law_refused" "_law_refused" s_law_refused f fd) : FnG P w K mg base CX0 5 f fd ["_law_thing"] spRefused := by
  refine okG F sc_law_refused (fun vs H Q E h => ?_) (fun cdv A outer s H vs Q E hgd hr h => ?_)
  · obtain ⟨x, k, y, dt, ky, rfl, _⟩ := h
    rfl
  · obtain ⟨x, k, y, dt, ky, rfl, t, dy, ok, cs, q⟩ := h
    obtain ⟨o1, o2, o3⟩ := badOk_len ok
    refine ⟨_, pss_cons (ps_set (i := 1) sc_law_refused.nd rfl (.inl rfl) pe_non)
      (pss_cons (ps_try_as (i := 2) (Wout := fun _ _ _ _ => False) rfl rfl sc_law_refused.nd rfl rfl ⟨rfl, by decide, .inl E_NoNumber.gC⟩ takes0
          (fun W pn xe tk _ => pss_one (ps_expr (pe_callSO G_check_of hr (by rfl) (fun σ => passAt tk σ) (pa_cons (pv 0) pa_nil))))
          (fun a oe cls d pn hz hf => pss_one (ps_set (i := 1) sc_law_refused.nd rfl (.inl rfl) (pe_lst
            (pa_cons (pe_callB (call_reprX hgd hr.units) (by rfl) T.b_repr PyProof.Rows.boot_repr (pa_cons (pe_xf E_NoNumber.xf E_NoNumber.noF hz hf (pv 2)) pa_nil))
            (pa_cons (pe_callB (call_isED E_NoNumber hz hf) (by rfl) T.b_isinstance PyProof.Rows.boot_isinstance (pa_cons (pv 2) (pa_cons (pe_glob (v := .ref CP) (by rfl) gP rfl) pa_nil)))
            (pa_cons (pe_callB (call_isED E_NoNumber hz hf) (by rfl) T.b_isinstance PyProof.Rows.boot_isinstance (pa_cons (pv 2) (pa_cons (pe_glob (v := .ref L) (by rfl) gL rfl) pa_nil))) pa_nil)))))))
      (pss_one (ps_ret (pv 1)))), ?_⟩
    refine ⟨_, rfl, x, k, rfl, t, ?_⟩
    have body : ∀ (H' : Hp) (d : Addr), Same H H' → H' d = some (.xd [("found", y)]) → Dat H' y dt ky ∧ ∀ p, H' p = none → Q (.ref p) (upd H' p (.lst [.str dt.shown, .bl false, .bl true])) :=
      fun H' d s hd => ⟨dy.same s, fun p hp => q p _ (Same.new s hp) upd_same⟩
    rcases cs with ⟨a, ns, rest, rfl, nw, hl, hr2, hw⟩ | ⟨rfl, k1, k2⟩
    · refine .inl ⟨a, _, rfl, hl, fun z hz => ?_, fun ms e hm => (no_bad e.symm hm nw).elim, fun ms b r e hm hb H' d s hd => ?_⟩
      · rcases List.mem_append.mp hz with z1 | z1
        · obtain ⟨n, _, rfl⟩ := List.mem_map.mp z1
          exact ⟨_, .int n⟩
        · rcases List.mem_cons.mp z1 with rfl | z2
          · exact ⟨_, dy.thing⟩
          · exact hr2 z z2
      · have eb : y = b := split_uniq e hw hm nw hb
        subst eb
        obtain ⟨dy2, qq⟩ := body H' d s hd
        refine ⟨true, E_NoNumber.te, fun _ a0 ha0 => ?_, fun z => Bool.noConfusion z⟩
        refine ⟨_, rfl, rfl, rfl, d, _, y, rfl, hd, look1, y, dt, ky, rfl, dy2, o1, o2, ?_⟩
        refine ⟨_, rfl, _, _, false, d, _, rfl, rfl, rfl, hd, .own _, iP, ?_⟩
        refine ⟨_, rfl, _, _, true, d, _, rfl, rfl, rfl, hd, .own _, iL, (by show 3 ≤ sizeLine; decide), fun p hp => ?_⟩
        exact ⟨_, rfl, qq p hp⟩
    · refine .inr ⟨k1, k2, fun H' d s hd => ?_⟩
      obtain ⟨dy2, qq⟩ := body H' d s hd
      refine ⟨true, E_NoNumber.te, fun _ a0 ha0 => ?_, fun z => Bool.noConfusion z⟩
      refine ⟨_, rfl, rfl, rfl, d, _, _, rfl, hd, look1, _, dt, ky, rfl, dy2, o1, o2, ?_⟩
      refine ⟨_, rfl, _, _, false, d, _, rfl, rfl, rfl, hd, .own _, iP, ?_⟩
      refine ⟨_, rfl, _, _, true, d, _, rfl, rfl, rfl, hd, .own _, iL, (by show 3 ≤ sizeLine; decide), fun p hp => ?_⟩
      exact ⟨_, rfl, qq p hp⟩
/-! ### cuts; what stands -/
theorem cut_to {xs : List V} {i : Nat} (h : i ≤ xs.length) : cutV xs none (some (i : Int)) = xs.take i := by
  unfold cutV
  rw [HT.sIx_nat, HT.sIx_none, Nat.min_eq_left h, Nat.sub_zero, List.drop_zero]
theorem cut_from {xs : List V} {i : Nat} (h : i ≤ xs.length) : cutV xs (some (i : Int)) none = xs.drop i := by
  unfold cutV
  rw [HT.sIx_nat, HT.sIx_none, Nat.min_eq_left h]
  exact List.take_of_length_le (by rw [List.length_drop]; omega)
theorem cut_from1 {xs : List V} {i : Nat} (h : i + 1 ≤ xs.length) : cutV xs (some ((i : Int) + 1)) none = xs.drop (i + 1) := cut_from (i := i + 1) h
theorem len_small {n : Nat} (h : n ≤ 1000) : n ≤ sizeLine := Nat.le_of_lt (small1000 h)
/-- a list that stands whatever becomes of the objects at bs -/
def SqB (K : PySem.W.Frag) (H : Hp) (bs : List Addr) (a : Addr) (xs : List V) : Prop := SqL K H a xs ∧ (a ∈ bs → ∀ H', SqL K H' a xs)
theorem SqB.nil {a : Addr} {xs : List V} {H : Hp} (h : SqL K H a xs) : SqB K H [] a xs := ⟨h, fun e => by cases e⟩
theorem SqB.add {a b : Addr} {bs : List Addr} {xs : List V} {H : Hp} (h : SqB K H bs a xs) (n : H b = none) : SqB K H (b :: bs) a xs := ⟨h.1, fun e H' => by
  rcases List.mem_cons.mp e with e | e
  · subst e
    rcases h.1 with (h | ⟨o, h⟩) | h
    · rw [n] at h; cases h
    · rw [n] at h; cases h
    · exact .inr h
  · exact h.2 e H'⟩
theorem SqB.drop {a b : Addr} {bs : List Addr} {xs : List V} {H : Hp} (h : SqB K H (b :: bs) a xs) : SqB K H bs a xs := ⟨h.1, fun e => h.2 (List.mem_cons_of_mem _ e)⟩
theorem SqB.step {a : Addr} {bs : List Addr} {xs : List V} {H H' : Hp} (h : SqB K H bs a xs) (k : ∀ o, a ∉ bs → H a = some o → H' a = some o) : SqB K H' bs a xs := ⟨by
  by_cases e : a ∈ bs
  · exact h.2 e H'
  · rcases h.1 with (z | ⟨o, z⟩) | z
    · exact .inl (.inl (k _ e z))
    · exact .inl (.inr ⟨o, k _ e z⟩)
    · exact .inr z, h.2⟩
theorem SqB.keep {a b : Addr} {bs : List Addr} {xs : List V} {H H' : Hp} (h : SqB K H bs a xs) (hb : b ∈ bs) (k : Keep b H H') : SqB K H' bs a xs := h.step fun o n e => k.old a o (fun z => n (z ▸ hb)) e
theorem SqB.same {a : Addr} {bs : List Addr} {xs : List V} {H H' : Hp} (h : SqB K H bs a xs) (k : Same H H') : SqB K H' bs a xs := h.step fun o _ e => k a o e
theorem SqB.wr {a b : Addr} {bs : List Addr} {xs : List V} {H : Hp} {o : HO} (h : SqB K H bs a xs) (hb : b ∈ bs) : SqB K (upd H b o) bs a xs := h.step fun o n e => by
  have na : a ≠ b := fun z => n (by rw [z]; exact hb)
  rw [upd_ne na]
  exact e
/-- what stands between the turns: the script at a, the box at b, the numbers at l -/
structure Now (K : PySem.W.Frag) (a b l : Addr) (ns xs : List Int) (H : Hp) : Prop where
  scr : SqB K H [b] a (ns.map V.int)
  box : Box H b
  lst : H l = some (.lst (xs.map V.int))
  nlb : l ≠ b
theorem Now.keep {a b l : Addr} {ns xs : List Int} {H H' : Hp} (n : Now K a b l ns xs H) (k : Keep b H H') : Now K a b l ns xs H' := ⟨n.scr.keep List.mem_cons_self k, k.box, k.old _ _ n.nlb n.lst, n.nlb⟩
theorem Now.same {a b l : Addr} {ns xs : List Int} {H H' : Hp} (n : Now K a b l ns xs H) (k : Same H H') : Now K a b l ns xs H' := n.keep (Same.keep n.box k)
theorem Now.new {a b l p : Addr} {o : HO} {ns xs : List Int} {H : Hp} (n : Now K a b l ns xs H) (h : H p = none) : Now K a b l ns xs (upd H p o) := n.same (same_upd h)
theorem Now.ne {a b l p : Addr} {ns xs : List Int} {H : Hp} (n : Now K a b l ns xs H) (h : H p = none) : p ≠ b := by
  obtain ⟨o, e⟩ := n.box.some
  exact (ne_of_none e h).symm
theorem map_int_inj {xs ys : List Int} (h : xs.map V.int = ys.map V.int) : xs = ys := by
  induction xs generalizing ys with
  | nil =>
    cases ys with
    | nil => rfl
    | cons y ys => cases h
  | cons x xs ih =>
    cases ys with
    | nil => cases h
    | cons y ys =>
      have h1 := (List.cons.inj h).1
      rw [V.int.inj h1, ih (List.cons.inj h).2]
theorem thI {acc : List Int} (H : Hp) : ∀ y ∈ acc.map V.int, ∃ k, Thing H y k := fun y hy => by
  obtain ⟨n, _, rfl⟩ := List.mem_map.mp hy
  exact ⟨_, .int n⟩
theorem shaped_ints (ns : List Int) : SeqAt.shaped (.list (ns.map PyData.int)) = true := by
  have h1 : PyData.canLayAll0 (ns.map PyData.int) = true := by
    induction ns with
    | nil => rfl
    | cons n r ih => simp only [List.map_cons, PyData.canLayAll0, PyData.canLay0, ih, Bool.and_self]
  have h2 := depth_ints ns
  have h3 : PyData.canLay0 (.list (ns.map PyData.int)) = true := by
    simp only [PyData.canLay0]
    exact h1
  have h4 : (PyData.list (ns.map PyData.int)).depth ≤ 64 := by
    simp only [PyData.depth]
    omega
  unfold SeqAt.shaped
  rw [h3, decide_eq_true h4]
  rfl
theorem eqv_shaped {d : PyData} (h : SeqAt.shaped d = true) : PyData.eqv d d = true := PySem.SeqAt.eqv_refl d (SeqAt.canLay_of_shaped h)
/-- the two lists of a refusal are the same -/
theorem shaped_ref {s : Str} (h : PyData.canLay0 (.str s) = true) : SeqAt.shaped (.list [.str s, .bool false, .bool true]) = true := by
  unfold SeqAt.shaped
  have e : PyData.canLay0 (.list [.str s, .bool false, .bool true]) = PyData.canLay0 (.str s) := by
    simp [PyData.canLay0, PyData.canLayAll0]
  rw [e, h]
  simp [PyData.depth, PyData.depthAll]
theorem dp_ref {H : Hp} {p : Addr} {s : Str} (h : H p = some (.lst [.str s, .bl false, .bl true])) : Dp K H (.ref p) (.list [.str s, .bool false, .bool true]) := .lst (SqL.of h) (.cons (.str _) (.cons (.bl _) (.cons (.bl _) .nil)))
theorem ite_no {c : Bool} {A B : Prop} (hc : c = true) (h : B) : if (!c) = true then A else B := by
  rw [hc]
  exact iteF h
def spLaw (K : PySem.W.Frag) : Sp := fun vs H Q _ => ∃ (a : Addr) (ns : List Int), vs = [.ref a] ∧ SqL K H a (ns.map V.int) ∧ ns.length ≤ 63 ∧ ∀ H', Q (.bl true) H'
theorem ok_law {f C : Addr} {fd : FuncData} (T : Tx mg) (G_check_of : Ok P w K mg base (L2.CX P w) "check_of" 4 ["numbers"] (spCheck C)) (G__law_cell_at : Ok P w K mg base CX0 "_law_cell_at" 1 ["_law_script", "_law_k"] (spCell K)) (G__law_box : Ok P w K mg base CX0 "_law_box" 1 ["_law_cell"] spBox)
    (G__law_take : Ok P w K mg base CX0 "_law_take" 1 ["_law_box_here", "_law_many"] spTake) (G__law_word : Ok P w K mg base CX0 "_law_word" 2 ["_law_box_here"] spWord) (G__law_check : Ok P w K mg base CX0 "_law_check" 2 ["_law_numbers"] (spLCheck K))
    (G__law_no_word : Ok P w K mg base CX0 "_law_no_word" 2 ["_law_box_here"] spNoWord) (G__law_refused : OkG P w K mg base CX0 "_law_refused" 5 ["_law_thing"] spRefused)
    (F : Fun K "law" "law" slaw f fd) : FnG P w K mg base CX0 6 f fd ["_law_script"] (spLaw K) := by
  refine okG F sclaw (fun vs H Q E h => ?_) (fun cdv A outer s H vs Q E hgd hr h => ?_)
  · obtain ⟨a, ns, rfl, _⟩ := h
    rfl
  · obtain ⟨a, ns, rfl, ha, hlen, q⟩ := h
    refine ⟨_, (pss_cons (ps_for PassesOwn.never rfl (pi_range1 (by rfl) T.b_range (pa_cons (pe_callB (call_max2 rfl) (by rfl) T.b_max PyProof.Rows.boot_max (pa_cons pe_int (pa_cons (pe_callB (call_min2 rfl) (by rfl) T.b_min PyProof.Rows.boot_min (pa_cons pe_int (pa_cons (pe_callB call_len_seq (by rfl) T.b_len PySem.boot_len (pa_cons (pv 0) pa_nil)) pa_nil))) pa_nil))) pa_nil)) (pg_name (i := 1) sclaw.nd rfl (.inl rfl)) (pss_cons (ps_set (i := 2) sclaw.nd rfl (.inr rfl) (pe_callO G__law_box (hr.mono (by decide)) (by rfl) pass0 (pa_cons (pe_callO G__law_cell_at (hr.mono (by decide)) (by rfl) pass0 (pa_cons (pv 0) (pa_cons (pv 1) pa_nil))) pa_nil)))
      (pss_cons (ps_setLc (i := 5) (own := [("_law_j", 13)]) (g := gName 13) (tt := tYes) rfl sclaw.nd rfl rfl (sw_true rfl rfl rfl (by decide +kernel)) (pi_range1 (by rfl) T.b_range (pa_cons (pe_callO G__law_take (hr.mono (by decide)) (by rfl) pass0 (pa_cons (pv 2) (pa_cons pe_int pa_nil))) pa_nil)) (blkOk_by (own := [("_law_j", 13)]) (N := ["_law_script", "_law_k", "_law_box_here", "_law_long", "_law_thing", "_law_numbers", "_law_kept", "_law_due", "_law_found", "_law_bad", "_law_at", "_law_behind", "_law_handed", "_law_j"]) (sc := defScope slaw) (by decide +kernel)) (fun _ _ _ _ _ => pg_name (i := 13) sclaw.nd rfl (Or.inl rfl)) (fun _ _ _ _ _ => pts_nil) (fun _ _ _ _ _ => (pe_callO G__law_word (hr.mono (by decide)) (by rfl) pass0 (pa_cons (pv 2) pa_nil))))
      (pss_cons (ps_set (i := 6) sclaw.nd rfl (.inl rfl) (pe_callTy call_list_of (by rfl) T.b_list PyProof.Rows.boot_list (pa_cons (pv 5) pa_nil)))
      (pss_cons (ps_set (i := 7) sclaw.nd rfl (.inl rfl) (pe_callO G__law_check (hr.mono (by decide)) (by rfl) pass0 (pa_cons (pv 5) pa_nil)))
      (pss_cons (ps_for PassesOwn.never rfl (pi_list (pe_lst (pa_cons (pe_callO G_check_of (hr.mono (by decide)) (by rfl) passL (pa_cons (pv 5) pa_nil)) (pa_cons (pe_callO G_check_of (hr.mono (by decide)) (by rfl) passL (pa_cons (pe_callTy call_tuple_of (by rfl) T.b_tuple PyProof.Rows.boot_tuple (pa_cons (pv 5) pa_nil)) pa_nil)) (pa_cons (pe_callO G_check_of (hr.mono (by decide)) (by rfl) passL (pa_cons (pv 5) pa_nil)) pa_nil))))) (pg_name (i := 8) sclaw.nd rfl (.inl rfl)) (pss_one (ps_if (PW.pt (pw_or (pt_cmpR op_ne (pv 8) (pv 7) (nomark _)) (pw_or1 (pt_val (pe_callB call_isi (by rfl) T.b_isinstance PyProof.Rows.boot_isinstance (pa_cons (pv 8) (pa_cons (pe_bltn (v := .ty "bool") (by rfl) T.b_bool PyProof.Rows.boot_bool rfl) pa_nil))))))) (pss_one (ps_ret pe_bl)) pss_nil)))
      (pss_cons (ps_if (pt_cmpR (op_neD hr.units) (pv 5) (pv 6) (nomark _)) (pss_one (ps_ret pe_bl)) pss_nil)
      (pss_cons (ps_set (i := 9) sclaw.nd rfl (.inl rfl) (pe_callO G__law_no_word (hr.mono (by decide)) (by rfl) pass0 (pa_cons (pv 2) pa_nil)))
      (pss_cons (ps_set (i := 10) sclaw.nd rfl (.inl rfl) (pe_callO G__law_take (hr.mono (by decide)) (by rfl) pass0 (pa_cons (pv 2) (pa_cons (pe_op op_add (pe_callB call_len_seq (by rfl) T.b_len PySem.boot_len (pa_cons (pv 5) pa_nil)) pe_int) pa_nil))))
      (pss_cons (ps_set (i := 11) sclaw.nd rfl (.inl rfl) (pe_ix ix_list (pe_lst (pa_cons (pe_slice sl_list (pv 5) (po_some (pv 10)) po_none) (pa_cons (pe_op op_cat (pe_lst (pa_cons pe_non pa_nil)) (pe_slice sl_list (pv 5) (po_some (pv 10)) po_none)) pa_nil))) (pe_callO G__law_take (hr.mono (by decide)) (by rfl) pass0 (pa_cons (pv 2) (pa_cons pe_int pa_nil))) (fun _ _ => rfl)))
      (pss_one (ps_for PassesOwn.never rfl (pi_list (pe_lst (pa_cons (pe_op op_cat (pe_op op_cat (pe_slice sl_list (pv 5) po_none (po_some (pv 10))) (pe_lst (pa_cons (pv 9) pa_nil))) (pv 11)) (pa_cons (pe_callTy call_tuple_of (by rfl) T.b_tuple PyProof.Rows.boot_tuple (pa_cons (pe_op op_cat (pe_op op_cat (pe_slice sl_list (pv 5) po_none (po_some (pv 10))) (pe_lst (pa_cons (pv 9) pa_nil))) (pv 11)) pa_nil)) pa_nil)))) (pg_name (i := 12) sclaw.nd rfl (.inl rfl)) (pss_one (ps_if (pt_cmpR (op_neD hr.units) (pe_callG G__law_refused (hr.mono (by decide)) hgd (by rfl) pass0 (pa_cons (pv 12) pa_nil)) (pe_lst (pa_cons (pe_callB (call_reprX hgd hr.units) (by rfl) T.b_repr PyProof.Rows.boot_repr (pa_cons (pv 9) pa_nil)) (pa_cons pe_bl (pa_cons pe_bl pa_nil)))) (nomark _)) (pss_one (ps_ret pe_bl)) pss_nil))))))))))))))
      (pss_cons (ps_set (i := 2) sclaw.nd rfl (.inr rfl) (pe_callO G__law_box (hr.mono (by decide)) (by rfl) pass0 (pa_cons (pe_callO G__law_cell_at (hr.mono (by decide)) (by rfl) pass0 (pa_cons (pv 0) (pa_cons pe_int pa_nil))) pa_nil)))
      (pss_cons (ps_set (i := 3) sclaw.nd rfl (.inl rfl) (pe_op op_cat (pe_lc (own := [("_law_j", 13)]) (g := gName 13) (tt := tYes) rfl sclaw.nd (pi_range1 (by rfl) T.b_range (pa_cons pe_int pa_nil)) (blkOk_by (own := [("_law_j", 13)]) (N := ["_law_script", "_law_k", "_law_box_here", "_law_long", "_law_thing", "_law_numbers", "_law_kept", "_law_due", "_law_found", "_law_bad", "_law_at", "_law_behind", "_law_handed", "_law_j"]) (sc := defScope slaw) (by decide +kernel)) (fun _ _ _ _ _ => pg_name (i := 13) sclaw.nd rfl (Or.inl rfl)) (fun _ _ _ _ _ => pts_nil) (fun _ _ _ _ _ => (pe_callO G__law_word (hr.mono (by decide)) (by rfl) pass0 (pa_cons (pv 2) pa_nil)))) (pe_lst (pa_cons (pe_callO G__law_take (hr.mono (by decide)) (by rfl) pass0 (pa_cons (pv 2) (pa_cons pe_int pa_nil))) pa_nil))))
      (pss_cons (ps_if (PW.pt (pw_or (pt_cmpR op_ne (pe_callO G_check_of (hr.mono (by decide)) (by rfl) passL (pa_cons (pv 3) pa_nil)) (pe_callO G__law_check (hr.mono (by decide)) (by rfl) pass0 (pa_cons (pv 3) pa_nil)) (nomark _)) (pw_or1 (pt_cmpR op_ne (pe_callO G_check_of (hr.mono (by decide)) (by rfl) passL (pa_cons (pe_callTy call_tuple_of (by rfl) T.b_tuple PyProof.Rows.boot_tuple (pa_cons (pv 3) pa_nil)) pa_nil)) (pe_callO G__law_check (hr.mono (by decide)) (by rfl) pass0 (pa_cons (pv 3) pa_nil)) (nomark _))))) (pss_one (ps_ret pe_bl)) pss_nil)
      (pss_cons (ps_for PassesOwn.never rfl (pi_list (pe_lst (pa_cons pe_non (pa_cons pe_int (pa_cons pe_bl (pa_cons pe_str (pa_cons pe_str (pa_cons pe_dnewK (pa_cons (pe_op op_pow pe_int pe_int) pa_nil))))))))) (pg_name (i := 4) sclaw.nd rfl (.inl rfl)) (pss_one (ps_if (pt_cmpR (op_neD hr.units) (pe_callG G__law_refused (hr.mono (by decide)) hgd (by rfl) pass0 (pa_cons (pv 4) pa_nil)) (pe_lst (pa_cons (pe_callB (call_reprX hgd hr.units) (by rfl) T.b_repr PyProof.Rows.boot_repr (pa_cons (pv 4) pa_nil)) (pa_cons pe_bl (pa_cons pe_bl pa_nil)))) (nomark _)) (pss_one (ps_ret pe_bl)) pss_nil)))
      (pss_one (ps_ret (pe_and (pe_cmpR op_eq (pe_callO G_check_of (hr.mono (by decide)) (by rfl) passL (pa_cons (pe_lst pa_nil) pa_nil)) pe_int (nomark _)) (pe_one (pe_cmpR op_eq (pe_callO G_check_of (hr.mono (by decide)) (by rfl) passL (pa_cons (pe_tup pa_nil) pa_nil)) pe_int (nomark _))))))))))), ?_⟩
    refine ⟨_, rfl, a, _, rfl, .inl ha, _, _, rfl, _, _, rfl, ?_⟩
    generalize hN : (if (if ((ns.map V.int).length : Int) < 10 then ((ns.map V.int).length : Int) else 10) > 2 then (if ((ns.map V.int).length : Int) < 10 then ((ns.map V.int).length : Int) else 10) else 2) = N
    have hN2 : 0 ≤ N ∧ N ≤ 10 := by
      rw [← hN]
      split <;> split <;> omega
    refine ⟨N, rfl, by omega, by omega, for_range (lo := 0) (n := N.toNat) (fun i σ H' => (∃ x1 x2 x3 x4 x5 x6 x7 x8 x9 x10 x11 x12 x13, σ = [some (.ref a), x1, x2, x3, x4, x5, x6, x7, x8, x9, x10, x11, x12, x13]) ∧ SqL K H' a (ns.map V.int)) ⟨⟨_, _, _, _, _, _, _, _, _, _, _, _, _, rfl⟩, ha⟩ (fun k σ H' hk hW => ?_) (fun σ H' hW => ?_)⟩
    · obtain ⟨⟨x1, x2, x3, x4, x5, x6, x7, x8, x9, x10, x11, x12, x13, rfl⟩, hs⟩ := hW
      rw [Int.zero_add]
      refine ⟨_, rfl, _, rfl, a, ns, k, rfl, hs, fun c => ⟨c, rfl, fun b H1 nb hb s1 => ?_⟩⟩
      have sb : SqB K H1 [b] a (ns.map V.int) := ((SqB.nil hs).add nb).same s1
      refine ⟨_, rfl, b, 41, rfl, hb, by decide, by decide, fun r H2 r0 r1 k1 => ?_⟩
      refine ⟨_, rfl, (by show -(2 ^ 62 : Int) ≤ r; omega), (by show r < (2 ^ 62 : Int); omega), fun D hD => ?_⟩
      have sb2 : SqB K H2 [D, b] a (ns.map V.int) := (sb.keep List.mem_cons_self k1).add hD
      have nD : D ≠ b := by
        obtain ⟨ob, eb⟩ := k1.box.some
        exact (ne_of_none eb hD).symm
      refine lc_range (lo := 0) (n := r.toNat) (fun i H' => SqB K H' [D, b] a (ns.map V.int) ∧ Box H' b ∧ ∃ acc : List Int, acc.length = i ∧ Ws acc ∧ H' D = some (.lst (acc.map V.int))) ⟨sb2.same (same_upd hD), k1.box.new hD, [], rfl, fun n hn => (by cases hn), upd_same⟩ (fun i H3 hi hP => ?_) (fun H3 hP => ?_)
      · obtain ⟨c1, c2, acc, hl, hw, hd⟩ := hP
        refine ⟨rfl, ?_⟩
        refine ⟨_, rfl, b, rfl, c2, fun v H4 hv k4 => ?_⟩
        have hd4 := k4.old _ _ nD hd
        refine ⟨acc.map V.int, hd4, (by rw [List.length_map]; exact small1000 (by omega)), ?_⟩
        refine ⟨(c1.keep (List.mem_cons_of_mem _ List.mem_cons_self) k4).wr List.mem_cons_self, ?_, acc ++ [v], by simp [hl], fun n hn => ?_, ?_⟩
        · obtain ⟨d, m, c, e⟩ := k4.box
          exact ⟨d, m, c, by rw [upd_ne nD.symm]; exact e⟩
        · rcases List.mem_append.mp hn with z | z
          · exact hw n z
          · cases List.mem_singleton.mp z
            exact hv
        · rw [upd_same, List.map_append]
          rfl
      · obtain ⟨c1, c2, acc, hl, hw, hd⟩ := hP
        have nw : Now K a b D ns acc H3 := ⟨c1.drop, c2, hd, nD⟩
        have hal : acc.length ≤ 41 := by omega
        have things : ∀ y ∈ acc.map V.int, ∃ k, ∀ H' : Hp, Thing H' y k := fun y hy => by
          obtain ⟨n, _, rfl⟩ := List.mem_map.mp hy
          exact ⟨_, fun _ => .int n⟩
        -- kept, due
        refine ⟨_, rfl, D, _, rfl, .inl (SqL.of nw.lst), fun l hl' => ?_⟩
        have nw2 := nw.new (o := .lst (acc.map V.int)) hl'
        have nl : l ≠ b := nw.ne hl'
        have el : (upd H3 l (.lst (acc.map V.int))) l = some (.lst (acc.map V.int)) := upd_same
        generalize upd H3 l (.lst (acc.map V.int)) = H4 at *
        refine ⟨_, rfl, D, acc, rfl, SqL.of nw2.lst, hw, ?_⟩
        -- the three checks
        refine ⟨_, rfl, .ref D, .lst, rfl, .lst nw2.lst, .inl ⟨D, _, rfl, .inl nw2.lst, thI _, fun ms e hm H5 s5 => ?_, fun ms b' r e hm hb' => (no_bad e hw hb').elim⟩⟩
        obtain rfl := map_int_inj e
        have nw5 := nw2.same s5
        refine ⟨_, rfl, D, _, rfl, .inl ⟨SqL.of nw5.lst, fun l2 n2 => ?_⟩⟩
        have nw6 := nw5.new (o := .tup (acc.map V.int)) n2
        refine ⟨.ref l2, .tup, rfl, .tup upd_same, .inl ⟨l2, _, rfl, .inr upd_same, thI _, fun ms e hm H7 s7 => ?_, fun ms b' r e hm hb' => (no_bad e hw hb').elim⟩⟩
        obtain rfl := map_int_inj e
        have nw7 := nw6.same s7
        refine ⟨_, rfl, .ref D, .lst, rfl, .lst nw7.lst, .inl ⟨D, _, rfl, .inl nw7.lst, thI _, fun ms e hm H8 s8 => ?_, fun ms b' r e hm hb' => (no_bad e hw hb').elim⟩⟩
        obtain rfl := map_int_inj e
        have nw8 := nw7.same s8
        have el8 : H8 l = some (.lst (acc.map V.int)) := s8 _ _ (s7 _ _ (same_upd n2 _ _ (s5 _ _ el)))
        refine ⟨(by show 3 ≤ sizeLine; decide), fun p hp => ?_⟩
        refine ⟨p, rfl, ⟨_, SqL.of upd_same⟩, for_list (K := K) (a := p) (xs := [.int (chk acc), .int (chk acc), .int (chk acc)]) (fun i σ H' => (∃ y8 y13, σ = [some (.ref a), some (.int k), some (.ref b), x3, x4, some (.ref D), some (.ref l), some (.int (chk acc)), y8, x9, x10, x11, x12, y13]) ∧ H' = upd H8 p (.lst [.int (chk acc), .int (chk acc), .int (chk acc)]))
          ⟨⟨_, _, rfl⟩, rfl⟩ (fun i σ H' _ hW => by obtain ⟨_, rfl⟩ := hW; exact SqL.of upd_same) (fun i x σ H' hi hW => ?_) (fun σ H' hW => ?_)⟩
        · obtain ⟨⟨y8, y13, rfl⟩, rfl⟩ := hW
          have ex : x = .int (chk acc) := by
            have m := List.mem_of_getElem? hi
            simpa using m
          subst ex
          refine ⟨_, rfl, _, rfl, rfl, _, rfl, iteNS rfl ?_⟩
          refine ⟨_, rfl, _, _, _, _, false, rfl, .ty _, .base (.int _), kit_ty (by decide +kernel), false, rfl, iteF ?_⟩
          exact ⟨⟨_, _, rfl⟩, rfl⟩
        · obtain ⟨⟨y8, y13, rfl⟩, rfl⟩ := hW
          have nw9 := nw8.new (o := .lst [.int (chk acc), .int (chk acc), .int (chk acc)]) hp
          have el9 := same_upd (o := .lst [.int (chk acc), .int (chk acc), .int (chk acc)]) hp _ _ el8
          generalize upd H8 p (.lst [.int (chk acc), .int (chk acc), .int (chk acc)]) = H9 at *
          have sh := shaped_ints acc
          refine ⟨_, rfl, _, rfl, _, _, .lst (SqL.of nw9.lst) (dpInts acc), .lst (SqL.of el9) (dpInts acc), sh, sh, _, rfl, ite_no (eqv_shaped sh) ?_⟩
          -- bad, at
          refine ⟨_, rfl, b, rfl, nw9.box, fun x dt kx H10 k10 dx okx nwx nex => ?_⟩
          have nw10 := nw9.keep k10
          refine ⟨_, rfl, _, rfl, D, _, rfl, .inl (SqL.of nw10.lst), _, _, rfl, rfl, ?_⟩
          rw [List.length_map]
          refine ⟨b, _, rfl, nw10.box, (by show (0 : Int) < (acc.length : Int) + 1; omega), (by show (acc.length : Int) + 1 ≤ 4294967296; omega), fun at' H11 t0 t1 k11 => ?_⟩
          obtain ⟨j, rfl⟩ := Int.eq_ofNat_of_zero_le t0
          have hj : j ≤ (acc.map V.int).length := by rw [List.length_map]; omega
          have nw11 := nw10.keep k11
          have dx11 : Dat H11 x dt kx := dx.mono fun z o e h => k11.old z o (fun zb => nex (by rw [e, zb])) h
          -- behind
          refine ⟨_, rfl, _, rfl, j, rfl, D, _, rfl, SqL.of nw11.lst, fun p1 n1 => ?_⟩
          rw [cut_from hj]
          have w1 := nw11.new (o := .lst ((acc.map V.int).drop j)) n1
          refine ⟨len_small (by show 1 ≤ 1000; decide), fun p2 n2 => ?_⟩
          have w2 := w1.new (o := .lst [.non]) n2
          refine ⟨_, rfl, _, rfl, j, rfl, D, _, rfl, SqL.of w2.lst, fun p3 n3 => ?_⟩
          rw [cut_from hj]
          have w3 := w2.new (o := .lst ((acc.map V.int).drop j)) n3
          refine ⟨p2, p3, _, _, rfl, rfl, same_upd n3 _ _ upd_same, upd_same, len_small (by simp; omega), fun p4 n4 => ?_⟩
          have w4 := w3.new (o := .lst ([V.non] ++ (acc.map V.int).drop j)) n4
          refine ⟨(by show 2 ≤ sizeLine; decide), fun p5 n5 => ?_⟩
          have w5 := w4.new (o := .lst [.ref p1, .ref p4]) n5
          refine ⟨_, rfl, b, 2, rfl, w5.box, by decide, by decide, fun r2 H12 r20 r21 k12 => ?_⟩
          have f1 : H12 p1 = some (.lst ((acc.map V.int).drop j)) := k12.old _ _ (nw11.ne n1) (same_upd n5 _ _ (same_upd n4 _ _ (same_upd n3 _ _ (same_upd n2 _ _ upd_same))))
          have f4 : H12 p4 = some (.lst ([V.non] ++ (acc.map V.int).drop j)) := k12.old _ _ (w3.ne n4) (same_upd n5 _ _ upd_same)
          have f5 : H12 p5 = some (.lst [.ref p1, .ref p4]) := k12.old _ _ (w4.ne n5) upd_same
          have nw12 := w5.keep k12
          have dx12 : Dat H12 x dt kx := dx11.mono fun z o e h => k12.old z o (fun zb => nex (by rw [e, zb])) (same_upd n5 _ _ (same_upd n4 _ _ (same_upd n3 _ _ (same_upd n2 _ _ (same_upd n1 _ _ h)))))
          obtain ⟨v, hv, ev⟩ := pickV (xs := [.ref p1, .ref p4]) r20 (by show r2 < 2; exact r21)
          refine ⟨p5, _, r2, v, rfl, rfl, SqL.of f5, ev, ?_⟩
          obtain ⟨pb, rest, rfl, hpb, hrl, hrt⟩ : ∃ pb rest, v = .ref pb ∧ H12 pb = some (.lst rest) ∧ rest.length ≤ 50 ∧ ∀ z ∈ rest, ∃ k, ∀ H' : Hp, Thing H' z k := by
            simp only [List.mem_cons, List.not_mem_nil, or_false] at hv
            rcases hv with rfl | rfl
            · exact ⟨p1, _, rfl, f1, by simp; omega, fun z hz => things z (List.mem_of_mem_drop hz)⟩
            · refine ⟨p4, _, rfl, f4, by simp; omega, fun z hz => ?_⟩
              rcases List.mem_append.mp hz with z1 | z1
              · cases List.mem_singleton.mp z1
                exact ⟨_, fun _ => .non⟩
              · exact things z (List.mem_of_mem_drop z1)
          clear f1 f4 f5 ev hv w1 w2 w3 w4 w5 k12
          -- the two rows handed in
          have eL : (acc.map V.int).take j ++ [x] ++ rest = (acc.take j).map V.int ++ x :: rest := by simp
          refine ⟨_, rfl, _, rfl, j, rfl, D, _, rfl, SqL.of nw12.lst, fun q1 m1 => ?_⟩
          rw [cut_to hj]
          have u1 := nw12.new (o := .lst ((acc.map V.int).take j)) m1
          refine ⟨_, rfl, len_small (by show 1 ≤ 1000; decide), fun q2 m2 => ?_⟩
          refine ⟨q1, q2, _, _, rfl, rfl, same_upd m2 _ _ upd_same, upd_same, len_small (by simp; omega), fun q3 m3 => ?_⟩
          have s3 : Same H12 (upd (upd (upd H12 q1 (.lst ((acc.map V.int).take j))) q2 (.lst [x])) q3 (.lst ((acc.map V.int).take j ++ [x]))) := Same.new (Same.new (same_upd m1) m2) m3
          refine ⟨_, rfl, q3, pb, _, _, rfl, rfl, upd_same, s3 _ _ hpb, len_small (by simp; omega), fun h1 m4 => ?_⟩
          rw [eL]
          have s4 := Same.new (o := .lst ((acc.take j).map V.int ++ x :: rest)) s3 m4
          have g1 : (upd (upd (upd (upd H12 q1 (.lst ((acc.map V.int).take j))) q2 (.lst [x])) q3 (.lst ((acc.map V.int).take j ++ [x]))) h1 (.lst ((acc.take j).map V.int ++ x :: rest))) h1 = some (.lst ((acc.take j).map V.int ++ x :: rest)) := upd_same
          generalize (upd (upd (upd (upd H12 q1 (.lst ((acc.map V.int).take j))) q2 (.lst [x])) q3 (.lst ((acc.map V.int).take j ++ [x]))) h1 (.lst ((acc.take j).map V.int ++ x :: rest))) = H13 at *
          have nw13 := nw12.same s4
          refine ⟨_, rfl, _, rfl, j, rfl, D, _, rfl, SqL.of nw13.lst, fun q1 m1 => ?_⟩
          rw [cut_to hj]
          refine ⟨_, rfl, len_small (by show 1 ≤ 1000; decide), fun q2 m2 => ?_⟩
          refine ⟨q1, q2, _, _, rfl, rfl, same_upd m2 _ _ upd_same, upd_same, len_small (by simp; omega), fun q3 m3 => ?_⟩
          have s5' : Same H13 (upd (upd (upd H13 q1 (.lst ((acc.map V.int).take j))) q2 (.lst [x])) q3 (.lst ((acc.map V.int).take j ++ [x]))) := Same.new (Same.new (same_upd m1) m2) m3
          refine ⟨_, rfl, q3, pb, _, _, rfl, rfl, upd_same, s5' _ _ (s4 _ _ hpb), len_small (by simp; omega), fun q4 m4 => ?_⟩
          rw [eL]
          have s6 := Same.new (o := .lst ((acc.take j).map V.int ++ x :: rest)) s5' m4
          refine ⟨q4, _, rfl, .inl ⟨SqL.of upd_same, fun h2 m5 => ?_⟩⟩
          have s7' := Same.new (o := .tup ((acc.take j).map V.int ++ x :: rest)) s6 m5
          have g2 : (upd (upd (upd (upd (upd H13 q1 (.lst ((acc.map V.int).take j))) q2 (.lst [x])) q3 (.lst ((acc.map V.int).take j ++ [x]))) q4 (.lst ((acc.take j).map V.int ++ x :: rest))) h2 (.tup ((acc.take j).map V.int ++ x :: rest))) h2 = some (.tup ((acc.take j).map V.int ++ x :: rest)) := upd_same
          generalize (upd (upd (upd (upd (upd H13 q1 (.lst ((acc.map V.int).take j))) q2 (.lst [x])) q3 (.lst ((acc.map V.int).take j ++ [x]))) q4 (.lst ((acc.take j).map V.int ++ x :: rest))) h2 (.tup ((acc.take j).map V.int ++ x :: rest))) = H14 at *
          refine ⟨(by show 2 ≤ sizeLine; decide), fun pl ml => ?_⟩
          have s15 : Same H13 (upd H14 pl (.lst [.ref h1, .ref h2])) := Same.new s7' ml
          have g1' := s15 _ _ g1
          have g2' := same_upd (o := .lst [.ref h1, .ref h2]) ml _ _ g2
          have nw15 := nw13.same s15
          have dx15 : Dat (upd H14 pl (.lst [.ref h1, .ref h2])) x dt kx := (dx12.same s4).same s15
          have gl : (upd H14 pl (.lst [.ref h1, .ref h2])) pl = some (.lst [.ref h1, .ref h2]) := upd_same
          generalize upd H14 pl (.lst [.ref h1, .ref h2]) = H15 at *
          obtain ⟨o1, o2, o3⟩ := badOk_len okx
          refine ⟨pl, rfl, ⟨_, SqL.of gl⟩, for_list (K := K) (a := pl) (xs := [.ref h1, .ref h2]) (fun i σ H' => (∃ y12, σ = [some (.ref a), some (.int k), some (.ref b), x3, x4, some (.ref D), some (.ref l), some (.int (chk acc)), y8, some x, some (.int j), some (.ref pb), y12, y13]) ∧ Same H15 H')
            ⟨⟨_, rfl⟩, Same.refl _⟩ (fun i σ H' _ hW => SqL.of (hW.2 _ _ gl)) (fun i y σ H' hi hW => ?_) (fun σ H' hW => ?_)⟩
          · obtain ⟨⟨y12, rfl⟩, sH⟩ := hW
            have hy : (y = .ref h1 ∨ y = .ref h2) := by
              have m := List.mem_of_getElem? hi
              simpa using m
            have things2 : ∀ z ∈ rest, ∃ k, Thing H' z k := fun z hz => by
              obtain ⟨kz, tz⟩ := hrt z hz
              exact ⟨kz, tz H'⟩
            have w8 : Ws (acc.take j) := fun n hn => hw n (List.mem_of_mem_take hn)
            have fin : ∀ (p : Addr) (H'' : Hp), Same H' H'' → H'' p = some (.lst [.str dt.shown, .bl false, .bl true]) → Same H15 H'' := fun p H'' s _ => sH.trans s
            obtain ⟨hh, rfl, thh, hhl⟩ : ∃ hh, y = .ref hh ∧ (∃ k, Thing H' (.ref hh) k) ∧ (H' hh = some (.lst ((acc.take j).map V.int ++ x :: rest)) ∨ H' hh = some (.tup ((acc.take j).map V.int ++ x :: rest))) := by
              rcases hy with rfl | rfl
              · exact ⟨h1, rfl, ⟨_, .lst (sH _ _ g1')⟩, .inl (sH _ _ g1')⟩
              · exact ⟨h2, rfl, ⟨_, .tup (sH _ _ g2')⟩, .inr (sH _ _ g2')⟩
            obtain ⟨kh, th⟩ := thh
            refine ⟨_, rfl, .ref hh, kh, x, dt, kx, rfl, th, dx15.same sH, okx, .inl ⟨hh, _, rest, rfl, nwx, hhl, things2, w8⟩, fun p H16 s16 hp16 => ?_⟩
            refine ⟨_, rfl, x, dt, kx, rfl, (dx15.same sH).same s16, o1, o2, (by show 3 ≤ sizeLine; decide), fun p' hp' => ?_⟩
            have sh := shaped_ref o3
            refine ⟨_, _, dp_ref (same_upd hp' _ _ hp16), dp_ref upd_same, sh, sh, _, rfl, ite_no (eqv_shaped sh) ?_⟩
            exact ⟨⟨_, rfl⟩, Same.new (sH.trans s16) hp'⟩
          · obtain ⟨⟨y12, rfl⟩, sH⟩ := hW
            exact ⟨⟨_, _, _, _, _, _, _, _, _, _, _, _, _, rfl⟩, (nw15.same sH).scr.1⟩
    · obtain ⟨⟨x1, x2, x3, x4, x5, x6, x7, x8, x9, x10, x11, x12, x13, rfl⟩, hs⟩ := hW
      refine ⟨_, rfl, a, ns, 0, rfl, hs, fun c => ⟨c, rfl, fun b H1 nb hb s1 => ?_⟩⟩
      have sb : SqB K H1 [b] a (ns.map V.int) := ((SqB.nil hs).add nb).same s1
      refine ⟨399, rfl, by decide, by decide, fun D hD => ?_⟩
      have sb2 : SqB K H1 [D, b] a (ns.map V.int) := sb.add hD
      have nD : D ≠ b := by
        obtain ⟨ob, eb⟩ := hb.some
        exact (ne_of_none eb hD).symm
      refine lc_range (lo := 0) (n := 399) (fun i H' => SqB K H' [D, b] a (ns.map V.int) ∧ Box H' b ∧ ∃ acc : List Int, acc.length = i ∧ Ws acc ∧ H' D = some (.lst (acc.map V.int))) ⟨sb2.same (same_upd hD), hb.new hD, [], rfl, fun n hn => (by cases hn), upd_same⟩ (fun i H3 hi hP => ?_) (fun H3 hP => ?_)
      · obtain ⟨c1, c2, acc, hl, hw, hd⟩ := hP
        refine ⟨rfl, ?_⟩
        refine ⟨_, rfl, b, rfl, c2, fun v H4 hv k4 => ?_⟩
        have hd4 := k4.old _ _ nD hd
        refine ⟨acc.map V.int, hd4, (by rw [List.length_map]; exact small1000 (by omega)), ?_⟩
        refine ⟨(c1.keep (List.mem_cons_of_mem _ List.mem_cons_self) k4).wr List.mem_cons_self, ?_, acc ++ [v], by simp [hl], fun n hn => ?_, ?_⟩
        · obtain ⟨d, m, c, e⟩ := k4.box
          exact ⟨d, m, c, by rw [upd_ne nD.symm]; exact e⟩
        · rcases List.mem_append.mp hn with z | z
          · exact hw n z
          · cases List.mem_singleton.mp z
            exact hv
        · rw [upd_same, List.map_append]
          rfl
      · obtain ⟨c1, c2, acc0, hl, hw0, hd⟩ := hP
        have nw : Now K a b D ns acc0 H3 := ⟨c1.drop, c2, hd, nD⟩
        refine ⟨_, rfl, b, 4294967296, rfl, c2, by decide, by decide, fun r H4 r0 r1 k4 => ?_⟩
        have nw4 := nw.keep k4
        refine ⟨len_small (by show 1 ≤ 1000; decide), fun p1 n1 => ?_⟩
        have nw5 := nw4.new (o := .lst [.int r]) n1
        refine ⟨D, p1, _, _, rfl, rfl, nw5.lst, upd_same, len_small (by simp; omega), fun lo n2 => ?_⟩
        have eL : acc0.map V.int ++ [.int r] = (acc0 ++ [r]).map V.int := by simp
        rw [eL]
        have hw : Ws (acc0 ++ [r]) := fun n hn => by
          rcases List.mem_append.mp hn with z | z
          · exact hw0 n z
          · cases List.mem_singleton.mp z
            exact ⟨r0, r1⟩
        generalize acc0 ++ [r] = acc at *
        have f1 : (upd (upd H4 p1 (.lst [.int r])) lo (.lst (acc.map V.int))) lo = some (.lst (acc.map V.int)) := upd_same
        generalize (upd (upd H4 p1 (.lst [.int r])) lo (.lst (acc.map V.int))) = H5 at *
        refine ⟨_, rfl, .ref lo, .lst, rfl, .lst f1, .inl ⟨lo, _, rfl, .inl f1, thI _, fun ms e hm H6 s6 => ?_, fun ms b' r e hm hb' => (no_bad e hw hb').elim⟩⟩
        obtain rfl := map_int_inj e
        refine ⟨_, rfl, lo, acc, rfl, SqL.of (s6 _ _ f1), hw, rfl, _, rfl, iteNS rfl ?_⟩
        refine ⟨_, rfl, lo, _, rfl, .inl ⟨SqL.of (s6 _ _ f1), fun l2 n3 => ?_⟩⟩
        refine ⟨.ref l2, .tup, rfl, .tup upd_same, .inl ⟨l2, _, rfl, .inr upd_same, thI _, fun ms e hm H7 s7 => ?_, fun ms b' r e hm hb' => (no_bad e hw hb').elim⟩⟩
        obtain rfl := map_int_inj e
        have f7 := s7 _ _ (same_upd (o := .tup (acc.map V.int)) n3 _ _ (s6 _ _ f1))
        refine ⟨_, rfl, lo, acc, rfl, SqL.of f7, hw, rfl, _, rfl, iteNS rfl ?_⟩
        -- things that are no rows
        refine fun pd nd => ?_
        refine ⟨10, 29, rfl, rfl, ⟨by decide, by decide, by decide⟩, (by show 7 ≤ sizeLine; decide), fun pl ml => ?_⟩
        have gd := same_upd (o := .lst [.non, .int 7, .bl true, .str "", .str "12", .ref pd, .int (10 ^ (29 : Int).toNat)]) ml _ _ (upd_same (H := H7) (a := pd) (o := .dK []))
        have gl : (upd (upd H7 pd (.dK [])) pl (.lst [.non, .int 7, .bl true, .str "", .str "12", .ref pd, .int (10 ^ (29 : Int).toNat)])) pl = some (.lst [.non, .int 7, .bl true, .str "", .str "12", .ref pd, .int (10 ^ (29 : Int).toNat)]) := upd_same
        generalize (upd (upd H7 pd (.dK [])) pl (.lst [.non, .int 7, .bl true, .str "", .str "12", .ref pd, .int (10 ^ (29 : Int).toNat)])) = H8 at *
        refine ⟨pl, rfl, ⟨_, SqL.of gl⟩, for_list (K := K) (a := pl) (xs := [.non, .int 7, .bl true, .str "", .str "12", .ref pd, .int (10 ^ (29 : Int).toNat)]) (fun i σ H' => (∃ y0 y1 y2 y3 y4 y5 y6 y7 y8 y9 y10 y11 y12 y13, σ = [y0, y1, y2, y3, y4, y5, y6, y7, y8, y9, y10, y11, y12, y13]) ∧ Same H8 H')
          ⟨⟨_, _, _, _, _, _, _, _, _, _, _, _, _, _, rfl⟩, Same.refl _⟩ (fun i σ H' _ hW => SqL.of (hW.2 _ _ gl)) (fun i y σ H' hi hW => ?_) (fun σ H' hW => ?_)⟩
        · obtain ⟨⟨y0, y1, y2, y3, y4, y5, y6, y7, y8, y9, y10, y11, y12, y13, rfl⟩, sH⟩ := hW
          obtain ⟨dt, ky, dy, oky, k1, k2⟩ : ∃ dt ky, Dat H' y dt ky ∧ badOk dt = true ∧ ky.isList = false ∧ ky.isTup = false := by
            have m := List.mem_of_getElem? hi
            simp only [List.mem_cons, List.not_mem_nil, or_false] at m
            rcases m with rfl | rfl | rfl | rfl | rfl | rfl | rfl
            · exact ⟨.none, _, .non, by decide +kernel, rfl, rfl⟩
            · exact ⟨.int 7, _, .int _, by decide +kernel, rfl, rfl⟩
            · exact ⟨.bool true, _, .bl _, by decide +kernel, rfl, rfl⟩
            · exact ⟨.str "", _, .str _, by decide +kernel, rfl, rfl⟩
            · exact ⟨.str "12", _, .str _, by decide +kernel, rfl, rfl⟩
            · exact ⟨.dict [], _, .dic (sH _ _ gd), by decide +kernel, rfl, rfl⟩
            · exact ⟨.int (10 ^ 29), _, .int _, by decide +kernel, rfl, rfl⟩
          obtain ⟨o1, o2, o3⟩ := badOk_len oky
          refine ⟨_, rfl, y, ky, y, dt, ky, rfl, dy.thing, dy, oky, .inr ⟨rfl, k1, k2⟩, fun p H16 s16 hp16 => ?_⟩
          refine ⟨_, rfl, y, dt, ky, rfl, dy.same s16, o1, o2, (by show 3 ≤ sizeLine; decide), fun p' hp' => ?_⟩
          have sh := shaped_ref o3
          refine ⟨_, _, dp_ref (same_upd hp' _ _ hp16), dp_ref upd_same, sh, sh, _, rfl, ite_no (eqv_shaped sh) ?_⟩
          exact ⟨⟨_, _, _, _, _, _, _, _, _, _, _, _, _, _, rfl⟩, Same.new (sH.trans s16) hp'⟩
        · obtain ⟨⟨y0, y1, y2, y3, y4, y5, y6, y7, y8, y9, y10, y11, y12, y13, rfl⟩, sH⟩ := hW
          refine ⟨Nat.zero_le _, fun e1 ne1 => ⟨.ref e1, .lst, rfl, .lst upd_same, .inl ⟨e1, _, rfl, .inl upd_same, fun y hy => (by cases hy), fun ms e hm H9 s9 => ?_, fun ms b' r e hm hb' => (no_bad (ns := []) e (fun n hn => (by cases hn)) hb').elim⟩⟩⟩
          obtain rfl := map_int_inj (xs := []) e
          refine ⟨rfl, true, rfl, iteT ?_⟩
          refine ⟨Nat.zero_le _, fun e2 ne2 => ⟨.ref e2, .tup, rfl, .tup upd_same, .inl ⟨e2, _, rfl, .inr upd_same, fun y hy => (by cases hy), fun ms e hm H10 s10 => ?_, fun ms b' r e hm hb' => (no_bad (ns := []) e (fun n hn => (by cases hn)) hb').elim⟩⟩⟩
          obtain rfl := map_int_inj (xs := []) e
          exact ⟨rfl, q _⟩
end
/-! ### the end -/
theorem tx_mk {K : PySem.W.Frag} {h : Heap} {mg : Str → Option Value} (X : K.In h) (G : h.Ns mainGlobals mg)
    (b_bool : PySem.W.nsIn K mainGlobals "bool" = some none)
    (b_int : PySem.W.nsIn K mainGlobals "int" = some none)
    (b_isinstance : PySem.W.nsIn K mainGlobals "isinstance" = some none)
    (b_len : PySem.W.nsIn K mainGlobals "len" = some none)
    (b_list : PySem.W.nsIn K mainGlobals "list" = some none)
    (b_max : PySem.W.nsIn K mainGlobals "max" = some none)
    (b_min : PySem.W.nsIn K mainGlobals "min" = some none)
    (b_range : PySem.W.nsIn K mainGlobals "range" = some none)
    (b_repr : PySem.W.nsIn K mainGlobals "repr" = some none)
    (b_tuple : PySem.W.nsIn K mainGlobals "tuple" = some none)
    {t_BEGIN : Nat} (c_BEGIN : PySem.W.nsIn K mainGlobals "BEGIN" = some (some (.int 2166136261 t_BEGIN)))
    {t_TIMES : Nat} (c_TIMES : PySem.W.nsIn K mainGlobals "TIMES" = some (some (.int 2654435769 t_TIMES)))
    {t_MORE : Nat} (c_MORE : PySem.W.nsIn K mainGlobals "MORE" = some (some (.int 40503 t_MORE)))
    {t_MOST : Nat} (c_MOST : PySem.W.nsIn K mainGlobals "MOST" = some (some (.int 4294967295 t_MOST)))
    {t_FAR : Nat} (c_FAR : PySem.W.nsIn K mainGlobals "FAR" = some (some (.int 15 t_FAR))) : Tx mg :=
  { b_bool := PySem.W.mg_none_of X G b_bool, b_int := PySem.W.mg_none_of X G b_int, b_isinstance := PySem.W.mg_none_of X G b_isinstance, b_len := PySem.W.mg_none_of X G b_len, b_list := PySem.W.mg_none_of X G b_list, b_max := PySem.W.mg_none_of X G b_max, b_min := PySem.W.mg_none_of X G b_min, b_range := PySem.W.mg_none_of X G b_range, b_repr := PySem.W.mg_none_of X G b_repr, b_tuple := PySem.W.mg_none_of X G b_tuple, c_BEGIN := ⟨_, PySem.W.mg_of X G c_BEGIN⟩, c_TIMES := ⟨_, PySem.W.mg_of X G c_TIMES⟩, c_MORE := ⟨_, PySem.W.mg_of X G c_MORE⟩, c_MOST := ⟨_, PySem.W.mg_of X G c_MOST⟩, c_FAR := ⟨_, PySem.W.mg_of X G c_FAR⟩ }
theorem all_mk {l : PySem.W.OpenLaw} {w : World} {K : PySem.W.Frag} {h : Heap} {mg : Str → Option Value} {fa L C_NoNumber CP : Addr} (X : K.In h) (G : h.Ns mainGlobals mg) (hfa : mg "law" = some (.ref fa)) (T : Tx mg) (B : BaseC K mg L)
    (e_NoNumber : ErrAt K "NoNumber" "found" "NoNumber.__init__" sIni C_NoNumber L)
    (aP : PySem.W.nsIn K mainGlobals "NoPage" = some (some (.ref CP)))
    (iP : PySem.W.kitOne K (.ref C_NoNumber) (.ref CP) = some false)
    (d_is_whole : At K "is_whole" sis_whole)
    (d_is_within : At K "is_within" sis_within)
    (d_check_of : At K "check_of" scheck_of)
    (d__law_cell_at : At K "_law_cell_at" s_law_cell_at)
    (d__law_box : At K "_law_box" s_law_box)
    (d__law_take : At K "_law_take" s_law_take)
    (d__law_crossed : At K "_law_crossed" s_law_crossed)
    (d__law_check : At K "_law_check" s_law_check)
    (d__law_word : At K "_law_word" s_law_word)
    (d__law_refused : At K "_law_refused" s_law_refused)
    (d__law_no_word : At K "_law_no_word" s_law_no_word)
    (d_law : At K "law" slaw) :
    ∃ fd : FuncData, (∀ (s : Shared) (v : Value), BindsTo s fd ⟨[v], []⟩ [("_law_script", v)]) ∧ ∀ base : Heap, K.In base → base.Ns mainGlobals mg → FnG l.prog w K mg base CX0 6 fa fd ["_law_script"] (spLaw K) := by
  obtain ⟨f, fd, a, F⟩ := d_law.ex
  have e := hfa.symm.trans (PySem.W.mg_of X G a)
  cases e
  have F' := F
  obtain ⟨oc, od, kV, doc, pm, an, cdv, ct, osl, rfl, lk, hcd⟩ := F'.ex
  refine ⟨PySem.W.fnOf "law" "law" (defArgs slaw) (defBody slaw) (defScope slaw) .none kV doc pm an cdv ct, fun s v => .of_eq rfl, fun base _ _ => ?_⟩
  have E_NoNumber : ErrC l.prog w K mg base "NoNumber" "found" C_NoNumber := e_NoNumber.mk' X G (fun _ _ _ _ _ _ us hl => match us, hl with | [_, _], _ => rfl) fun _ _ F => ok_ini B e_NoNumber.oex e_NoNumber.noF F
  have g_is_whole : Ok l.prog w K mg base CX0 "is_whole" 1 ["thing"] spWhole := d_is_whole.ok X G (fun _ _ _ _ _ _ us hl => match us, hl with | [_], _ => rfl) fun _ _ F => ok_whole T F
  have g_is_within : Ok l.prog w K mg base CX0 "is_within" 2 ["thing", "low", "high"] spWithin := d_is_within.ok X G (fun _ _ _ _ _ _ us hl => match us, hl with | [_, _, _], _ => rfl) fun _ _ F => ok_within T g_is_whole F
  have g_check_of : Ok l.prog w K mg base (L2.CX l.prog w) "check_of" 4 ["numbers"] (spCheck C_NoNumber) := d_check_of.ok X G (fun _ _ _ _ _ _ us hl => match us, hl with | [_], _ => rfl) fun _ _ F => ok_check T E_NoNumber g_is_within F
  have g__law_cell_at : Ok l.prog w K mg base CX0 "_law_cell_at" 1 ["_law_script", "_law_k"] (spCell K) := d__law_cell_at.ok X G (fun _ _ _ _ _ _ us hl => match us, hl with | [_, _], _ => rfl) fun _ _ F => ok_cell T F
  have g__law_box : Ok l.prog w K mg base CX0 "_law_box" 1 ["_law_cell"] spBox := d__law_box.ok X G (fun _ _ _ _ _ _ us hl => match us, hl with | [_], _ => rfl) fun _ _ F => ok_box T F
  have g__law_take : Ok l.prog w K mg base CX0 "_law_take" 1 ["_law_box_here", "_law_many"] spTake := d__law_take.ok X G (fun _ _ _ _ _ _ us hl => match us, hl with | [_, _], _ => rfl) fun _ _ F => ok_take T F
  have g__law_crossed : Ok l.prog w K mg base CX0 "_law_crossed" 1 ["_law_one", "_law_other"] spCrossed := d__law_crossed.ok X G (fun _ _ _ _ _ _ us hl => match us, hl with | [_, _], _ => rfl) fun _ _ F => ok_crossed T F
  have g__law_check : Ok l.prog w K mg base CX0 "_law_check" 2 ["_law_numbers"] (spLCheck K) := d__law_check.ok X G (fun _ _ _ _ _ _ us hl => match us, hl with | [_], _ => rfl) fun _ _ F => ok_lcheck T g__law_crossed F
  have g__law_word : Ok l.prog w K mg base CX0 "_law_word" 2 ["_law_box_here"] spWord := d__law_word.ok X G (fun _ _ _ _ _ _ us hl => match us, hl with | [_], _ => rfl) fun _ _ F => ok_word T g__law_take F
  have g__law_refused : OkG l.prog w K mg base CX0 "_law_refused" 5 ["_law_thing"] spRefused := d__law_refused.okG X G (fun _ _ _ _ _ _ us hl => match us, hl with | [_], _ => rfl) fun _ _ F => ok_refused T E_NoNumber (PySem.W.mg_of X G aP) B.gL iP e_NoNumber.lo g_check_of F
  have g__law_no_word : Ok l.prog w K mg base CX0 "_law_no_word" 2 ["_law_box_here"] spNoWord := d__law_no_word.ok X G (fun _ _ _ _ _ _ us hl => match us, hl with | [_], _ => rfl) fun _ _ F => ok_noword T g__law_take F
  exact ok_law T g_check_of g__law_cell_at g__law_box g__law_take g__law_word g__law_check g__law_no_word g__law_refused F
end My
open PySem PySem.W PyProof.Rows
set_option maxHeartbeats 0 in
theorem PySem.Challenge.cw_leastlore_k01_checks_told_holds : PySem.Challenge.rw_leastlore_k01_checks_told.Holds := by
  w_on; o_law; k_head; (case hw => w_witness2)
  k_fill
  refine My.walk_ofG (l := PySem.Challenge.rw_leastlore_k01_checks_told) (n := 63) (k := 6) (x := "_law_script") (CX := fun _ => L2.CX0) (sp := fun w => My.spLaw _) rfl (by decide) rfl ⟨rfl, by decide, by decide⟩ (fun w h Y => PySem.W.kIn_of Y) ?F (fun _ _ a ns hl _ _ hS => ⟨a, ns, rfl, hS, hl, fun _ => rfl⟩) (fun _ _ _ _ _ h => h)
  case F =>
    intro w mg fa h KX G hmg
    refine' My.all_mk KX G hmg ?T ?B ?e_NoNumber ?f0 ?f1 ?d_is_whole ?d_is_within ?d_check_of ?d__law_cell_at ?d__law_box ?d__law_take ?d__law_crossed ?d__law_check ?d__law_word ?d__law_refused ?d__law_no_word ?d_law
    (case T =>
      refine' My.tx_mk KX G ?b_bool ?b_int ?b_isinstance ?b_len ?b_list ?b_max ?b_min ?b_range ?b_repr ?b_tuple ?c_BEGIN ?c_TIMES ?c_MORE ?c_MOST ?c_FAR
      (case b_bool => k_is)
      (case b_int => k_is)
      (case b_isinstance => k_is)
      (case b_len => k_is)
      (case b_list => k_is)
      (case b_max => k_is)
      (case b_min => k_is)
      (case b_range => k_is)
      (case b_repr => k_is)
      (case b_tuple => k_is)
      (case c_BEGIN => k_is)
      (case c_TIMES => k_is)
      (case c_MORE => k_is)
      (case c_MOST => k_is)
      (case c_FAR => k_is))
    (case B => refine' My.baseC_mk KX G ?a ?rd ?ga ?vI; (case a => k_is); (case rd => k_is); (case ga => k_is); (case vI => k_is))
    (case e_NoNumber =>
      refine' My.errAt_mk ?a ?xL ?i ?l ?c ?k ?tI ?sa ?ga ?gg ?noF ?kC ?eC ?tC ?hC ?iC ?sC ?ha ?hm ?hn ?ht ?lo
      (case a => k_is)
      (case xL => k_is)
      (case i => k_is)
      (case l => k_is)
      (case c => k_is)
      (case k => k_is)
      (case tI => k_is)
      (case sa => k_is)
      (case ga => k_is)
      (case gg => k_is)
      (case noF => k_is)
      (case kC => k_is)
      (case eC => k_is)
      (case tC => k_is)
      (case hC => k_is)
      (case iC => k_is)
      (case sC => first | k_is | rfl)
      (case ha => k_is)
      (case hm => k_is)
      (case hn => first | k_is | rfl)
      (case ht => first | k_is | rfl)
      (case lo => first | k_is | rfl))
    (case f0 => first | k_is | rfl)
    (case f1 => first | k_is | rfl)
    (case d_is_whole => refine' My.at_mk ?a ?l ?c ?k; (case a => k_is); (case l => k_is); (case c => k_is); (case k => k_is))
    (case d_is_within => refine' My.at_mk ?a ?l ?c ?k; (case a => k_is); (case l => k_is); (case c => k_is); (case k => k_is))
    (case d_check_of => refine' My.at_mk ?a ?l ?c ?k; (case a => k_is); (case l => k_is); (case c => k_is); (case k => k_is))
    (case d__law_cell_at => refine' My.at_mk ?a ?l ?c ?k; (case a => k_is); (case l => k_is); (case c => k_is); (case k => k_is))
    (case d__law_box => refine' My.at_mk ?a ?l ?c ?k; (case a => k_is); (case l => k_is); (case c => k_is); (case k => k_is))
    (case d__law_take => refine' My.at_mk ?a ?l ?c ?k; (case a => k_is); (case l => k_is); (case c => k_is); (case k => k_is))
    (case d__law_crossed => refine' My.at_mk ?a ?l ?c ?k; (case a => k_is); (case l => k_is); (case c => k_is); (case k => k_is))
    (case d__law_check => refine' My.at_mk ?a ?l ?c ?k; (case a => k_is); (case l => k_is); (case c => k_is); (case k => k_is))
    (case d__law_word => refine' My.at_mk ?a ?l ?c ?k; (case a => k_is); (case l => k_is); (case c => k_is); (case k => k_is))
    (case d__law_refused => refine' My.at_mk ?a ?l ?c ?k; (case a => k_is); (case l => k_is); (case c => k_is); (case k => k_is))
    (case d__law_no_word => refine' My.at_mk ?a ?l ?c ?k; (case a => k_is); (case l => k_is); (case c => k_is); (case k => k_is))
    (case d_law => refine' My.at_mk ?a ?l ?c ?k; (case a => k_is); (case l => k_is); (case c => k_is); (case k => k_is))
