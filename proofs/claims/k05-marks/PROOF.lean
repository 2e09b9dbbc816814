import PyProof.Rows.All
import Wide.All
import OpenK.AllK
import Wide.FinOn
import HandS.ForMost
import HandS.Wide
import HandS.Style
import HandS.EndBits
import PyProof.ReprRoads
import PyProof.StrBlock2
import PySem.Challenge.RW_saidatonce_k05_marks_cut_and_joined
set_option Elab.async false
set_option linter.all false
set_option maxRecDepth 100000
set_option maxHeartbeats 4000000
namespace Sd
open PySem PySem.Spec PyProof.Rows L2
/-! ### rules that the layer lacks -/
section
variable {X : Cx}
/-- repr of data without dicts, where no repr runs already -/
def rRepr (K : PySem.W.Frag) : List V → Hp → VK → Prop := fun xs H Q =>
  ∃ (a : Addr) (d : PyData), xs = [.ref a] ∧ Dp K H (.ref a) d ∧ d.showable = true ∧ d.hasDict = false ∧
    d.depth ≤ 8 ∧ d.shown.length ≤ sizeLine ∧ Q (.str d.shown) H
theorem call_repr (hg : X.A.guards = some []) (hu : X.A.units + 64 < cLine) :
    CallR X (.builtin "repr") (rRepr X.K) := by
  rintro pins s σ H xs us Q I rv ⟨a, d, rfl, hd, hs, hn, hp, hz, q⟩
  cases rv with
  | cons h1 h2 =>
    cases h2
    obtain ⟨as, rd⟩ := Dp.reads I d _ _ hd h1
    cases h1
    exact repr_of_reads' rd hs (PyData.noDict_hsm hn) hg (by omega) (fun _ _ e => e)
      (fun h' u tk hk => ⟨.str d.shown, H, I.kept (h' := h') (t' := tk) hk, ⟨u, rfl⟩, q⟩) hz
/-- a text, so many times -/
def rMulS : R2 := fun x y H Q => ∃ (z : Str) (n : Int), x = .str z ∧ y = .int n ∧ MulOk z n ∧ Q (.str (Txt.mul z n)) H
theorem op_mulS : OpR X (binaryOp .Mult) rMulS := by
  rintro pins s σ H x y v u Q I rx ry ⟨z, n, rfl, rfl, hz, q⟩
  obtain ⟨t1, rfl⟩ := rx
  obtain ⟨t2, rfl⟩ := ry
  exact SB.mul hz fun t' k => ⟨.str (Txt.mul z n), H, I.tok k, ⟨t', rfl⟩, q⟩
end
/-! ### defs that run where no repr is under way -/
structure FnG (P : Program) (w : World) (K : PySem.W.Frag) (mg : Str → Option Value) (base : Heap)
    (k : Nat) (f : Addr) (fd : FuncData) (ps : List Str) (sp : Sp) : Prop where
  len : ∀ vs H Q E, sp vs H Q E → vs.length = ps.length
  go : ∀ (A : Around) (outer : List Env) (s : Shared) (H : Hp) (args : Args) (us : List Value) (vs : List V)
    (Q : VK) (E : XK), A.guards = some [] → Room k A → Env0 P w K mg base A outer s H →
    BindsTo s fd args (ps.zip us) → Vals vs us → sp vs H Q E →
    codeAny (model P w) A (.call (.ref f) args) (CR CX0 outer P w H s Q E) s
theorem FnOk.g {P : Program} {w : World} {K : PySem.W.Frag} {mg : Str → Option Value} {base : Heap} {k : Nat}
    {f : Addr} {fd : FuncData} {ps : List Str} {sp : Sp} (F : FnOk P w K mg base CX0 k f fd ps sp) :
    FnG P w K mg base k f fd ps sp :=
  ⟨F.len, fun A outer s H args us vs Q E _ hr e0 hb r h => F.run A outer s H args us vs Q E hr e0 hb r h⟩
section
variable {P : Program} {w : World} {K : PySem.W.Frag} {mg : Str → Option Value} {base : Heap}
theorem fn_g {x qual : Str} {st : Stmt} {f : Addr} {fd : FuncData} {N ps : List Str} {k : Nat} {sp : Sp}
    (F : Fun K x qual st f fd) (S : FnScope N ps (defScope st)) (len : ∀ vs H Q E, sp vs H Q E → vs.length = ps.length)
    (hbody : ∀ (cdv : Value) (A : Around) (outer : List Env) (s : Shared) (H : Hp) (vs : List V) (Q : VK) (E : XK),
      A.guards = some [] → Room k (A.deeper (envOfC qual (defScope st) s.heap.objs.size f cdv)) → sp vs H Q E →
      ∃ t, PSs (cxOf CX0 P w K mg base N qual (defScope st) f cdv A outer s H E).nox (defBody st) t ∧
        t { nx := fun _ H' => Q .non H', rt := Q } (start N vs) H) :
    FnG P w K mg base (k + 1) f fd ps sp := by
  obtain ⟨oc, od, kV, doc, pm, an, cdv, ct, osl, rfl, lk, hcd⟩ := F.ex
  refine ⟨len, ?_⟩
  intro A outer s H args us vs Q E hg hr e0 hb rv hsp
  have keepB : ∀ b o, base.get? b = some o → s.heap.get? b = some o := fun b o e => (e0.bs b o e).1
  have inS : K.In s.heap := e0.mod.kin.keeps keepB
  have nolim : s.heap.NoLimit := e0.mod.nolimit.keeps keepB
  refine codeAny_call_function hr.depth (inS _ _ lk) rfl S.co S.gen rfl (PySem.W.codeRec_of inS hcd) (hb _ _ _ _ ?_)
  have kinds : ∀ y ∈ ps.zip us, (defScope st).names.lookup y.1 = some .local ∨ ((defScope st).names.lookup y.1 = some .cell ∧
      ((cellsFrom (s.heap.objs.size + 1) (defScope st).names []).lookup y.1).isSome = true) := by
    rintro ⟨n, v⟩ hy
    cases S.par n (List.of_mem_zip hy).1 with
    | inl q => exact Or.inl q
    | inr q => exact Or.inr ⟨q, PySem.W.cellsFrom_some _ _ _ (Or.inl q)⟩
  refine wpAny_newFunctionEnv_cells S.kind kinds ?_
  rintro env rfl s1 ic
  obtain ⟨t, ht, hq⟩ := hbody cdv A outer s H vs Q E hg (hr.deeper _) hsp
  have J0 := inv_start (CX := CX0) (E := E) (P := P) (w := w) (mg := mg) (cd := cdv) (f := f) S hr.hd e0 (len _ _ _ _ hsp) rv ic
  refine ⟨nolim.keeps ic.toInCall.keep, codeAny_func (wpAny_mono (ht.nox.run [] s1 (start N vs) H _ J0 hq) ?_ fun e s' z => z)⟩
  intro fl s' hs
  cases fl with
  | next =>
    obtain ⟨σ', H', J, q⟩ := hs
    exact ⟨V.non, H', J.os, J.bare, J.base, J.hok, rfl, q⟩
  | ret u =>
    obtain ⟨v, σ', H', J, rv', q⟩ := hs
    exact ⟨v, H', J.os, J.bare, J.base, J.hok, rv', q⟩
  | brk =>
    obtain ⟨_, _, _, q⟩ := hs
    cases q
  | cont =>
    obtain ⟨_, _, _, q⟩ := hs
    cases q
end
section
variable {X : Cx} {k : Nat} {f : Addr} {fd : FuncData} {ps : List Str} {sp : Sp} {E : XK} {x : Str} {p pos : Pos} {e : Expr} {es : List Expr} {t : TA}
/-- such a def, called by its name -/
theorem pe_callG (F : FnG X.prog X.w X.K X.mg X.base k f fd ps sp) (hg : X.A.guards = some []) (hr : Room k X.A) (hgl : Gl X x)
    (hm : X.mg x = some (.ref f)) (hk : PySem.W.keepIn X.K (.ref f) = true) (hb : Binds X.K fd ps []) (ha : PA X (e :: es) t)
    (hdb : (x == ("__debug__" : Str)) = false := by decide) (he : starEach (e :: es) X.env = (false, eval e X.env) :: starEach es X.env := by rfl)
    (hpl : (backTo pos (starEach es X.env)).any (·.1) = false := by rfl) :
    PE X (.Call (.Name x p) (e :: es) [] pos) (tCall sp [] E t) := by
  constructor
  intro pins s σ H Q I h
  refine wpAny_Call_Name_kw (ld_glob I hgl hm (PySem.W.callWith_K (h₀ := X.base) I.ok.mod.kin hk ?_ he hpl) hdb)
  refine thn (ha.run pos pins s σ H _ I h) ?_
  rintro us s1 ⟨vs, H1, I1, r, q⟩
  refine ⟨I1.kIn, wpAny_call (codeAny_mono (F.go X.A X.stack s1 H1 ⟨us, []⟩ (us ++ []) (vs ++ []) Q E hg hr I1.env0
    (hb s1 us I1.kIn ?_) (r.append .nil) q) ?_)⟩
  · rw [← (r.append Paired.nil).length]
    exact F.len _ _ _ _ q
  · intro res s' hq
    cases res with
    | error e => cases hq
    | ok fl => cases fl with
      | ret u => exact I1.after hq
      | next => cases hq
      | brk => cases hq
      | cont => cases hq
end
end Sd

namespace Sd
open PySem PySem.Spec PyProof.Rows L2
/-! ### the end of a law whose defs ask for repr -/
/-- the script's own object -/
abbrev scr (vs : List Value) : Obj := { cls := .type "list", data := .seq vs.toArray }
/-- what is tracked when the law begins: at most the script -/
structure Begin (K : PySem.W.Frag) (H : Hp) (a : Addr) (vs : List Value) (ns : List Int) : Prop where
  seq : SqL K H a (ns.map V.int)
  one : ∀ b, H b = none ∨ (b = a ∧ H b = some (.frz (scr vs) (.lst (ns.map V.int))) ∧ K.lookup a = none)
theorem begin_ex {K : PySem.W.Frag} {h : Heap} {a : Addr} {vs : List Value} {ns : List Int} (hK : K.In h) (ha : h.get? a = some (scr vs))
    (hi : IntsAre vs ns) (hl : ns.length ≤ sizeLine) : ∃ H, Begin K H a vs ns := by
  cases e : K.lookup a with
  | some o =>
    refine ⟨fun _ => none, ?_, fun b => Or.inl rfl⟩
    obtain rfl : o = scr vs := Option.some.inj ((hK a o e).symm.trans ha)
    exact Or.inr ⟨scr vs, vs.toArray, _, e, rfl, rfl, rfl, by rw [List.size_toArray, hi.length]; exact hl, by simpa using vals_ints hi⟩
  | none =>
    refine ⟨upd (fun _ => none) a (.frz (scr vs) (.lst (ns.map V.int))), Or.inl (Or.inr ⟨scr vs, upd_same⟩), fun b => ?_⟩
    by_cases eb : b = a
    · exact Or.inr ⟨eb, by rw [eb, upd_same], e⟩
    · exact Or.inl (upd_ne eb)
theorem law_g {P : Program} {w : World} {K : PySem.W.Frag} {mg mb : Str → Option Value} {k : Nat} {fa a : Addr} {fd : FuncData} {x : Str} {sp : Sp}
    {s1 : Shared} {vs : List Value} {ns : List Int} (hK : K.In s1.heap) (hm : s1.heap.Ns mainGlobals mg) (hb : s1.heap.Ns builtinsNs mb)
    (hbb : ∀ x : Str, x ≠ "__name__" → mb x = bootBuiltins x) (hlim : s1.heap.NoLimit) (hg : s1.gens = #[])
    (ha : s1.heap.get? a = some (scr vs)) (hi : IntsAre vs ns) (hl : ns.length ≤ sizeLine) (hr : Room k callerA)
    (F : ∀ base : Heap, K.In base → base.Ns mainGlobals mg → FnG P w K mg base k fa fd [x] sp)
    (bind : ∀ (s : Shared) (u : Value), BindsTo s fd ⟨[u], []⟩ [(x, u)])
    (hsp : ∀ H : Hp, SqL K H a (ns.map V.int) → sp [.ref a] H (fun v _ => v = .bl true) fun _ _ _ => False) :
    codeAny (model P w) callerA (.call (.ref fa) ⟨[.ref a], []⟩)
      (fun r s' => r = .ok (.ret (.bool true)) ∧ OldK s1.heap s'.heap ∧ s'.os = s1.os ∧ AllBare s'.gens) s1 := by
  obtain ⟨H, B⟩ := begin_ex hK ha hi hl
  -- the base: all but the script
  have toBase : ∀ {b : Addr} {o : Obj}, s1.heap.get? b = some o → o.data ≠ (scr vs).data → (hidT s1.heap H).get? b = some o := by
    intro b o e d
    refine hidT_get e ?_
    rcases B.one b with z | ⟨rfl, _, _⟩
    · exact z
    · rw [ha] at e
      cases e
      exact absurd rfl d
  have nsB : ∀ {b : Addr} {m : Str → Option Value}, s1.heap.Ns b m → (hidT s1.heap H).Ns b m := by
    rintro b m ⟨o, es, ep, e, d, rest⟩
    exact ⟨o, es, ep, toBase e (by rw [d]; nofun), d, rest⟩
  have KB : K.In (hidT s1.heap H) := by
    intro b o e
    refine hidT_get (hK b o e) ?_
    rcases B.one b with z | ⟨rfl, _, z⟩
    · exact z
    · rw [z] at e
      cases e
  have md : Mod K mg (hidT s1.heap H) := ⟨KB, nsB hm, ⟨mb, nsB hb, hbb⟩, by
    obtain ⟨mc, e1, e2⟩ := hlim
    exact ⟨mc, nsB e1, e2⟩⟩
  have ok : HOk P w H s1.heap := by
    intro b o e
    rcases B.one b with z | ⟨rfl, z, _⟩
    · rw [z] at e
      cases e
    · rw [z] at e
      cases e
      exact ⟨ha, by rw [List.length_map]; exact hl, vs, _, vals_ints hi, ha⟩
  have e0 : Env0 P w K mg (hidT s1.heap H) callerA [] s1 H :=
    ⟨rfl, md, fun b o e => of_hidT e, Nat.le_of_eq (hidT_size _ _), trivial, fun b z => (by cases z), ok, .of_eq hg⟩
  have run := (F _ KB (nsB hm)).go callerA [] s1 H ⟨[.ref a], []⟩ [.ref a] [.ref a] _ _ rfl hr e0 (bind s1 (.ref a)) (.cons rfl .nil) (hsp H B.seq)
  refine codeAny_mono run ?_
  intro r s' h
  cases r with
  | error e => cases h
  | ok fl =>
    cases fl with
    | next => cases h
    | brk => cases h
    | cont => cases h
    | ret u =>
      obtain ⟨v, H', os, bare, un, ok', rv, ev⟩ := h
      obtain rfl : v = .bl true := ev
      obtain rfl : u = Value.bool true := rv
      refine ⟨rfl, OldK.of_keep ?_, os, bare⟩
      intro b o e
      rcases B.one b with z | ⟨rfl, z, _⟩
      · exact un.keep b o e z (by intro q; cases q) (by intro q; cases q)
      · have old := (ok b _ z).1
        have new := (ok' b _ (un.frzs b _ _ z)).1
        rw [e] at old
        cases old
        exact new
theorem walk_g {l : PySem.W.OpenLaw} {n k : Nat} {q : Program} {loose : List Str} {XP : (Str → Option Value) → Heap → Prop} {YP : World → Heap → Prop}
    {d : DefRec} {K : Params → PySem.W.Frag} {sp : World → Sp} {x : Str} (hn : l.most = some n) (hn2 : n ≤ sizeLine) (hdf : d.params.defaults = [])
    (hr : Room k callerA) (hY : ∀ (w : World) (h : Heap), YP w h → (K w.params).In h)
    (F : ∀ (w : World) (mg : Str → Option Value) (fa : Addr) (h : Heap), (K w.params).In h → h.Ns mainGlobals mg → mg d.name = some (.ref fa) →
      ∃ fd : FuncData, (∀ (s : Shared) (u : Value), BindsTo s fd ⟨[u], []⟩ [(x, u)]) ∧
        ∀ base : Heap, (K w.params).In base → base.Ns mainGlobals mg → FnG l.prog w (K w.params) mg base k fa fd [x] (sp w))
    (hsp : ∀ (w : World) (H : Hp) (a : Addr) (ns : List Int), ns.length ≤ n → (∀ z ∈ ns, Builtin.Int.intBits z ≤ 1048576) →
      SqL (K w.params) H a (ns.map V.int) → sp w [.ref a] H (fun v _ => v = .bl true) fun _ _ _ => False) :
    PySem.W.WalkO q loose XP YP l.row.toRowW d [] (fun f vs => PySem.call f vs) := by
  refine Att.attach_callB hn hdf ?_
  intro w s0 s1 mg mb fa o pm cd doc a vs ns G Y ho hd hcd hmg hobj hints hlen hbits hgens
  have inK := hY w _ Y
  obtain ⟨fd, hb, hF⟩ := F w mg fa _ inK G.T.g hmg
  exact law_g inK G.T.g G.T.b G.T.builtins G.T.nolimit hgens hobj hints (Nat.le_trans hlen hn2) hr hF hb (fun H hS => hsp w H a ns hlen hbits hS)
end Sd

namespace Sd
open PySem PySem.Spec PyProof.Rows L2
/-! ### calls by keywords alone -/
structure KW0 (K : PySem.W.Frag) (fd : FuncData) (ps ks : List Str) (g : List Value → List Value) (gV : List V → List V) : Prop where
  to : ∀ (s : Shared) (ws : List Value), K.In s.heap → ws.length = ks.length → BindsTo s fd ⟨[], ks.zip ws⟩ (ps.zip (g ws))
  rel : ∀ {zs : List V} {ws : List Value}, Vals zs ws → Vals (gV zs) (g ws)
def tCallW (sp : Sp) (n : Nat) (gV : List V → List V) (E : XK) (tk : TA) : TE := fun σ H Q =>
  tk σ H fun zs H1 => zs.length = n ∧ sp (gV zs) H1 Q E
section
variable {X : Cx} {k : Nat} {f : Addr} {fd : FuncData} {ps ks : List Str} {sp : Sp} {E : XK} {x : Str} {p pos : Pos} {kws : List Keyword} {tk : TA}
  {g : List Value → List Value} {gV : List V → List V}
theorem pe_callW (F : FnOk X.prog X.w X.K X.mg X.base CX0 k f fd ps sp) (hr : Room k X.A) (hg : Gl X x) (hm : X.mg x = some (.ref f))
    (hk : PySem.W.keepIn X.K (.ref f) = true) (hb : KW0 X.K fd ps ks g gV) (hkw : PK X kws tk)
    (hall : (backToKw pos (keywordEach kws X.env)).all (·.1.isSome) = true := by rfl)
    (hks : (backToKw pos (keywordEach kws X.env)).filterMap (·.1) = ks := by rfl) (hdb : (x == ("__debug__" : Str)) = false := by decide)
    (hpl : ((backTo pos (starEach [] X.env)).any (·.1) || (backToKw pos (keywordEach kws X.env)).any (·.1.isNone)) = false := by rfl) :
    PE X (.Call (.Name x p) [] kws pos) (tCallW sp ks.length gV E tk) := by
  constructor
  intro pins s σ H Q I h
  refine wpAny_Call_Name_kw (ld_glob I hg hm (PySem.W.callWith_KW0 (h₀ := X.base) I.ok.mod.kin hk hall ?_ hpl) hdb)
  refine thn (hkw.run pos pins s σ H _ I h) ?_
  rintro ws s1 ⟨zs, H1, I1, rz, lz, q⟩
  refine ⟨I1.kIn, ?_⟩
  rw [hks]
  have rg := hb.rel rz
  have bd := hb.to s1 ws I1.kIn (by rw [← rz.length]; exact lz)
  refine wpAny_call (codeAny_mono (F.run X.A X.stack s1 H1 ⟨[] ++ [], ks.zip ws⟩ (g ws) (gV zs) Q E hr I1.env0 bd rg q) ?_)
  intro res s' hq
  cases res with
  | error e => cases hq
  | ok fl => cases fl with
    | ret u => exact I1.after hq
    | next => cases hq
    | brk => cases hq
    | cont => cases hq
end
/-! ### what stays -/
/-- all but what stands at two addresses is as it was -/
def Kp (a b : Addr) (H H' : Hp) : Prop := ∀ c o, c ≠ a → c ≠ b → H c = some o → H' c = some o
section
variable {x0 y0 : Addr} {H H1 H2 : Hp}
theorem Kp.refl (H : Hp) : Kp x0 y0 H H := fun _ _ _ _ h => h
theorem Kp.trans (x : Kp x0 y0 H H1) (y : Kp x0 y0 H1 H2) : Kp x0 y0 H H2 := fun c o na nb h => y c o na nb (x c o na nb h)
theorem Kp.new {p : Addr} {o : HO} (x : Kp x0 y0 H H1) (h : H1 p = none) : Kp x0 y0 H (upd H1 p o) := fun c u na nb e => by
  have e1 := x c u na nb e
  rw [upd_ne (ne_of_none e1 h)]
  exact e1
theorem Kp.fst {o : HO} (x : Kp x0 y0 H H1) : Kp x0 y0 H (upd H1 x0 o) := fun c u na nb e => by
  rw [upd_ne na]
  exact x c u na nb e
theorem Kp.snd {o : HO} (x : Kp x0 y0 H H1) : Kp x0 y0 H (upd H1 y0 o) := fun c u na nb e => by
  rw [upd_ne nb]
  exact x c u na nb e
theorem Kp.own {p : Addr} {o : HO} (x : Kp x0 y0 H H1) (h : H p = none) : Kp x0 y0 H (upd H1 p o) := fun c u na nb e => by
  rw [upd_ne (ne_of_none e h)]
  exact x c u na nb e
theorem Same.kp (x : Same H H1) : Kp x0 y0 H H1 := fun c o _ _ h => x c o h
end
theorem same_new {H : Hp} {p : Addr} {o : HO} (h : H p = none) : Same H (upd H p o) := fun b x e => by
  rw [upd_ne (ne_of_none e h)]
  exact e
/-! ### the source of draws: a list of a list of cells and a number -/
structure Dr (H : Hp) (p q : Addr) : Prop where
  ex : ∃ (cs : List Int) (st : Int), H p = some (.lst [.ref q, .int st]) ∧ H q = some (.lst (cs.map V.int)) ∧ cs.length ≤ 60 ∧ 0 ≤ st ∧ st < 2147483647
theorem Dr.ne {H : Hp} {p q : Addr} (d : Dr H p q) : p ≠ q := by
  obtain ⟨cs, st, h1, h2, _⟩ := d
  refine ne_of h1 h2 ?_
  intro z
  injection z with z
  cases cs with
  | nil => cases z
  | cons c r =>
    rw [List.map_cons] at z
    injection z with z1 z2
    cases z1
theorem Dr.same {H H1 : Hp} {p q : Addr} (d : Dr H p q) (s : Same H H1) : Dr H1 p q := by
  obtain ⟨cs, st, h1, h2, h⟩ := d
  exact ⟨cs, st, s _ _ h1, s _ _ h2, h⟩
theorem Dr.new {H : Hp} {p q a : Addr} {o : HO} (d : Dr H p q) (h : H a = none) : Dr (upd H a o) p q := d.same (same_new h)
theorem eqv_ints_nil (cs : List Int) : PyData.eqv (.list (cs.map PyData.int)) (.list []) = cs.isEmpty := by
  cases cs <;> rfl
theorem dpAll_ints {K : PySem.W.Frag} {H : Hp} : ∀ cs : List Int, DpAll K H (cs.map V.int) (cs.map PyData.int)
  | [] => .nil
  | c :: r => .cons (.int c) (dpAll_ints r)
theorem canLay_all : ∀ {ds : List PyData}, (∀ d ∈ ds, d.canLay0 = true) → PyData.canLayAll0 ds = true
  | [], _ => by simp only [PyData.canLayAll0]
  | d :: r, h => by
    simp only [PyData.canLayAll0, Bool.and_eq_true]
    exact ⟨h d List.mem_cons_self, canLay_all fun e m => h e (List.mem_cons_of_mem _ m)⟩
theorem depth_all {n : Nat} : ∀ {ds : List PyData}, (∀ d ∈ ds, d.depth ≤ n) → PyData.depthAll ds ≤ n
  | [], _ => by simp only [PyData.depthAll]; omega
  | d :: r, h => by
    simp only [PyData.depthAll]
    have a := h d List.mem_cons_self
    have b := depth_all fun e m => h e (List.mem_cons_of_mem _ m)
    omega
/-- data that can be laid, of at most such a depth -/
def Flat (n : Nat) (d : PyData) : Prop := d.canLay0 = true ∧ d.depth ≤ n
theorem flat_int (i : Int) (n : Nat) : Flat n (.int i) := ⟨by simp only [PyData.canLay0], by simp only [PyData.depth]; omega⟩
theorem flat_str {l : List Nat} (h : ∀ d ∈ l, d < 1114112) (n : Nat) : Flat n (.str ⟨l.toArray⟩) := by
  refine ⟨?_, by simp only [PyData.depth]; omega⟩
  simp only [PyData.canLay0]
  unfold PyData.strOk
  rw [Array.all_eq_true']
  intro x hx
  exact decide_eq_true (h x (by simpa using hx))
theorem eqv_list_nil (ds : List PyData) : PyData.eqv (.list ds) (.list []) = ds.isEmpty := by
  cases ds <;> rfl
theorem flat_list {n : Nat} {ds : List PyData} (h : ∀ d ∈ ds, Flat n d) : Flat (n + 1) (.list ds) :=
  ⟨by simp only [PyData.canLay0]; exact canLay_all fun d m => (h d m).1, by simp only [PyData.depth]; have := depth_all fun d m => (h d m).2; omega⟩
theorem flat_tuple {n : Nat} {ds : List PyData} (h : ∀ d ∈ ds, Flat n d) : Flat (n + 1) (.tuple ds) :=
  ⟨by simp only [PyData.canLay0]; exact canLay_all fun d m => (h d m).1, by simp only [PyData.depth]; have := depth_all fun d m => (h d m).2; omega⟩
theorem Flat.shaped {n : Nat} {d : PyData} (h : Flat n d) (hn : n ≤ 64) : SeqAt.shaped d = true := by
  unfold SeqAt.shaped
  rw [h.1, Bool.true_and, decide_eq_true]
  exact Nat.le_trans h.2 hn
theorem shaped_ints (cs : List Int) : SeqAt.shaped (.list (cs.map PyData.int)) = true := by
  refine (flat_list (n := 0) ?_).shaped (by decide)
  intro d m
  obtain ⟨i, _, rfl⟩ := List.mem_map.mp m
  exact flat_int i 0
/-! ### steps of a reading -/
section
variable {t1 t2 : TS} {c : TT} {tb t : TS} {D : Ends} {σ : L2.St} {H : Hp}
theorem sq (h : t1 { D with nx := t2 D } σ H) : tSeq t1 t2 D σ H := h
/-- what follows is shown once, for a state B -/
theorem to_next (B : L2.St → Hp → Prop) (hB : ∀ σ H, B σ H → D.nx σ H) (h : (∀ σ H, B σ H → D.nx σ H) → t D σ H) : t D σ H := h hB
theorem while_to (W : Nat → L2.St → Hp → Prop) (B : L2.St → Hp → Prop) (m0 : Nat) (h0 : W m0 σ H) (hB : ∀ σ H, B σ H → D.nx σ H)
    (hs : (∀ σ H, B σ H → D.nx σ H) → ∀ m σ H, W m σ H → c σ H fun b H1 => if b = true then
      ∃ N : L2.St → Hp → Prop, (∀ σ' H', N σ' H' → ∃ m', m' < m ∧ W m' σ' H') ∧ tb { D with nx := N, ct := N, bk := D.nx } σ H1 else D.nx σ H1) :
    tWhile c tb D σ H := ⟨W, ⟨m0, h0⟩, hs hB⟩
end
theorem yesT {σ : L2.St} {H : Hp} {F G : Hp → Prop} (h : F H) : tYes σ H (fun b H3 => if b = true then F H3 else G H3) := by
  show (if true = true then F H else G H)
  exact iteT h
theorem nil_or_snoc {α : Type} (l : List α) : l = [] ∨ ∃ (i : List α) (x : α), l = i ++ [x] := by
  cases l.eq_nil_or_concat with
  | inl h => exact Or.inl h
  | inr h =>
    obtain ⟨i, x, e⟩ := h
    exact Or.inr ⟨i, x, by rw [e, List.concat_eq_append]⟩
theorem get_end {xs : List V} {v : V} : (xs ++ [v])[(xs ++ [v]).length - 1]? = some v := by simp
theorem atI_end {xs : List V} {v : V} : atI (xs ++ [v]) (-1) = some v := atI_last xs v
end Sd

namespace Sd
open PySem PySem.Spec PyProof.Rows L2
def topS (i : Nat) : Stmt := PySem.Challenge.pw_saidatonce_k05_marks_cut_and_joined.main.body.getD i (.Pass ⟨0, 0, 0, 0⟩)
abbrev s_run_end : Stmt := topS 3
abbrev s_mark_at : Stmt := topS 4
abbrev s_marks_in : Stmt := topS 5
abbrev s_law_heap : Stmt := topS 7
abbrev s_law_draw : Stmt := topS 8
abbrev s_law_pick : Stmt := topS 9
abbrev s_law_sort : Stmt := topS 10
abbrev s_law_marks : Stmt := topS 11
abbrev s_law_piece : Stmt := topS 12
abbrev s_law : Stmt := topS 13
/-- where the text's defs stand, and which names are built-in -/
structure Txt (K : PySem.W.Frag) (mg : Str → Option Value) where
  a_run_end : Addr
  d_run_end : FuncData
  F_run_end : Fun K "run_end" "run_end" s_run_end a_run_end d_run_end
  g_run_end : mg "run_end" = some (.ref a_run_end)
  a_mark_at : Addr
  d_mark_at : FuncData
  F_mark_at : Fun K "mark_at" "mark_at" s_mark_at a_mark_at d_mark_at
  g_mark_at : mg "mark_at" = some (.ref a_mark_at)
  a_marks_in : Addr
  d_marks_in : FuncData
  F_marks_in : Fun K "marks_in" "marks_in" s_marks_in a_marks_in d_marks_in
  g_marks_in : mg "marks_in" = some (.ref a_marks_in)
  a_law_heap : Addr
  d_law_heap : FuncData
  F_law_heap : Fun K "_law_heap" "_law_heap" s_law_heap a_law_heap d_law_heap
  g_law_heap : mg "_law_heap" = some (.ref a_law_heap)
  a_law_draw : Addr
  d_law_draw : FuncData
  F_law_draw : Fun K "_law_draw" "_law_draw" s_law_draw a_law_draw d_law_draw
  g_law_draw : mg "_law_draw" = some (.ref a_law_draw)
  a_law_pick : Addr
  d_law_pick : FuncData
  F_law_pick : Fun K "_law_pick" "_law_pick" s_law_pick a_law_pick d_law_pick
  g_law_pick : mg "_law_pick" = some (.ref a_law_pick)
  a_law_sort : Addr
  d_law_sort : FuncData
  F_law_sort : Fun K "_law_sort" "_law_sort" s_law_sort a_law_sort d_law_sort
  g_law_sort : mg "_law_sort" = some (.ref a_law_sort)
  a_law_marks : Addr
  d_law_marks : FuncData
  F_law_marks : Fun K "_law_marks" "_law_marks" s_law_marks a_law_marks d_law_marks
  g_law_marks : mg "_law_marks" = some (.ref a_law_marks)
  a_law_piece : Addr
  d_law_piece : FuncData
  F_law_piece : Fun K "_law_piece" "_law_piece" s_law_piece a_law_piece d_law_piece
  g_law_piece : mg "_law_piece" = some (.ref a_law_piece)
  k_LETTERS : Tok
  g_LETTERS : mg "LETTERS" = some (.str "abcdefghijklmnopqrstuvwxyz" k_LETTERS)
  k_DIGITS : Tok
  g_DIGITS : mg "DIGITS" = some (.str "0123456789" k_DIGITS)
  n_abs : mg "abs" = none
  n_int : mg "int" = none
  n_len : mg "len" = none
  n_range : mg "range" = none
  n_repr : mg "repr" = none
  n_tuple : mg "tuple" = none
section
variable {K : PySem.W.Frag} {mg : Str → Option Value} (T : Txt K mg)
theorem Txt.k_run_end : PySem.W.keepIn K (.ref T.a_run_end) = true := T.F_run_end.kp
theorem Txt.b_run_end : Binds K T.d_run_end ["text", "at", "signs"] [] := T.F_run_end.binds (ps := ["text", "at", "signs"]) fun _ _ _ _ _ _ us hl => match us, hl with | [_, _, _], _ => rfl
theorem Txt.k_mark_at : PySem.W.keepIn K (.ref T.a_mark_at) = true := T.F_mark_at.kp
theorem Txt.b_mark_at : Binds K T.d_mark_at ["text", "at"] [] := T.F_mark_at.binds (ps := ["text", "at"]) fun _ _ _ _ _ _ us hl => match us, hl with | [_, _], _ => rfl
theorem Txt.k_marks_in : PySem.W.keepIn K (.ref T.a_marks_in) = true := T.F_marks_in.kp
theorem Txt.b_marks_in : Binds K T.d_marks_in ["text"] [] := T.F_marks_in.binds (ps := ["text"]) fun _ _ _ _ _ _ us hl => match us, hl with | [_], _ => rfl
theorem Txt.k_law_heap : PySem.W.keepIn K (.ref T.a_law_heap) = true := T.F_law_heap.kp
theorem Txt.b_law_heap : Binds K T.d_law_heap ["_law_script"] [] := T.F_law_heap.binds (ps := ["_law_script"]) fun _ _ _ _ _ _ us hl => match us, hl with | [_], _ => rfl
theorem Txt.k_law_draw : PySem.W.keepIn K (.ref T.a_law_draw) = true := T.F_law_draw.kp
theorem Txt.b_law_draw : Binds K T.d_law_draw ["_law_heap_here", "_law_many"] [] := T.F_law_draw.binds (ps := ["_law_heap_here", "_law_many"]) fun _ _ _ _ _ _ us hl => match us, hl with | [_, _], _ => rfl
theorem Txt.k_law_pick : PySem.W.keepIn K (.ref T.a_law_pick) = true := T.F_law_pick.kp
theorem Txt.b_law_pick : Binds K T.d_law_pick ["_law_heap_here", "_law_some"] [] := T.F_law_pick.binds (ps := ["_law_heap_here", "_law_some"]) fun _ _ _ _ _ _ us hl => match us, hl with | [_, _], _ => rfl
theorem Txt.k_law_sort : PySem.W.keepIn K (.ref T.a_law_sort) = true := T.F_law_sort.kp
theorem Txt.b_law_sort : Binds K T.d_law_sort ["_law_sign"] [] := T.F_law_sort.binds (ps := ["_law_sign"]) fun _ _ _ _ _ _ us hl => match us, hl with | [_], _ => rfl
theorem Txt.k_law_marks : PySem.W.keepIn K (.ref T.a_law_marks) = true := T.F_law_marks.kp
theorem Txt.b_law_marks : Binds K T.d_law_marks ["_law_text"] [] := T.F_law_marks.binds (ps := ["_law_text"]) fun _ _ _ _ _ _ us hl => match us, hl with | [_], _ => rfl
theorem Txt.k_law_piece : PySem.W.keepIn K (.ref T.a_law_piece) = true := T.F_law_piece.kp
theorem Txt.b_law_piece : Binds K T.d_law_piece ["_law_heap_here"] [] := T.F_law_piece.binds (ps := ["_law_heap_here"]) fun _ _ _ _ _ _ us hl => match us, hl with | [_], _ => rfl
end
end Sd

namespace Sd
open PySem PySem.Spec PyProof.Rows L2
abbrev N_law_draw : List Str := ["_law_heap_here", "_law_many", "_law_rest"]
theorem sc_law_draw : FnScope N_law_draw ["_law_heap_here", "_law_many"] (defScope s_law_draw) := ⟨rfl, rfl, rfl, by decide +kernel, rfl, by decide +kernel, by decide +kernel⟩
/-- a draw below m -/
def spDraw : Sp := fun vs H Q _ => ∃ (p q : Addr) (m : Int), vs = [.ref p, .int m] ∧ Dr H p q ∧ 0 < m ∧ m < 1073741824 ∧
  ∀ H' r, Kp p q H H' → Dr H' p q → 0 ≤ r → r < m → Q (.int r) H'
section
variable {P : Program} {w : World} {K : PySem.W.Frag} {mg : Str → Option Value} {base : Heap}
theorem ok_draw (T : Txt K mg) : FnOk P w K mg base CX0 1 T.a_law_draw T.d_law_draw ["_law_heap_here", "_law_many"] spDraw := by
  refine T.F_law_draw.ok sc_law_draw (fun vs H Q E h => ?_) (fun cdv A outer s H vs Q E hr h => ?_)
  · obtain ⟨p, q, m, rfl, _⟩ := h
    rfl
  · obtain ⟨p, q, m, rfl, hd, m0, m1, k⟩ := h
    refine ⟨_, (pss_cons (ps_while PassesOwn.never (PW.pt (pw_and (pt_cmpR (op_neD hr.units) (pe_ix ix_list (pv 0) pe_int (fun _ _ => rfl)) (pe_lst pa_nil) (nomark _)) (pw_and1 (pt_cmpR op_eq (pe_ix ix_list (pe_ix ix_list (pv 0) pe_int (fun _ _ => rfl)) (pe_un un_neg pe_int) (fun _ _ => rfl)) pe_int (nomark _)))))
      (pss_one (ps_expr (pe_bm0 PySem.F.plainAttrs_list PySem.F.slot_list_pop PySem.F.type_list_pop mt_pop (pe_ix ix_list (pv 0) pe_int (fun _ _ => rfl))))))
    (pss_cons (ps_if (pt_cmpR (op_neD hr.units) (pe_ix ix_list (pv 0) pe_int (fun _ _ => rfl)) (pe_lst pa_nil) (nomark _))
      (pss_cons (ps_set (i := 2) sc_law_draw.nd rfl (.inl rfl) (pe_bm0 PySem.F.plainAttrs_list PySem.F.slot_list_pop PySem.F.type_list_pop mt_pop (pe_ix ix_list (pv 0) pe_int (fun _ _ => rfl))))
      (pss_cons (ps_expr (pe_bm PySem.F.plainAttrs_list PySem.F.slot_list_append PySem.F.type_list_append mt_append (pe_ix ix_list (pv 0) pe_int (fun _ _ => rfl)) (pa_cons (pe_op op_fdivW (pv 2) (pv 1)) pa_nil)))
      (pss_one (ps_ret (pe_op op_mod (pe_callTy call_int1 (by rfl) T.n_int (by decide +kernel) (pa_cons (pv 2) pa_nil)) (pv 1))))))
      pss_nil)
    (pss_cons (ps_asg (pe_op op_mod (pe_callTy call_int1 (by rfl) T.n_int (by decide +kernel) (pa_cons (pe_op op_add (pe_op op_mul (pe_ix ix_list (pv 0) pe_int (fun _ _ => rfl)) pe_int) pe_int) pa_nil)) pe_int) (pg_sub (pv 0) pe_int set_list))
    (pss_one (ps_ret (pe_op op_mod (pe_callTy call_int1 (by rfl) T.n_int (by decide +kernel) (pa_cons (pe_op op_fdivW (pe_ix ix_list (pv 0) pe_int (fun _ _ => rfl)) pe_int) pa_nil)) (pv 1))))))), ?_⟩
    obtain ⟨cs, st, h1, h2, hc, s0, s1⟩ := id hd
    have npq := hd.ne
    -- while heap[0] != [] and heap[0][-1] == 0: heap[0].pop()
    refine sq (while_to (fun n σ H' => ∃ cs : List Int, σ = [some (.ref p), some (.int m), none] ∧ Kp p q H H' ∧ H' p = some (.lst [.ref q, .int st]) ∧
      H' q = some (.lst (cs.map V.int)) ∧ cs.length ≤ 60 ∧ n = cs.length)
      (fun σ H' => ∃ cs : List Int, σ = [some (.ref p), some (.int m), none] ∧ Kp p q H H' ∧ H' p = some (.lst [.ref q, .int st]) ∧
      H' q = some (.lst (cs.map V.int)) ∧ cs.length ≤ 60) _ ⟨cs, rfl, Kp.refl H, h1, h2, hc, rfl⟩ ?_ ?_)
    · clear h1 h2 hc hd cs
      rintro σ H' ⟨cs, rfl, kp, h1, h2, hc⟩
      -- if heap[0] != []
      refine sq ⟨_, rfl, p, _, 0, .ref q, rfl, rfl, SqL.of h1, rfl, Nat.zero_le _, fun l nl => ?_⟩
      have kp1 := kp.new (o := .lst []) nl
      have lp : p ≠ l := ne_of_none h1 nl
      have lq : q ≠ l := ne_of_none h2 nl
      have h1' := (upd_ne (o := .lst []) (H := H') lp).trans h1
      have h2' := (upd_ne (o := .lst []) (H := H') lq).trans h2
      refine ⟨_, _, .lst (SqL.of h2') (dpAll_ints cs), .lst (SqL.of upd_same) .nil, shaped_ints cs, shaped_ints [], _, rfl, ?_⟩
      rw [eqv_ints_nil]
      generalize upd H' l (.lst []) = H1 at kp1 h1' h2'
      rcases nil_or_snoc cs with rfl | ⟨ini, c, rfl⟩
      · refine iteF ?_
        -- heap[1] = int(heap[1] * 48271 + 17) % 2147483647
        refine sq ⟨_, rfl, p, _, 1, .int st, rfl, rfl, SqL.of h1', rfl, _, _, rfl, rfl, .inl ⟨by omega, by omega⟩, _, _, rfl, rfl, .inl ⟨_, rfl, _, _, rfl, rfl, (by show (0 : Int) < 2147483647; decide), ?_⟩⟩
        have u0 := Int.emod_nonneg (st * 48271 + 17) (b := 2147483647) (by decide)
        have u1 := Int.emod_lt_of_pos (st * 48271 + 17) (b := 2147483647) (by decide)
        refine ⟨_, rfl, p, _, 1, 1, rfl, rfl, h1', rfl, ?_⟩
        have h1s : (upd H1 p (.lst [.ref q, .int ((st * 48271 + 17) % 2147483647)])) p = _ := upd_same
        have h2s : (upd H1 p (.lst [.ref q, .int ((st * 48271 + 17) % 2147483647)])) q = _ := (upd_ne npq.symm).trans h2'
        have kp2 := kp1.fst (o := .lst [.ref q, .int ((st * 48271 + 17) % 2147483647)])
        -- return int(heap[1] // 32) % many
        refine ⟨_, rfl, p, _, 1, .int ((st * 48271 + 17) % 2147483647), rfl, rfl, SqL.of h1s, rfl, _, _, rfl, rfl, ⟨by decide, by decide⟩, .inl ⟨_, rfl, _, rfl, _, _, rfl, rfl, m0, ?_⟩⟩
        exact k _ _ kp2 ⟨[], _, h1s, h2s, by decide, u0, u1⟩ (Int.emod_nonneg _ (by omega)) (Int.emod_lt_of_pos _ m0)
      · have hmap : (ini ++ [c]).map V.int = ini.map V.int ++ [.int c] := by simp
        have hne : (!(ini ++ [c]).isEmpty) = true := by simp
        rw [hne]
        rw [hmap] at h2'
        have hc' : ini.length + 1 ≤ 60 := by simpa using hc
        -- rest = heap[0].pop(); heap[0].append(rest // many)
        refine iteT (sq ⟨_, rfl, p, _, 0, .ref q, rfl, rfl, SqL.of h1', rfl, .inl ⟨rfl, _, SqL.of h2'⟩, q, _, .int c, rfl, rfl, h2', get_end, ?_⟩)
        have hd1 : (ini.map V.int ++ [V.int c]).dropLast = ini.map V.int := by simp
        rw [hd1]
        have g1 : (upd H1 q (.lst (ini.map V.int))) p = _ := (upd_ne npq).trans h1'
        have g2 : (upd H1 q (.lst (ini.map V.int))) q = _ := upd_same
        have kp2 := kp1.snd (o := .lst (ini.map V.int))
        refine sq ⟨_, rfl, p, _, 0, .ref q, rfl, rfl, SqL.of g1, rfl, .inl ⟨rfl, _, SqL.of g2⟩, _, rfl, _, rfl, _, _, rfl, rfl,
          wide_div m0 (b := 30) (by omega) (by decide) (by decide), q, _, _, rfl, rfl, g2, ?_, ?_⟩
        · rw [List.length_map]
          exact small1000 (by omega)
        -- return int(rest) % many
        refine ⟨_, rfl, .inl ⟨_, rfl, _, rfl, _, _, rfl, rfl, m0, ?_⟩⟩
        exact k _ _ kp2.snd ⟨ini ++ [c / m], st, (upd_ne npq).trans g1, upd_same.trans (by simp), by simpa using hc', s0, s1⟩ (Int.emod_nonneg _ (by omega)) (Int.emod_lt_of_pos _ m0)
    · intro after
      clear h1 h2 hc hd cs
      rintro n σ H' ⟨cs, rfl, kp, h1, h2, hc, rfl⟩
      refine ⟨_, rfl, p, _, 0, .ref q, rfl, rfl, SqL.of h1, rfl, Nat.zero_le _, fun l nl => ?_⟩
      have kp1 := kp.new (o := .lst []) nl
      have lp : p ≠ l := ne_of_none h1 nl
      have lq : q ≠ l := ne_of_none h2 nl
      have h1' := (upd_ne (o := .lst []) (H := H') lp).trans h1
      have h2' := (upd_ne (o := .lst []) (H := H') lq).trans h2
      refine ⟨_, _, .lst (SqL.of h2') (dpAll_ints cs), .lst (SqL.of upd_same) .nil, shaped_ints cs, shaped_ints [], _, rfl, ?_⟩
      rw [eqv_ints_nil]
      generalize upd H' l (.lst []) = H1 at kp1 h1' h2'
      rcases nil_or_snoc cs with rfl | ⟨ini, c, rfl⟩
      · exact iteF (iteF (after _ _ ⟨[], rfl, kp1, h1', h2', hc⟩))
      · have hmap : (ini ++ [c]).map V.int = ini.map V.int ++ [.int c] := by simp
        have hne : (!(ini ++ [c]).isEmpty) = true := by simp
        rw [hne]
        rw [hmap] at h2'
        refine iteT ⟨_, rfl, p, _, 0, .ref q, rfl, rfl, SqL.of h1', rfl, 1, rfl, q, _, -1, .int c, rfl, rfl, SqL.of h2', atI_end, rfl, _, rfl, ite2 (fun e => ?_) (fun e => ?_)⟩
        · refine ⟨_, fun _ _ n => n, ?_⟩
          refine ⟨_, rfl, p, _, 0, .ref q, rfl, rfl, SqL.of h1', rfl, .inl ⟨rfl, _, SqL.of h2'⟩, q, _, .int c, rfl, rfl, h2', get_end, ?_⟩
          have hc' : ini.length + 1 ≤ 60 := by simpa using hc
          exact ⟨ini.length, by simp, ini, rfl, kp1.snd, (upd_ne npq).trans h1', upd_same.trans (by simp), by omega, rfl⟩
        · refine after _ _ ⟨ini ++ [c], rfl, kp1, h1', ?_, hc⟩
          rw [hmap]
          exact h2'
end
end Sd

namespace Sd
open PySem PySem.Spec PyProof.Rows L2
/-! ### marks, over lists of codes -/
/-- 1 a letter, 2 a digit, 0 others -/
def kd (c : Nat) : Nat := if 97 ≤ c ∧ c ≤ 122 then 1 else if 48 ≤ c ∧ c ≤ 57 then 2 else 0
theorem kd_cases (c : Nat) : (kd c = 1 ∧ 97 ≤ c ∧ c ≤ 122) ∨ (kd c = 2 ∧ 48 ≤ c ∧ c ≤ 57) ∨ (kd c = 0 ∧ ¬ (97 ≤ c ∧ c ≤ 122) ∧ ¬ (48 ≤ c ∧ c ≤ 57)) := by
  unfold kd
  by_cases h1 : 97 ≤ c ∧ c ≤ 122
  · rw [if_pos h1]; exact .inl ⟨rfl, h1.1, h1.2⟩
  · rw [if_neg h1]
    by_cases h2 : 48 ≤ c ∧ c ≤ 57
    · rw [if_pos h2]; exact .inr (.inl ⟨rfl, h2.1, h2.2⟩)
    · rw [if_neg h2]; exact .inr (.inr ⟨rfl, h1, h2⟩)
/-- the first mark, or blank -/
def fst1 : List Nat → List Nat
  | [] => []
  | c :: r => if kd c = 0 then [c] else c :: r.takeWhile (fun d => kd d == kd c)
theorem fst1_cons (c : Nat) (r : List Nat) : fst1 (c :: r) = if kd c = 0 then [c] else c :: r.takeWhile (fun d => kd d == kd c) := rfl
theorem mem_tw {α : Type} {p : α → Bool} {x : α} : ∀ {l : List α}, x ∈ l.takeWhile p → p x = true
  | a :: l, h => by
    rw [List.takeWhile_cons] at h
    split at h
    · rcases List.mem_cons.mp h with rfl | h
      · assumption
      · exact mem_tw h
    · cases h
theorem dw_head {α : Type} {p : α → Bool} {x : α} {q : List α} : ∀ {l : List α}, l.dropWhile p = x :: q → p x = false
  | a :: l, h => by
    rw [List.dropWhile_cons] at h
    split at h
    · exact dw_head h
    · injection h with h1 h2
      subst h1
      exact Bool.eq_false_iff.mpr ‹_›
def mF : Nat → Nat → Nat → List Nat → List (Nat × Nat × List Nat)
  | 0, _, _, _ => []
  | _ + 1, _, _, [] => []
  | n + 1, l, k, c :: r =>
    (if fst1 (c :: r) = [32] then [] else [(l, k, fst1 (c :: r))]) ++
      (if fst1 (c :: r) = [10] then mF n (l + 1) 0 ((c :: r).drop (fst1 (c :: r)).length)
       else mF n l (k + (fst1 (c :: r)).length) ((c :: r).drop (fst1 (c :: r)).length))
theorem fst1_pos (c : Nat) (r : List Nat) : 1 ≤ (fst1 (c :: r)).length := by
  rw [fst1_cons]
  split <;> simp
theorem fst1_le : ∀ cs : List Nat, (fst1 cs).length ≤ cs.length
  | [] => Nat.le_refl _
  | c :: r => by
    rw [fst1_cons]
    split
    · simp
    · simp only [List.length_cons]
      have := (List.takeWhile_sublist (p := fun d => kd d == kd c) (l := r)).length_le
      omega
theorem mF_fuel : ∀ (n m l k : Nat) (cs : List Nat), cs.length ≤ n → cs.length ≤ m → mF n l k cs = mF m l k cs
  | 0, 0, _, _, _, _, _ => rfl
  | 0, m + 1, _, _, [], _, _ => rfl
  | n + 1, 0, _, _, [], _, _ => rfl
  | n + 1, m + 1, _, _, [], _, _ => rfl
  | 0, _, _, _, c :: r, h, _ => by simp at h
  | n + 1, 0, _, _, c :: r, _, h => by simp at h
  | n + 1, m + 1, l, k, c :: r, h1, h2 => by
    have hl : ((c :: r).drop (fst1 (c :: r)).length).length ≤ r.length := by
      have := fst1_pos c r
      rw [List.length_drop, List.length_cons]
      omega
    have g1 : r.length ≤ n := by simpa using h1
    have g2 : r.length ≤ m := by simpa using h2
    unfold mF
    rw [mF_fuel n m (l + 1) 0 _ (by omega) (by omega), mF_fuel n m l _ _ (by omega) (by omega)]
def marks (l k : Nat) (cs : List Nat) : List (Nat × Nat × List Nat) := mF cs.length l k cs
theorem marks_nil (l k : Nat) : marks l k [] = [] := rfl
theorem marks_cons (l k c : Nat) (r : List Nat) : marks l k (c :: r) =
    (if fst1 (c :: r) = [32] then [] else [(l, k, fst1 (c :: r))]) ++
      (if fst1 (c :: r) = [10] then marks (l + 1) 0 ((c :: r).drop (fst1 (c :: r)).length)
       else marks l (k + (fst1 (c :: r)).length) ((c :: r).drop (fst1 (c :: r)).length)) := by
  have hl : ((c :: r).drop (fst1 (c :: r)).length).length ≤ r.length := by
    have := fst1_pos c r
    rw [List.length_drop, List.length_cons]
    omega
  unfold marks
  rw [List.length_cons]
  conv => lhs; unfold mF
  rw [mF_fuel r.length _ (l + 1) 0 _ hl (Nat.le_refl _), mF_fuel r.length _ l _ _ hl (Nat.le_refl _)]
/-! ### sign by sign -/
abbrev Mk4 := Nat × Nat × List Nat × Nat
def ext (F : List Mk4) (line at' c : Nat) : Bool :=
  match F.getLast? with
  | some (l, a, t, s) => decide (0 < kd c) && (s == kd c) && (l == line && a + t.length == at')
  | none => false
def stp (s : List Mk4 × Nat × Nat) (c : Nat) : List Mk4 × Nat × Nat :=
  (if ext s.1 s.2.1 s.2.2 c then
      (match s.1.getLast? with
       | some (l, a, t, k) => s.1.dropLast ++ [(l, a, t ++ [c], k)]
       | none => s.1)
    else if c = 32 then s.1 else s.1 ++ [(s.2.1, s.2.2, [c], kd c)],
   if c = 10 then (s.2.1 + 1, 0) else (s.2.1, s.2.2 + 1))
def cut3 (x : Mk4) : Nat × Nat × List Nat := (x.1, x.2.1, x.2.2.1)
theorem ext_snoc (G : List Mk4) (l a : Nat) (t : List Nat) (s line at' c : Nat) :
    ext (G ++ [(l, a, t, s)]) line at' c = (decide (0 < kd c) && (s == kd c) && (l == line && a + t.length == at')) := by
  unfold ext
  rw [List.getLast?_append]
  rfl
theorem run_k (k : Nat) (hk : 0 < k) (G : List Mk4) (line a : Nat) : ∀ (tw t : List Nat) (rest : List Nat), (∀ d ∈ tw, kd d = k) →
    (tw ++ rest).foldl stp (G ++ [(line, a, t, k)], line, a + t.length) = rest.foldl stp (G ++ [(line, a, t ++ tw, k)], line, a + (t ++ tw).length)
  | [], t, rest, _ => by simp
  | d :: tw, t, rest, h => by
    have hd : kd d = k := h d List.mem_cons_self
    have ne10 : d ≠ 10 := fun e => by rw [e] at hd; have : kd 10 = 0 := by decide
                                      omega
    have step : stp (G ++ [(line, a, t, k)], line, a + t.length) d = (G ++ [(line, a, t ++ [d], k)], line, a + (t ++ [d]).length) := by
      unfold stp
      simp only [ext_snoc]
      rw [hd]
      simp [hk, ne10, Nat.add_assoc]
    rw [List.cons_append, List.foldl_cons, step, run_k k hk G line a tw (t ++ [d]) rest fun x hx => h x (List.mem_cons_of_mem _ hx)]
    simp
def NoExt (F : List Mk4) (line at' : Nat) (cs : List Nat) : Prop := ∀ c r, cs = c :: r → ext F line at' c = false
def Bnd (F : List Mk4) (line at' : Nat) : Prop := ∀ l a t s, F.getLast? = some (l, a, t, s) → l < line ∨ (l = line ∧ a + t.length ≤ at')
theorem fold_marks : ∀ (n : Nat) (cs : List Nat) (F : List Mk4) (line at' : Nat), cs.length ≤ n → NoExt F line at' cs → Bnd F line at' →
    (cs.foldl stp (F, line, at')).1.map cut3 = F.map cut3 ++ marks line at' cs
  | _, [], F, line, at', _, _, _ => by simp [marks_nil]
  | 0, c :: r, _, _, _, h, _, _ => by simp at h
  | n + 1, c :: r, F, line, at', h, he, hb => by
    have hr : r.length ≤ n := by simpa using h
    have e0 := he c r rfl
    rw [List.foldl_cons, marks_cons]
    rcases kd_cases c with ⟨k1, c1, c2⟩ | ⟨k1, c1, c2⟩ | ⟨k1, c1, c2⟩
    case inr.inr =>
      have ef : fst1 (c :: r) = [c] := by rw [fst1_cons, if_pos k1]
      rw [ef]
      by_cases hc : c = 32
      · subst hc
        have st : stp (F, line, at') 32 = (F, line, at' + 1) := by
          unfold stp
          simp [e0]
        rw [st, fold_marks n r F line (at' + 1) hr]
        · simp
        · intro d q _
          unfold ext
          cases hl : F.getLast? with
          | none => rfl
          | some x =>
            obtain ⟨l, a, t, s⟩ := x
            have := hb l a t s hl
            have : (l == line && a + t.length == at' + 1) = false := by
              rw [Bool.and_eq_false_iff]
              rcases this with z | ⟨z, y⟩
              · left; exact beq_false_of_ne (by omega)
              · right; exact beq_false_of_ne (by omega)
            show (_ && (l == line && a + t.length == at' + 1)) = false
            rw [this, Bool.and_false]
        · intro l a t s hl
          rcases hb l a t s hl with z | ⟨z, y⟩
          · exact .inl z
          · exact .inr ⟨z, by omega⟩
      · have st : stp (F, line, at') c = (F ++ [(line, at', [c], 0)], if c = 10 then (line + 1, 0) else (line, at' + 1)) := by
          unfold stp
          simp [e0, hc, k1]
        have hne : ¬ [c] = [32] := fun z => hc (by injection z)
        rw [st, if_neg hne]
        by_cases h10 : c = 10
        · subst h10
          rw [if_pos rfl, if_pos rfl, fold_marks n r _ (line + 1) 0 hr]
          · simp [cut3]
          · intro d q _
            rw [ext_snoc]
            by_cases z : 0 < kd d
            · have : ((0 : Nat) == kd d) = false := beq_false_of_ne (by omega)
              rw [this]; simp
            · simp [z]
          · intro l a t s hl
            rw [List.getLast?_append] at hl
            cases hl
            exact .inl (by omega)
        · have h10' : ¬ [c] = [10] := fun z => h10 (by injection z)
          rw [if_neg h10, if_neg h10', fold_marks n r _ line (at' + 1) hr]
          · simp [cut3]
          · intro d q _
            rw [ext_snoc]
            by_cases z : 0 < kd d
            · have : ((0 : Nat) == kd d) = false := beq_false_of_ne (by omega)
              rw [this]; simp
            · simp [z]
          · intro l a t s hl
            rw [List.getLast?_append] at hl
            cases hl
            exact .inr ⟨rfl, Nat.le_refl _⟩
    all_goals
      have hk : 0 < kd c := by omega
      have ef : fst1 (c :: r) = c :: r.takeWhile (fun d => kd d == kd c) := by rw [fst1_cons, if_neg (by omega)]
      have n32 : ¬ fst1 (c :: r) = [32] := fun z => by rw [ef] at z; injection z with z _; omega
      have n10 : ¬ fst1 (c :: r) = [10] := fun z => by rw [ef] at z; injection z with z _; omega
      have c10 : ¬ c = 10 := by omega
      have c32 : ¬ c = 32 := by omega
      have st : stp (F, line, at') c = (F ++ [(line, at', [c], kd c)], line, at' + [c].length) := by
        unfold stp
        simp [e0, c10, c32]
      rw [if_neg n32, if_neg n10, st]
      have hd : (c :: r).drop (fst1 (c :: r)).length = r.dropWhile (fun d => kd d == kd c) := by
        rw [ef, List.length_cons, List.drop_succ_cons]
        have q := List.takeWhile_append_dropWhile (p := fun d => kd d == kd c) (l := r)
        conv => lhs; rw [← q]
        rw [List.takeWhile_append_dropWhile]
        conv => lhs; arg 2; rw [← q]
        rw [List.drop_left]
      have hs : r = r.takeWhile (fun d => kd d == kd c) ++ r.dropWhile (fun d => kd d == kd c) := List.takeWhile_append_dropWhile.symm
      have hall : ∀ d ∈ r.takeWhile (fun d => kd d == kd c), kd d = kd c := fun d m => by
        simpa using mem_tw m
      have hlen : (r.dropWhile (fun d => kd d == kd c)).length ≤ n := Nat.le_trans (List.dropWhile_sublist _).length_le hr
      rw [hd]
      conv => lhs; rw [hs]
      rw [run_k (kd c) hk F line at' _ [c] _ hall, List.singleton_append, ← ef, fold_marks n _ _ line _ hlen]
      · simp [cut3]
      · intro d q eq
        rw [ext_snoc]
        have hnd : (kd d == kd c) = false := dw_head (p := fun d => kd d == kd c) eq
        have : (kd c == kd d) = false := beq_false_of_ne (fun z => by rw [z, beq_self_eq_true] at hnd; cases hnd)
        rw [this]; simp
      · intro l a t s hl
        rw [List.getLast?_append] at hl
        cases hl
        exact .inr ⟨rfl, Nat.le_refl _⟩
theorem law_marks (cs : List Nat) : (cs.foldl stp ([], 0, 0)).1.map cut3 = marks 0 0 cs := by
  have := fold_marks cs.length cs [] 0 0 (Nat.le_refl _) (fun c r _ => rfl) (fun l a t s h => by cases h)
  simpa using this
end Sd

namespace Sd
open PySem PySem.Spec PyProof.Rows L2
/-! ### the marks' texts, and marks joined again -/
def txts (cs : List Nat) : List (List Nat) := (marks 0 0 cs).map (·.2.2)
theorem txts_any : ∀ (n : Nat) (cs : List Nat) (l k : Nat), cs.length ≤ n → (marks l k cs).map (·.2.2) = txts cs
  | _, [], _, _, _ => rfl
  | 0, c :: r, _, _, h => by simp at h
  | n + 1, c :: r, l, k, h => by
    have hl : ((c :: r).drop (fst1 (c :: r)).length).length ≤ n := by
      have := fst1_pos c r
      rw [List.length_drop]
      omega
    unfold txts
    rw [marks_cons, marks_cons, List.map_append, List.map_append]
    congr 1
    · split <;> rfl
    · split
      · rw [txts_any n _ _ _ hl, txts_any n _ _ _ hl]
      · rw [txts_any n _ _ _ hl, txts_any n _ _ _ hl]
theorem txts_cons (c : Nat) (r : List Nat) : txts (c :: r) =
    (if fst1 (c :: r) = [32] then [] else [fst1 (c :: r)]) ++ txts ((c :: r).drop (fst1 (c :: r)).length) := by
  conv => lhs; unfold txts
  rw [marks_cons, List.map_append]
  congr 1
  · split <;> rfl
  · split
    · exact txts_any _ _ _ _ (Nat.le_refl _)
    · exact txts_any _ _ _ _ (Nat.le_refl _)
/-- what a mark is -/
def IsM (m : List Nat) : Prop := ∃ c r, m = c :: r ∧ c ≠ 32 ∧ ((kd c = 0 ∧ r = []) ∨ (0 < kd c ∧ ∀ d ∈ r, kd d = kd c))
theorem isM_fst1 (c : Nat) (r : List Nat) (h : ¬ fst1 (c :: r) = [32]) : IsM (fst1 (c :: r)) := by
  rw [fst1_cons] at h ⊢
  by_cases hk : kd c = 0
  · rw [if_pos hk] at h ⊢
    exact ⟨c, [], rfl, fun z => h (by rw [z]), .inl ⟨hk, rfl⟩⟩
  · rw [if_neg hk]
    refine ⟨c, _, rfl, fun z => hk (by rw [z]; decide), .inr ⟨by omega, fun d m => by simpa using mem_tw m⟩⟩
theorem isM_txts : ∀ (n : Nat) (cs : List Nat), cs.length ≤ n → ∀ m ∈ txts cs, IsM m
  | _, [], _, _, h => by cases h
  | 0, c :: r, h, _, _ => by simp at h
  | n + 1, c :: r, h, m, hm => by
    have hl : ((c :: r).drop (fst1 (c :: r)).length).length ≤ n := by
      have := fst1_pos c r
      rw [List.length_drop]
      omega
    rw [txts_cons] at hm
    rcases List.mem_append.mp hm with hm | hm
    · split at hm
      · cases hm
      · rename_i hn
        rw [List.mem_singleton.mp hm]
        exact isM_fst1 c r hn
    · exact isM_txts n _ hl m hm
def joinB : List (List Nat) → List Nat
  | [] => []
  | [m] => m
  | m :: n :: r => m ++ 32 :: joinB (n :: r)
theorem tw_all {α : Type} {p : α → Bool} {y : α} {z : List α} : ∀ {l : List α}, (∀ x ∈ l, p x = true) → p y = false → (l ++ y :: z).takeWhile p = l
  | [], _, hy => by rw [List.nil_append, List.takeWhile_cons, hy]; rfl
  | a :: l, h, hy => by
    rw [List.cons_append, List.takeWhile_cons, h a List.mem_cons_self]
    show a :: _ = _
    rw [tw_all (fun x m => h x (List.mem_cons_of_mem _ m)) hy]
theorem tw_all_nil {α : Type} {p : α → Bool} : ∀ {l : List α}, (∀ x ∈ l, p x = true) → l.takeWhile p = l
  | [], _ => rfl
  | a :: l, h => by
    rw [List.takeWhile_cons, h a List.mem_cons_self]
    show a :: _ = _
    rw [tw_all_nil fun x m => h x (List.mem_cons_of_mem _ m)]
theorem fst1_isM {m : List Nat} (h : IsM m) : fst1 m = m ∧ ∀ z, fst1 (m ++ 32 :: z) = m := by
  obtain ⟨c, r, rfl, h32, ⟨hk, rfl⟩ | ⟨hk, ha⟩⟩ := h
  · exact ⟨by rw [fst1_cons, if_pos hk], fun z => by rw [List.cons_append, fst1_cons, if_pos hk]⟩
  · have hp : ∀ x ∈ r, (kd x == kd c) = true := fun x m => by rw [ha x m]; exact beq_self_eq_true _
    have hb : (kd 32 == kd c) = false := by
      have : kd 32 = 0 := by decide
      exact beq_false_of_ne (by omega)
    exact ⟨by rw [fst1_cons, if_neg (by omega), tw_all_nil hp], fun z => by rw [List.cons_append, fst1_cons, if_neg (by omega), tw_all hp hb]⟩
theorem IsM.ne {m : List Nat} (h : IsM m) : ¬ m = [32] := by
  obtain ⟨c, r, rfl, h32, _⟩ := h
  intro z
  injection z with z _
  exact h32 z
theorem txts_join : ∀ ms : List (List Nat), (∀ m ∈ ms, IsM m) → txts (joinB ms) = ms
  | [], _ => rfl
  | [m], h => by
    have hm := h m List.mem_cons_self
    have e := (fst1_isM hm).1
    obtain ⟨c, r, em, _⟩ := id hm
    show txts m = [m]
    rw [em] at e hm ⊢
    rw [txts_cons, e, if_neg hm.ne, List.drop_length]
    rfl
  | m :: n :: q, h => by
    have hm := h m List.mem_cons_self
    have e := (fst1_isM hm).2 (joinB (n :: q))
    have ih := txts_join (n :: q) fun x hx => h x (List.mem_cons_of_mem _ hx)
    obtain ⟨c, r, em, _⟩ := id hm
    show txts (m ++ 32 :: joinB (n :: q)) = m :: n :: q
    have e2 : m ++ 32 :: joinB (n :: q) = c :: (r ++ 32 :: joinB (n :: q)) := by rw [em]; rfl
    rw [e2] at e ⊢
    rw [txts_cons, e, if_neg hm.ne, ← e2, List.drop_left]
    have e3 : txts (32 :: joinB (n :: q)) = txts (joinB (n :: q)) := by
      rw [txts_cons]
      have : fst1 (32 :: joinB (n :: q)) = [32] := by rw [fst1_cons, if_pos (by decide)]
      rw [this, if_pos rfl]
      rfl
    rw [e3, ih]
    rfl
/-! ### sizes -/
theorem marks_size : ∀ (n : Nat) (cs : List Nat) (l k : Nat), cs.length ≤ n →
    (marks l k cs).length ≤ cs.length ∧ ((marks l k cs).map (·.2.2.length)).sum ≤ cs.length ∧ (∀ x ∈ marks l k cs, x.1 ≤ l + cs.length ∧ x.2.1 ≤ k + cs.length ∧ ∀ c ∈ x.2.2, c ∈ cs)
  | _, [], _, _, _ => ⟨Nat.le_refl _, Nat.le_refl _, fun x h => by cases h⟩
  | 0, c :: r, _, _, h => by simp at h
  | n + 1, c :: r, l, k, h => by
    have hp := fst1_pos c r
    have hle := fst1_le (c :: r)
    have hl : ((c :: r).drop (fst1 (c :: r)).length).length = (c :: r).length - (fst1 (c :: r)).length := List.length_drop
    have hin : ∀ d ∈ fst1 (c :: r), d ∈ c :: r := by
      intro d hd
      rw [fst1_cons] at hd
      split at hd
      · rw [List.mem_singleton.mp hd]; exact List.mem_cons_self
      · rcases List.mem_cons.mp hd with rfl | hd
        · exact List.mem_cons_self
        · exact List.mem_cons_of_mem _ ((List.takeWhile_sublist _).subset hd)
    have hdr : ∀ d ∈ (c :: r).drop (fst1 (c :: r)).length, d ∈ c :: r := fun d hd => List.mem_of_mem_drop hd
    have key : ∀ l2 k2 : Nat, l2 ≤ l + (fst1 (c :: r)).length → k2 ≤ k + (fst1 (c :: r)).length →
        ((if fst1 (c :: r) = [32] then [] else [(l, k, fst1 (c :: r))]) ++ marks l2 k2 ((c :: r).drop (fst1 (c :: r)).length)).length ≤ (c :: r).length ∧
        (((if fst1 (c :: r) = [32] then [] else [(l, k, fst1 (c :: r))]) ++ marks l2 k2 ((c :: r).drop (fst1 (c :: r)).length)).map (·.2.2.length)).sum ≤ (c :: r).length ∧
        (∀ x ∈ (if fst1 (c :: r) = [32] then [] else [(l, k, fst1 (c :: r))]) ++ marks l2 k2 ((c :: r).drop (fst1 (c :: r)).length), x.1 ≤ l + (c :: r).length ∧ x.2.1 ≤ k + (c :: r).length ∧ ∀ d ∈ x.2.2, d ∈ c :: r) := by
      intro l2 k2 h1 h2
      obtain ⟨a1, a2, a3⟩ := marks_size n ((c :: r).drop (fst1 (c :: r)).length) l2 k2 (by omega)
      refine ⟨?_, ?_, ?_⟩
      · rw [List.length_append]
        have : (if fst1 (c :: r) = [32] then ([] : List (Nat × Nat × List Nat)) else [(l, k, fst1 (c :: r))]).length ≤ 1 := by split <;> simp
        omega
      · rw [List.map_append, List.sum_append]
        have : ((if fst1 (c :: r) = [32] then ([] : List (Nat × Nat × List Nat)) else [(l, k, fst1 (c :: r))]).map (·.2.2.length)).sum ≤ (fst1 (c :: r)).length := by split <;> simp
        omega
      · intro x hx
        rcases List.mem_append.mp hx with hx | hx
        · split at hx
          · cases hx
          · rw [List.mem_singleton.mp hx]
            exact ⟨Nat.le_add_right _ _, Nat.le_add_right _ _, hin⟩
        · obtain ⟨b1, b2, b3⟩ := a3 x hx
          exact ⟨by omega, by omega, fun d hd => hdr d (b3 d hd)⟩
    rw [marks_cons]
    by_cases h10 : fst1 (c :: r) = [10]
    · rw [if_pos h10]
      exact key (l + 1) 0 (by omega) (by omega)
    · rw [if_neg h10]
      exact key l _ (by omega) (Nat.le_refl _)
theorem joinB_len : ∀ ms : List (List Nat), (joinB ms).length ≤ (ms.map (·.length)).sum + ms.length
  | [] => Nat.le_refl _
  | [m] => by simp [joinB]
  | m :: n :: r => by
    have := joinB_len (n :: r)
    show (m ++ 32 :: joinB (n :: r)).length ≤ _
    simp only [List.length_append, List.length_cons, List.map_cons, List.sum_cons] at this ⊢
    omega
end Sd

namespace Sd
open PySem PySem.Spec PyProof.Rows L2
abbrev N_run_end : List Str := ["text", "at", "signs"]
theorem sc_run_end : FnScope N_run_end ["text", "at", "signs"] (defScope s_run_end) := ⟨rfl, rfl, rfl, by decide +kernel, rfl, by decide +kernel, by decide +kernel⟩
/-- codes of a text -/
abbrev cds (z : Str) : List Nat := z.cps.toList
def runE (cs g : List Nat) (a : Nat) : Nat := a + ((cs.drop a).takeWhile (fun d => decide (d ∈ g))).length
theorem runE_go {cs g : List Nat} {a c : Nat} (h : cs[a]? = some c) (hg : c ∈ g) : runE cs g a = runE cs g (a + 1) := by
  obtain ⟨ha, e⟩ := List.getElem?_eq_some_iff.mp h
  unfold runE
  rw [List.drop_eq_getElem_cons ha, e, List.takeWhile_cons, decide_eq_true hg, if_pos rfl, List.length_cons]
  omega
theorem runE_end {cs g : List Nat} {a : Nat} (h : ∀ c, cs[a]? = some c → c ∉ g) : runE cs g a = a := by
  unfold runE
  by_cases ha : a < cs.length
  · rw [List.drop_eq_getElem_cons ha, List.takeWhile_cons, decide_eq_false (h _ (List.getElem?_eq_getElem ha))]
    rfl
  · rw [List.drop_eq_nil_of_le (by omega)]
    rfl
theorem cps_get {z : Str} {i : Nat} : z.cps[i]? = (cds z)[i]? := by simp [cds]
theorem cds_len (z : Str) : (cds z).length = z.length := by simp [cds, Str.length]
def spRunEnd : Sp := fun vs H Q _ => ∃ (z g : Str) (a : Nat), vs = [.str z, .int a, .str g] ∧ a ≤ z.length ∧ z.length ≤ 100000 ∧
  Q (.int (runE (cds z) (cds g) a : Nat)) H
section
variable {P : Program} {w : World} {K : PySem.W.Frag} {mg : Str → Option Value} {base : Heap}
theorem ok_run_end (T : Txt K mg) : FnOk P w K mg base CX0 1 T.a_run_end T.d_run_end ["text", "at", "signs"] spRunEnd := by
  refine T.F_run_end.ok sc_run_end (fun vs H Q E h => ?_) (fun cdv A outer s H vs Q E hr h => ?_)
  · obtain ⟨z, g, a, rfl, _⟩ := h
    rfl
  · obtain ⟨z, g, a, rfl, ha, hz, k⟩ := h
    refine ⟨_, (pss_cons (ps_while PassesOwn.never (PW.pt (pw_and (pt_cmpR op_lt (pv 1) (pe_callB call_len_str (by rfl) T.n_len (by decide +kernel) (pa_cons (pv 0) pa_nil)) (nomark _)) (pw_and1 (pt_cmpR op_in_sign (pe_item_str (pv 0) (pv 1) (fun _ _ => rfl)) (pv 2) rfl))))
      (pss_one (ps_set (i := 1) sc_run_end.nd rfl (.inl rfl) (pe_op op_add (pv 1) pe_int))))
    (pss_one (ps_ret (pv 1)))), ?_⟩
    refine sq (while_to (fun n σ H' => ∃ b : Nat, σ = [some (.str z), some (.int b), some (.str g)] ∧ H' = H ∧ b ≤ z.length ∧ runE (cds z) (cds g) b = runE (cds z) (cds g) a ∧ n = z.length - b)
      (fun σ H' => ∃ b : Nat, σ = [some (.str z), some (.int b), some (.str g)] ∧ H' = H ∧ b = runE (cds z) (cds g) a) _ ⟨a, rfl, rfl, ha, rfl, rfl⟩ ?_ ?_)
    · rintro σ H' ⟨b, rfl, rfl, rfl⟩
      exact ⟨_, rfl, k⟩
    · rintro after n σ H' ⟨b, rfl, rfl, hb, hrun, rfl⟩
      refine ⟨_, rfl, _, rfl, z, rfl, Nat.le_trans hz (by decide), _, _, rfl, rfl, _, rfl, ?_⟩
      by_cases hlt : b < z.length
      · rw [decide_eq_true (show (b : Int) < (z.length : Int) by omega)]
        obtain ⟨c, hc⟩ : ∃ c, (cds z)[b]? = some c := ⟨_, List.getElem?_eq_getElem (by rw [cds_len]; exact hlt)⟩
        refine iteT ⟨_, rfl, _, rfl, z, b, c, rfl, rfl, by omega, by omega, by omega, ?_, _, rfl, c, g, rfl, rfl, _, rfl, ?_⟩
        · rw [Int.toNat_natCast, cps_get]; exact hc
        · by_cases hg : c ∈ cds g
          · rw [decide_eq_true hg]
            refine iteT ⟨_, fun _ _ n => n, ?_⟩
            refine ⟨_, rfl, _, _, rfl, rfl, z.length - (b + 1), by omega, b + 1, rfl, rfl, by omega, ?_, rfl⟩
            rw [← hrun, runE_go hc hg]
          · rw [decide_eq_false hg]
            refine iteF (after _ _ ⟨b, rfl, rfl, ?_⟩)
            rw [← hrun, runE_end fun d hd => by rw [hc] at hd; injection hd with e; rw [← e]; exact hg]
      · rw [decide_eq_false (show ¬ (b : Int) < (z.length : Int) by omega)]
        refine iteF (iteF (after _ _ ⟨b, rfl, rfl, ?_⟩))
        rw [← hrun, runE_end fun d hd => by rw [List.getElem?_eq_none (by rw [cds_len]; omega)] at hd; cases hd]
end
end Sd

namespace Sd
open PySem PySem.Spec PyProof.Rows L2
abbrev N_mark_at : List Str := ["text", "at"]
theorem sc_mark_at : FnScope N_mark_at ["text", "at"] (defScope s_mark_at) := ⟨rfl, rfl, rfl, by decide +kernel, rfl, by decide +kernel, by decide +kernel⟩
abbrev LET : Str := "abcdefghijklmnopqrstuvwxyz"
abbrev DIG : Str := "0123456789"
theorem mem_let (c : Nat) : c ∈ cds LET ↔ kd c = 1 := by
  have e : cds LET = List.range' 97 26 := by decide +kernel
  rw [e, List.mem_range'_1]
  rcases kd_cases c with ⟨k, a, b⟩ | ⟨k, a, b⟩ | ⟨k, a, b⟩
  · constructor
    · intro _; exact k
    · intro _; omega
  · constructor
    · intro _; omega
    · intro _; omega
  · constructor
    · intro _; exact absurd ⟨by omega, by omega⟩ a
    · intro _; omega
theorem mem_dig (c : Nat) : c ∈ cds DIG ↔ kd c = 2 := by
  have e : cds DIG = List.range' 48 10 := by decide +kernel
  rw [e, List.mem_range'_1]
  rcases kd_cases c with ⟨k, a, b⟩ | ⟨k, a, b⟩ | ⟨k, a, b⟩
  · constructor
    · intro _; omega
    · intro _; omega
  · constructor
    · intro _; exact k
    · intro _; omega
  · constructor
    · intro _; exact absurd ⟨by omega, by omega⟩ b
    · intro _; omega
theorem cutS_nat {z : Str} {a e : Nat} (ha : a ≤ e) (he : e ≤ z.length) : cutS z (some (a : Int)) (some (e : Int)) = ⟨(((cds z).drop a).take (e - a)).toArray⟩ := by
  unfold cutS
  rw [HT.sIx_nat, HT.sIx_nat, Nat.min_eq_left he, Nat.min_eq_left (Nat.le_trans ha he)]
theorem take_tw {α : Type} (p : α → Bool) : ∀ l : List α, l.take (l.takeWhile p).length = l.takeWhile p
  | [] => rfl
  | a :: l => by
    rw [List.takeWhile_cons]
    split
    · rw [List.length_cons, List.take_succ_cons, take_tw p l]
    · rfl
theorem runE_le {cs g : List Nat} {a : Nat} (h : a ≤ cs.length) : a ≤ runE cs g a ∧ runE cs g a ≤ cs.length := by
  unfold runE
  have := (List.takeWhile_sublist (p := fun d => decide (d ∈ g)) (l := cs.drop a)).length_le
  rw [List.length_drop] at this
  omega
/-- a run's text, from one of its signs on -/
theorem cut_run {z g : Str} {a c k : Nat} (hc : (cds z)[a]? = some c) (hg : ∀ d, d ∈ cds g ↔ kd d = k) (hk : kd c = k) (k0 : 0 < k) :
    cutS z (some (a : Int)) (some ((runE (cds z) (cds g) a : Nat) : Int)) = ⟨(fst1 ((cds z).drop a)).toArray⟩ := by
  obtain ⟨ha, e⟩ := List.getElem?_eq_some_iff.mp hc
  have hb := runE_le (g := cds g) (Nat.le_of_lt ha)
  rw [cutS_nat hb.1 (by rw [← cds_len]; exact hb.2)]
  congr 2
  have e1 : runE (cds z) (cds g) a - a = (((cds z).drop a).takeWhile (fun d => decide (d ∈ cds g))).length := by
    unfold runE
    omega
  rw [e1, take_tw, List.drop_eq_getElem_cons ha, e, fst1_cons, if_neg (by omega), List.takeWhile_cons, decide_eq_true ((hg c).mpr hk), if_pos rfl]
  congr 2
  funext d
  rw [hk]
  by_cases hd : kd d = k
  · rw [decide_eq_true ((hg d).mpr hd), hd, beq_self_eq_true]
  · rw [decide_eq_false (fun z => hd ((hg d).mp z)), beq_false_of_ne hd]
def spMarkAt : Sp := fun vs H Q _ => ∃ (z : Str) (a : Nat), vs = [.str z, .int a] ∧ a < z.length ∧ z.length ≤ 100000 ∧
  Q (.str ⟨(fst1 ((cds z).drop a)).toArray⟩) H
section
variable {P : Program} {w : World} {K : PySem.W.Frag} {mg : Str → Option Value} {base : Heap}
theorem ok_mark_at (T : Txt K mg) : FnOk P w K mg base CX0 2 T.a_mark_at T.d_mark_at ["text", "at"] spMarkAt := by
  have G_run_end : FnOk P w K mg base CX0 1 T.a_run_end T.d_run_end _ _ := ok_run_end T
  refine T.F_mark_at.ok sc_mark_at (fun vs H Q E h => ?_) (fun cdv A outer s H vs Q E hr h => ?_)
  · obtain ⟨z, a, rfl, _⟩ := h
    rfl
  · obtain ⟨z, a, rfl, ha, hz, k⟩ := h
    refine ⟨_, (pss_cons (ps_if (pt_cmpR op_in_sign (pe_item_str (pv 0) (pv 1) (fun _ _ => rfl)) (pe_glob (v := .str "abcdefghijklmnopqrstuvwxyz") (by rfl) T.g_LETTERS ⟨_, rfl⟩) rfl)
      (pss_one (ps_ret (pe_slice sl_str (pv 0) (po_some (pv 1)) (po_some (pe_call G_run_end hr (by rfl) T.g_run_end T.k_run_end T.b_run_end .nil pass0 (pa_cons (pv 0) (pa_cons (pv 1) (pa_cons (pe_glob (v := .str "abcdefghijklmnopqrstuvwxyz") (by rfl) T.g_LETTERS ⟨_, rfl⟩) pa_nil))))))))
      pss_nil)
    (pss_one (ps_ret (pe_ifExp (pt_cmpR op_in_sign (pe_item_str (pv 0) (pv 1) (fun _ _ => rfl)) (pe_glob (v := .str "0123456789") (by rfl) T.g_DIGITS ⟨_, rfl⟩) rfl) (pe_slice sl_str (pv 0) (po_some (pv 1)) (po_some (pe_call G_run_end hr (by rfl) T.g_run_end T.k_run_end T.b_run_end .nil pass0 (pa_cons (pv 0) (pa_cons (pv 1) (pa_cons (pe_glob (v := .str "0123456789") (by rfl) T.g_DIGITS ⟨_, rfl⟩) pa_nil)))))) (pe_item_str (pv 0) (pv 1) (fun _ _ => rfl)))))), ?_⟩
    obtain ⟨c, hc⟩ : ∃ c, (cds z)[a]? = some c := ⟨_, List.getElem?_eq_getElem (by rw [cds_len]; exact ha)⟩
    have hc' : z.cps[((a : Nat) : Int).toNat]? = some c := by rw [Int.toNat_natCast, cps_get]; exact hc
    have hz2 : z.length ≤ sizeLine := Nat.le_trans hz (by decide)
    have hd : (cds z).drop a = c :: (cds z).drop (a + 1) := by
      obtain ⟨q, e⟩ := List.getElem?_eq_some_iff.mp hc
      rw [List.drop_eq_getElem_cons q, e]
    refine sq ⟨_, rfl, _, rfl, z, a, c, rfl, rfl, by omega, by omega, by omega, hc', c, LET, rfl, rfl, _, rfl, ?_⟩
    by_cases h1 : c ∈ cds LET
    · rw [decide_eq_true h1]
      refine iteT ⟨_, rfl, _, rfl, _, rfl, _, rfl, _, rfl, z, LET, a, rfl, by omega, hz, _, rfl, z, rfl, hz2, ?_⟩
      rw [cut_run hc mem_let ((mem_let c).mp h1) (by decide)]
      exact k
    · rw [decide_eq_false h1]
      refine iteF ⟨_, rfl, _, rfl, z, a, c, rfl, rfl, by omega, by omega, by omega, hc', c, DIG, rfl, rfl, _, rfl, ?_⟩
      by_cases h2 : c ∈ cds DIG
      · rw [decide_eq_true h2]
        refine iteT ⟨_, rfl, _, rfl, _, rfl, _, rfl, _, rfl, z, DIG, a, rfl, by omega, hz, _, rfl, z, rfl, hz2, ?_⟩
        rw [cut_run hc mem_dig ((mem_dig c).mp h2) (by decide)]
        exact k
      · rw [decide_eq_false h2]
        refine iteF ⟨_, rfl, _, rfl, z, a, c, rfl, rfl, by omega, by omega, by omega, hc', ?_⟩
        have hk : kd c = 0 := by
          rcases kd_cases c with ⟨q, _⟩ | ⟨q, _⟩ | ⟨q, _⟩
          · exact absurd ((mem_let c).mpr q) h1
          · exact absurd ((mem_dig c).mpr q) h2
          · exact q
        rw [hd, fst1_cons, if_pos hk] at k
        exact k
end
end Sd

namespace Sd
open PySem PySem.Spec PyProof.Rows L2
abbrev N_marks_in : List Str := ["text", "found", "line", "start", "at", "mark"]
theorem sc_marks_in : FnScope N_marks_in ["text"] (defScope s_marks_in) := ⟨rfl, rfl, rfl, by decide +kernel, rfl, by decide +kernel, by decide +kernel⟩
/-! ### marks as they lie -/
/-- all tuples stay -/
def TK (H H1 : Hp) : Prop := ∀ b ts, H b = some (.tup ts) → H1 b = some (.tup ts)
theorem TK.refl (H : Hp) : TK H H := fun _ _ h => h
theorem TK.trans {H H1 H2 : Hp} (x : TK H H1) (y : TK H1 H2) : TK H H2 := fun b t h => y b t (x b t h)
theorem TK.new {H H1 : Hp} {p : Addr} {o : HO} (x : TK H H1) (h : H1 p = none) : TK H (upd H1 p o) := fun b t e => by
  have e1 := x b t e
  rw [upd_ne (ne_of_none e1 h)]
  exact e1
theorem TK.mut {H H1 : Hp} {p : Addr} {o : HO} {xs : List V} (x : TK H H1) (h : H1 p = some (.lst xs)) : TK H (upd H1 p o) := fun b t e => by
  have e1 := x b t e
  rw [upd_ne (ne_of e1 h (by intro z; cases z))]
  exact e1
theorem TK.same {H H1 : Hp} (x : Same H H1) : TK H H1 := fun b t h => x b _ h
def MkAt (H : Hp) (v : V) (x : Nat × Nat × List Nat) : Prop := ∃ t, v = .ref t ∧ H t = some (.tup [.int x.1, .int x.2.1, .str ⟨x.2.2.toArray⟩])
def mD (x : Nat × Nat × List Nat) : PyData := .tuple [.int x.1, .int x.2.1, .str ⟨x.2.2.toArray⟩]
abbrev MkAll (H : Hp) : List V → List (Nat × Nat × List Nat) → Prop := Paired (MkAt H)
theorem MkAll.tk {H H1 : Hp} {xs ds} (h : MkAll H xs ds) (t : TK H H1) : MkAll H1 xs ds := Paired.mapP h fun _ _ ⟨a, e, q⟩ => ⟨a, e, t _ _ q⟩
theorem paired_snoc {α β : Type} {F : α → β → Prop} {a : α} {b : β} (h : F a b) : ∀ {xs : List α} {ys : List β}, Paired F xs ys → Paired F (xs ++ [a]) (ys ++ [b])
  | _, _, .nil => .cons h .nil
  | _, _, .cons r t => .cons r (paired_snoc h t)
theorem paired_len {α β : Type} {F : α → β → Prop} : ∀ {xs : List α} {ys : List β}, Paired F xs ys → xs.length = ys.length
  | _, _, .nil => rfl
  | _, _, .cons _ t => by rw [List.length_cons, List.length_cons, paired_len t]
theorem MkAll.dp {K : PySem.W.Frag} {H : Hp} : ∀ {xs ds}, MkAll H xs ds → DpAll K H xs (ds.map mD)
  | _, _, .nil => .nil
  | _, _, .cons ⟨t, e, q⟩ r => by
    subst e
    exact .cons (.tup (SqT.of q) (.cons (.int _) (.cons (.int _) (.cons (.str _) .nil)))) (MkAll.dp r)
theorem str_inj {m n : List Nat} : (V.str ⟨m.toArray⟩ = V.str ⟨n.toArray⟩) ↔ m = n := by
  constructor
  · intro h
    injection h with h
    injection h with h
    have := congrArg Array.toList h
    simpa using this
  · rintro rfl; rfl
theorem blank_eq : (" " : Str) = ⟨[32].toArray⟩ := by decide +kernel
theorem line_eq : ("\n" : Str) = ⟨[10].toArray⟩ := by decide +kernel
theorem nd_ne {x y : V} (e : (!decide (x = y)) = true) : x ≠ y := by simpa using e
theorem nd_eq {x y : V} (e : ¬ (!decide (x = y)) = true) : x = y := by simpa using e
theorem same_mut {H H1 : Hp} {p : Addr} {o : HO} (x : Same H H1) (h : H p = none) : Same H (upd H1 p o) := fun b u e => by
  rw [upd_ne (ne_of_none e h)]
  exact x b u e
theorem fst1_drop {cs : List Nat} {a : Nat} (h : a < cs.length) : 1 ≤ (fst1 (cs.drop a)).length ∧ a + (fst1 (cs.drop a)).length ≤ cs.length := by
  have := fst1_le (cs.drop a)
  rw [List.length_drop] at this
  rw [List.drop_eq_getElem_cons h] at this ⊢
  have := fst1_pos cs[a] (cs.drop (a + 1))
  omega
def spMarksIn : Sp := fun vs H Q _ => ∃ z : Str, vs = [.str z] ∧ z.length ≤ 100000 ∧
  ∀ H' a xs, Same H H' → H' a = some (.tup xs) → MkAll H' xs (marks 0 0 (cds z)) → Q (.ref a) H'
section
variable {P : Program} {w : World} {K : PySem.W.Frag} {mg : Str → Option Value} {base : Heap}
theorem ok_marks_in (T : Txt K mg) : FnOk P w K mg base CX0 3 T.a_marks_in T.d_marks_in ["text"] spMarksIn := by
  have G_mark_at : FnOk P w K mg base CX0 2 T.a_mark_at T.d_mark_at _ _ := ok_mark_at T
  refine T.F_marks_in.ok sc_marks_in (fun vs H Q E h => ?_) (fun cdv A outer s H vs Q E hr h => ?_)
  · obtain ⟨z, rfl, _⟩ := h
    rfl
  · obtain ⟨z, rfl, hz, k⟩ := h
    refine ⟨_, (pss_cons (ps_asg (pe_tup (pa_cons (pe_lst pa_nil) (pa_cons pe_int (pa_cons pe_int (pa_cons pe_int pa_nil))))) (pg_tup (by rfl) (pgs_cons (pg_name (i := 1) sc_marks_in.nd rfl (.inl rfl)) (pgs_cons (pg_name (i := 2) sc_marks_in.nd rfl (.inl rfl)) (pgs_cons (pg_name (i := 3) sc_marks_in.nd rfl (.inl rfl)) (pgs_cons (pg_name (i := 4) sc_marks_in.nd rfl (.inl rfl)) pgs_nil))))))
    (pss_cons (ps_while PassesOwn.never (pt_cmpR op_lt (pv 4) (pe_callB call_len_str (by rfl) T.n_len (by decide +kernel) (pa_cons (pv 0) pa_nil)) (nomark _))
      (pss_cons (ps_set (i := 5) sc_marks_in.nd rfl (.inl rfl) (pe_call G_mark_at hr (by rfl) T.g_mark_at T.k_mark_at T.b_mark_at .nil pass0 (pa_cons (pv 0) (pa_cons (pv 4) pa_nil))))
      (pss_cons (ps_if (pt_cmpR op_ne (pv 5) pe_str (nomark _))
        (pss_one (ps_expr (pe_bm PySem.F.plainAttrs_list PySem.F.slot_list_append PySem.F.type_list_append mt_append (pv 1) (pa_cons (pe_tup (pa_cons (pv 2) (pa_cons (pe_op op_sub (pv 4) (pv 3)) (pa_cons (pv 5) pa_nil)))) pa_nil))))
        pss_nil)
      (pss_cons (ps_set (i := 4) sc_marks_in.nd rfl (.inl rfl) (pe_op op_add (pv 4) (pe_callB call_len_str (by rfl) T.n_len (by decide +kernel) (pa_cons (pv 5) pa_nil))))
      (pss_one (ps_if (pt_cmpR op_eq (pv 5) pe_str (nomark _))
        (pss_one (ps_par (i := 2) (j := 3) (by rfl) sc_marks_in.nd rfl rfl (by decide) rfl rfl (pa_cons (pe_op op_add (pv 2) pe_int) (pa_cons (pv 4) pa_nil)) (by rfl)))
        pss_nil))))))
    (pss_one (ps_ret (pe_callTy call_tuple_of (by rfl) T.n_tuple (by decide +kernel) (pa_cons (pv 1) pa_nil)))))), ?_⟩
    have hz2 : z.length ≤ sizeLine := Nat.le_trans hz (by decide)
    -- found, line, start, at = [], 0, 0, 0
    refine sq ⟨Nat.zero_le _, fun f nf => ⟨by show 4 ≤ sizeLine; decide, fun p np => ⟨p, _, rfl, SqT.of upd_same, rfl, _, _, rfl, _, _, rfl, _, _, rfl, _, [], rfl, rfl, ?_⟩⟩⟩
    have fp : f ≠ p := ne_of_none upd_same np
    have s1 : Same H (upd (upd H f (.lst [])) p (.tup [.ref f, .int 0, .int 0, .int 0])) := (same_new nf).trans (same_new np)
    have g1 : (upd (upd H f (.lst [])) p (.tup [.ref f, .int 0, .int 0, .int 0])) f = some (.lst []) := (upd_ne fp).trans upd_same
    generalize upd (upd H f (.lst [])) p (.tup [.ref f, .int 0, .int 0, .int 0]) = H1 at s1 g1
    -- while at < len(text)
    refine sq (while_to (fun n σ H' => ∃ (l st a : Nat) (mk : Option V) (xs : List V) (ds : List (Nat × Nat × List Nat)),
        σ = [some (.str z), some (.ref f), some (.int l), some (.int st), some (.int a), mk] ∧ Same H H' ∧ H' f = some (.lst xs) ∧ MkAll H' xs ds ∧ st ≤ a ∧ a ≤ z.length ∧
        ds ++ marks l (a - st) ((cds z).drop a) = marks 0 0 (cds z) ∧ n = z.length - a)
      (fun σ H' => ∃ (l st a : Nat) (mk : Option V) (xs : List V),
        σ = [some (.str z), some (.ref f), some (.int l), some (.int st), some (.int a), mk] ∧ Same H H' ∧ H' f = some (.lst xs) ∧ MkAll H' xs (marks 0 0 (cds z)))
      _ ⟨0, 0, 0, none, [], [], rfl, s1, g1, .nil, Nat.le_refl _, Nat.zero_le _, rfl, rfl⟩ ?_ ?_)
    · rintro σ H' ⟨l, st, a, mk, xs, rfl, sm, hf, hm⟩
      -- return tuple(found)
      refine ⟨_, rfl, f, xs, rfl, .inl ⟨SqL.of hf, fun t nt => ?_⟩⟩
      exact k _ t xs (sm.trans (same_new nt)) upd_same (hm.tk (TK.new (TK.refl _) nt))
    · rintro after n σ H' ⟨l, st, a, mk, xs, ds, rfl, sm, hf, hm, hst, ha, hmk, rfl⟩
      refine ⟨_, rfl, _, rfl, z, rfl, hz2, _, _, rfl, rfl, _, rfl, ?_⟩
      by_cases hlt : a < z.length
      · rw [decide_eq_true (show (a : Int) < (z.length : Int) by omega)]
        have hcl : a < (cds z).length := by rw [cds_len]; exact hlt
        obtain ⟨m1, m2⟩ := fst1_drop hcl
        rw [cds_len] at m2
        refine iteT ⟨_, fun _ _ n => n, ?_⟩
        -- mark = mark_at(text, at)
        refine sq ⟨_, rfl, _, rfl, z, a, rfl, hlt, hz, ?_⟩
        obtain ⟨c, r, ecr⟩ : ∃ c r, (cds z).drop a = c :: r := ⟨_, _, List.drop_eq_getElem_cons hcl⟩
        have hdrop : (cds z).drop (a + (fst1 ((cds z).drop a)).length) = ((cds z).drop a).drop (fst1 ((cds z).drop a)).length := by rw [List.drop_drop]
        rw [ecr] at hmk
        rw [marks_cons, ← ecr, ← hdrop, ← List.append_assoc] at hmk
        generalize fst1 ((cds z).drop a) = m at m1 m2 hmk ⊢
        dsimp only
        -- if mark != " ": found.append((line, at - start, mark))
        refine sq (to_next (fun σ H' => ∃ xs, σ = [some (.str z), some (.ref f), some (.int l), some (.int st), some (.int a), some (.str ⟨m.toArray⟩)] ∧ Same H H' ∧ H' f = some (.lst xs) ∧
          MkAll H' xs (ds ++ if m = [32] then [] else [(l, a - st, m)])) ?_ ?_)
        · rintro σ H2 ⟨xs2, rfl, sm2, hf2, hm2⟩
          have hml : (⟨m.toArray⟩ : Str).length = m.length := by simp [Str.length]
          -- at = at + len(mark)
          refine sq ⟨_, rfl, _, rfl, _, rfl, by rw [hml]; omega, _, _, rfl, rfl, ?_⟩
          have hat : ((a : Int) + (((⟨m.toArray⟩ : Str).length : Nat) : Int)) = ((a + m.length : Nat) : Int) := by rw [hml]; omega
          -- if mark == "\n": line, start = line + 1, at
          refine ⟨_, rfl, rfl, _, rfl, ite2 (fun e => ?_) (fun e => ?_)⟩
          · have e10 : m = [10] := str_inj.mp ((of_decide_eq_true e).trans (congrArg V.str line_eq))
            rw [if_pos e10] at hmk
            refine ⟨_, rfl, _, _, rfl, rfl, _, rfl, _, _, rfl, ?_⟩
            refine ⟨z.length - (a + m.length), by omega, l + 1, a + m.length, a + m.length, some (.str ⟨m.toArray⟩), xs2, _, ?_, sm2, hf2, hm2, Nat.le_refl _, m2, ?_, rfl⟩
            · show [some (V.str z), some (V.ref f), some (V.int ((l : Int) + 1)), some (V.int ((a : Int) + (((⟨m.toArray⟩ : Str).length : Nat) : Int))), some (V.int ((a : Int) + (((⟨m.toArray⟩ : Str).length : Nat) : Int))), some (V.str ⟨m.toArray⟩)] = _
              rw [hat]
              rfl
            · rw [Nat.sub_self]
              exact hmk
          · have e10 : ¬ m = [10] := fun q => e (decide_eq_true ((str_inj.mpr q).trans (congrArg V.str line_eq.symm)))
            rw [if_neg e10] at hmk
            refine ⟨z.length - (a + m.length), by omega, l, st, a + m.length, some (.str ⟨m.toArray⟩), xs2, _, ?_, sm2, hf2, hm2, by omega, m2, ?_, rfl⟩
            · show [some (V.str z), some (V.ref f), some (V.int (l : Int)), some (V.int (st : Int)), some (V.int ((a : Int) + (((⟨m.toArray⟩ : Str).length : Nat) : Int))), some (V.str ⟨m.toArray⟩)] = _
              rw [hat]
            · rw [show a + m.length - st = a - st + m.length by omega]
              exact hmk
        · intro next
          refine ⟨_, rfl, rfl, _, rfl, ite2 (fun e => ?_) (fun e => ?_)⟩
          · have e32 : ¬ m = [32] := fun q => nd_ne e ((str_inj.mpr q).trans (congrArg V.str blank_eq.symm))
            refine ⟨_, rfl, .inl ⟨rfl, _, SqL.of hf⟩, _, rfl, _, rfl, _, rfl, _, _, rfl, rfl, _, rfl, by show 3 ≤ sizeLine; decide, fun t nt => ?_⟩
            have ft : f ≠ t := ne_of_none hf nt
            have hf' := (upd_ne (o := .tup [.int l, .int ((a : Int) - st), .str ⟨m.toArray⟩]) (H := H') ft).trans hf
            have hnf : H f = none := nf
            have len1 : xs.length ≤ z.length := by
              have q1 := (marks_size _ (cds z) 0 0 (Nat.le_refl _)).1
              rw [← hmk, List.length_append, List.length_append, ← paired_len hm, cds_len] at q1
              omega
            refine ⟨f, xs, _, rfl, rfl, hf', Nat.lt_of_le_of_lt (Nat.le_trans len1 hz) (by decide), next _ _ ⟨_, rfl, same_mut (sm.trans (same_new nt)) hnf, upd_same, ?_⟩⟩
            rw [if_neg e32]
            refine paired_snoc ?_ (hm.tk ((TK.new (TK.refl _) nt).mut hf'))
            refine ⟨t, rfl, ?_⟩
            rw [upd_ne ft.symm, upd_same]
            show some (HO.tup [V.int (l : Int), V.int ((a : Int) - (st : Int)), _]) = some (HO.tup [V.int (l : Int), V.int ((a - st : Nat) : Int), _])
            rw [show ((a : Int) - (st : Int)) = ((a - st : Nat) : Int) by omega]
          · have e32 : m = [32] := str_inj.mp ((nd_eq e).trans (congrArg V.str blank_eq))
            refine next _ _ ⟨xs, rfl, sm, hf, ?_⟩
            rw [if_pos e32, List.append_nil]
            exact hm
      · rw [decide_eq_false (show ¬ (a : Int) < (z.length : Int) by omega)]
        refine iteF (after _ _ ⟨l, st, a, mk, xs, rfl, sm, hf, ?_⟩)
        rw [List.drop_eq_nil_of_le (by rw [cds_len]; omega), marks_nil, List.append_nil] at hmk
        rw [← hmk]
        exact hm
end
end Sd

namespace Sd
open PySem PySem.Spec PyProof.Rows L2
abbrev N_law_heap : List Str := ["_law_script", "_law_cells", "_law_stir", "_law_cell"]
theorem sc_law_heap : FnScope N_law_heap ["_law_script"] (defScope s_law_heap) := ⟨rfl, rfl, rfl, by decide +kernel, rfl, by decide +kernel, by decide +kernel⟩
abbrev N_law_pick : List Str := ["_law_heap_here", "_law_some"]
theorem sc_law_pick : FnScope N_law_pick ["_law_heap_here", "_law_some"] (defScope s_law_pick) := ⟨rfl, rfl, rfl, by decide +kernel, rfl, by decide +kernel, by decide +kernel⟩
abbrev N_law_sort : List Str := ["_law_sign"]
theorem sc_law_sort : FnScope N_law_sort ["_law_sign"] (defScope s_law_sort) := ⟨rfl, rfl, rfl, by decide +kernel, rfl, by decide +kernel, by decide +kernel⟩
theorem cutV_take (xs : List V) (k : Nat) : cutV xs none (some (k : Int)) = xs.take k := by
  unfold cutV
  rw [HT.sIx_none, HT.sIx_nat, List.drop_zero, Nat.sub_zero, List.take_eq_take_iff]
  omega
theorem Kp.seq {K : PySem.W.Frag} {p q a : Addr} {H H1 : Hp} {xs : List V} (x : Kp p q H H1) (hp : a ≠ p) (hq : a ≠ q) (h : SqL K H a xs) : SqL K H1 a xs := by
  rcases h with (h | ⟨o, h⟩) | h
  · exact .inl (.inl (x _ _ hp hq h))
  · exact .inl (.inr ⟨o, x _ _ hp hq h⟩)
  · exact .inr h
theorem get_ints {ns : List Int} {i : Nat} {x : V} (h : (ns.map V.int)[i]? = some x) : ∃ n, x = .int n ∧ ns[i]? = some n := by
  rw [List.getElem?_map] at h
  cases e : ns[i]? with
  | none =>
    rw [e] at h
    cases h
  | some n =>
    rw [e] at h
    exact ⟨n, (Option.some.inj h).symm, rfl⟩
/-- the source of draws that a script makes -/
def spHeap (K : PySem.W.Frag) : Sp := fun vs H Q _ => ∃ (a : Addr) (ns : List Int), vs = [.ref a] ∧ SqL K H a (ns.map V.int) ∧
  ∀ H' p q, Same H H' → H p = none → H q = none → Dr H' p q → Q (.ref p) H'
/-- one of some things -/
def spPick (K : PySem.W.Frag) : Sp := fun vs H Q _ => ∃ (p q a : Addr) (xs : List V), vs = [.ref p, .ref a] ∧ Dr H p q ∧ a ≠ p ∧ a ≠ q ∧ SqL K H a xs ∧ 0 < xs.length ∧ xs.length ≤ 1000 ∧
  ∀ (H' : Hp) (i : Nat) (v : V), Kp p q H H' → Dr H' p q → xs[i]? = some v → Q v H'
section
variable {P : Program} {w : World} {K : PySem.W.Frag} {mg : Str → Option Value} {base : Heap}
theorem ok_heap (T : Txt K mg) : FnOk P w K mg base CX0 1 T.a_law_heap T.d_law_heap ["_law_script"] (spHeap K) := by
  refine T.F_law_heap.ok sc_law_heap (fun vs H Q E h => ?_) (fun cdv A outer s H vs Q E hr h => ?_)
  · obtain ⟨a, ns, rfl, _⟩ := h
    rfl
  · obtain ⟨a, ns, rfl, hS, k⟩ := h
    refine ⟨_, (pss_cons (ps_par (i := 1) (j := 2) (by rfl) sc_law_heap.nd rfl rfl (by decide) rfl rfl (pa_cons (pe_lc (own := [("_law_cell", 3)]) (g := gName 3) (by rfl) sc_law_heap.nd (pi_list (pe_slice sl_list (pv 0) po_none (po_some pe_int))) (blkOk_by (own := [("_law_cell", 3)]) (N := N_law_heap) (sc := defScope s_law_heap) (by decide +kernel)) (fun _ _ _ _ _ => (pg_name (i := 3) sc_law_heap.nd rfl (Or.inl rfl))) (fun _ _ _ _ _ => pts_nil) (fun _ _ _ _ _ => (pe_op op_add (pe_op op_mul pe_int (pe_callB call_abs (by rfl) T.n_abs (by decide +kernel) (pa_cons (pv 3) pa_nil))) (pe_callTy call_int1 (by rfl) T.n_int (by decide +kernel) (pa_cons (pe_cmpR op_lt (pv 3) pe_int (nomark _)) pa_nil))))) (pa_cons pe_int pa_nil)) (by rfl))
    (pss_cons (ps_for PassesOwn.never (by rfl) (pi_list (pv 1)) (pg_name (i := 3) sc_law_heap.nd rfl (.inl rfl))
      (pss_one (ps_set (i := 2) sc_law_heap.nd rfl (.inl rfl) (pe_op op_mod (pe_callTy call_int1 (by rfl) T.n_int (by decide +kernel) (pa_cons (pe_op op_add (pe_op op_add (pe_op op_mul (pv 2) pe_int) (pe_op op_mod (pe_callTy call_int1 (by rfl) T.n_int (by decide +kernel) (pa_cons (pv 3) pa_nil)) pe_int)) pe_int) pa_nil)) pe_int))))
    (pss_one (ps_ret (pe_lst (pa_cons (pe_revL (pe_lc (own := [("_law_cell", 3)]) (g := gName 3) (by rfl) sc_law_heap.nd (pi_list (pv 1)) (blkOk_by (own := [("_law_cell", 3)]) (N := N_law_heap) (sc := defScope s_law_heap) (by decide +kernel)) (fun _ _ _ _ _ => (pg_name (i := 3) sc_law_heap.nd rfl (Or.inl rfl))) (fun _ _ _ _ _ => pts_one (pt_cmpR op_ge (pv 3) (pe_op op_pow pe_int pe_int) (nomark _))) (fun _ _ _ _ _ => (pv 3)))) (pa_cons (pv 2) pa_nil))))))), ?_⟩
    -- [2 * abs(c) + int(c < 0) for c in script[:60]]
    refine sq ⟨_, rfl, 60, rfl, a, _, rfl, hS, fun b nb => ⟨b, rfl, ⟨_, SqL.of upd_same⟩, fun D nD => ?_⟩⟩
    have sb : Same H (upd H b (.lst (cutV (ns.map V.int) none (some 60)))) := same_new nb
    have gb : (upd H b (.lst (cutV (ns.map V.int) none (some 60)))) b = some (.lst ((ns.take 60).map V.int)) := upd_same.trans (by rw [List.map_take]; exact congrArg (fun x => some (HO.lst x)) (cutV_take _ 60))
    generalize upd H b (.lst (cutV (ns.map V.int) none (some 60))) = H1 at sb gb nD ⊢
    have bD : b ≠ D := ne_of_none gb nD
    have nDH : H D = none := sb.free nD
    have nbH : H b = none := nb
    refine lc_list (K := K) (a := b) (xs := (ns.take 60).map V.int)
      (fun i H' => ∃ cs : List Int, Same H H' ∧ H' b = some (.lst ((ns.take 60).map V.int)) ∧ H' D = some (.lst (cs.map V.int)) ∧ cs.length = i)
      ⟨[], sb.trans (same_new nD), (upd_ne bD).trans gb, upd_same, rfl⟩ (fun i H' _ ⟨_, _, h, _⟩ => SqL.of h) ?_ ?_
    · rintro i x H' hx ⟨cs, sm, hb, hD, hl⟩
      obtain ⟨n, rfl, hn⟩ := get_ints hx
      have hi : i < 60 := by
        have := (List.getElem?_eq_some_iff.mp hn).1
        rw [List.length_take] at this
        omega
      refine ⟨rfl, yesT ⟨_, rfl, _, rfl, _, _, rfl, rfl, .inl ⟨by decide, by decide⟩, _, rfl, _, _, rfl, rfl, .inr ⟨_, rfl, _, _, rfl, rfl, _, hD, ?_, ?_⟩⟩⟩
      · rw [List.length_map]; exact small1000 (by omega)
      · exact ⟨cs ++ [_], same_mut sm nDH, (upd_ne bD).trans hb, upd_same.trans (by rw [List.map_append]; rfl), by simp [hl]⟩
    · rintro H2 ⟨cs, sm, hb, hD, hl⟩
      have hcs : cs.length ≤ 60 := by
        rw [hl, List.length_map, List.length_take]
        omega
      refine ⟨_, _, rfl, ?_⟩
      -- for cell in cells
      refine sq ⟨_, rfl, D, rfl, ⟨_, SqL.of hD⟩, for_list (K := K) (a := D) (xs := cs.map V.int)
        (fun i σ H' => ∃ (st : Int) (v : Option V), σ = [some (.ref a), some (.ref D), some (.int st), v] ∧ H' = H2 ∧ 0 ≤ st ∧ st < 2147483647)
        ⟨33851, none, rfl, rfl, by decide, by decide⟩ (fun i σ H' _ ⟨_, _, _, e, _⟩ => by rw [e]; exact SqL.of hD) ?_ ?_⟩
      · rintro i x σ H' hx ⟨st, v, rfl, rfl, s0, s1⟩
        obtain ⟨n, rfl, hn⟩ := get_ints hx
        have u0 := Int.emod_nonneg (st * 69621 + n % 2147483563 + 29) (b := 2147483647) (by decide)
        have u1 := Int.emod_lt_of_pos (st * 69621 + n % 2147483563 + 29) (b := 2147483647) (by decide)
        exact ⟨_, rfl, _, _, rfl, rfl, .inl ⟨by omega, by omega⟩, _, rfl, .inl ⟨_, rfl, _, _, rfl, rfl, (by show (0 : Int) < 2147483563; decide), _, _, rfl, rfl, _, _, rfl, rfl,
          .inl ⟨_, rfl, _, _, rfl, rfl, (by show (0 : Int) < 2147483647; decide), _, _, rfl, rfl, u0, u1⟩⟩⟩
      · rintro σ H' ⟨st, v, rfl, rfl, s0, s1⟩
        -- return [[c for c in cells if c >= 10 ** 18][::-1], stir]
        refine ⟨_, rfl, D, rfl, ⟨_, SqL.of hD⟩, fun D2 nD2 => ?_⟩
        have DD2 : D ≠ D2 := ne_of_none hD nD2
        have nD2H : H D2 = none := sm.free nD2
        refine lc_list (K := K) (a := D) (xs := cs.map V.int)
          (fun i H3 => ∃ ds : List Int, Same H H3 ∧ H3 D = some (.lst (cs.map V.int)) ∧ H3 D2 = some (.lst (ds.map V.int)) ∧ ds.length ≤ i)
          ⟨[], sm.trans (same_new nD2), (upd_ne DD2).trans hD, upd_same, Nat.le_refl _⟩ (fun i H' _ ⟨_, _, h, _⟩ => SqL.of h) ?_ ?_
        · rintro i x H3 hx ⟨ds, sm3, hD3, hD23, hl3⟩
          obtain ⟨n, rfl, hn⟩ := get_ints hx
          have hi : i < 60 := by
            have := (List.getElem?_eq_some_iff.mp hn).1
            omega
          refine ⟨rfl, _, rfl, _, _, rfl, rfl, ⟨by decide, by decide, by decide⟩, _, _, rfl, rfl, _, rfl, ite2 (fun e => ?_) (fun e => ?_)⟩
          · refine ⟨_, rfl, _, hD23, ?_, ds ++ [n], same_mut sm3 nD2H, (upd_ne DD2).trans hD3, upd_same.trans (by rw [List.map_append]; rfl), by simp; omega⟩
            rw [List.length_map]; exact small1000 (by omega)
          · exact ⟨ds, sm3, hD3, hD23, by omega⟩
        · rintro H3 ⟨ds, sm3, hD3, hD23, hl3⟩
          rw [List.length_map] at hl3
          refine ⟨D2, _, rfl, SqL.of hD23, fun q nq => ⟨_, rfl, (by show 2 ≤ sizeLine; decide), fun p np => ?_⟩⟩
          have qp : q ≠ p := ne_of_none upd_same np
          have s4 := (sm3.trans (same_new (o := .lst (ds.map V.int).reverse) nq)).trans (same_new (o := .lst [.ref q, .int st]) np)
          refine k _ p q s4 ((sm3.trans (same_new nq)).free np) (sm3.free nq) ⟨ds.reverse, st, upd_same, ?_, by rw [List.length_reverse]; omega, s0, s1⟩
          rw [upd_ne qp, upd_same, List.map_reverse]
theorem ok_pick (T : Txt K mg) : FnOk P w K mg base CX0 2 T.a_law_pick T.d_law_pick ["_law_heap_here", "_law_some"] (spPick K) := by
  have G_law_draw : FnOk P w K mg base CX0 1 T.a_law_draw T.d_law_draw _ _ := ok_draw T
  refine T.F_law_pick.ok sc_law_pick (fun vs H Q E h => ?_) (fun cdv A outer s H vs Q E hr h => ?_)
  · obtain ⟨p, q, a, xs, rfl, _⟩ := h
    rfl
  · obtain ⟨p, q, a, xs, rfl, hd, hp, hq, hS, h0, h1, k⟩ := h
    refine ⟨_, (pss_one (ps_ret (pe_ix ix_list (pv 1) (pe_call G_law_draw hr (by rfl) T.g_law_draw T.k_law_draw T.b_law_draw .nil pass0 (pa_cons (pv 0) (pa_cons (pe_callB call_len_seq (by rfl) T.n_len (by decide +kernel) (pa_cons (pv 1) pa_nil)) pa_nil))) (fun _ _ => rfl)))), ?_⟩
    refine ⟨_, rfl, _, rfl, _, rfl, a, xs, rfl, .inl hS, p, q, xs.length, rfl, hd, by omega, by omega, fun H' r kp d' r0 r1 => ?_⟩
    obtain ⟨j, rfl⟩ : ∃ j : Nat, r = j := ⟨r.toNat, by omega⟩
    have hj : j < xs.length := by omega
    have hv : xs[j]? = some xs[j] := List.getElem?_eq_getElem hj
    exact ⟨a, xs, j, _, rfl, rfl, kp.seq hp hq hS, atI_nat hv, k _ j _ kp d' hv⟩
def spSort : Sp := fun vs H Q _ => ∃ c : Nat, vs = [.str ⟨#[c]⟩] ∧ Q (.int (kd c : Nat)) H
theorem lt1 (a b : Nat) : decide (([a] : List Nat) < [b]) = decide (a < b) := by
  by_cases h : a < b
  · rw [decide_eq_true h]
    exact decide_eq_true (List.cons_lt_cons_iff.mpr (.inl h))
  · rw [decide_eq_false h]
    refine decide_eq_false fun z => ?_
    rcases List.cons_lt_cons_iff.mp z with z | ⟨_, z⟩
    · exact h z
    · exact absurd z (List.not_lt_nil _)
theorem ok_sort (T : Txt K mg) : FnOk P w K mg base CX0 1 T.a_law_sort T.d_law_sort ["_law_sign"] spSort := by
  refine T.F_law_sort.ok sc_law_sort (fun vs H Q E h => ?_) (fun cdv A outer s H vs Q E hr h => ?_)
  · obtain ⟨c, rfl, _⟩ := h
    rfl
  · obtain ⟨c, rfl, k⟩ := h
    refine ⟨_, (pss_cons (ps_if (pt_chain op_le_str op_le_str pe_str (pv 0) pe_str)
      (pss_one (ps_ret pe_int))
      pss_nil)
    (pss_one (ps_ret (pe_ifExp (pt_chain op_le_str op_le_str pe_str (pv 0) pe_str) pe_int pe_int)))), ?_⟩
    have cA : ("a" : Str).cps.toList = [97] := by decide +kernel
    have cZ : ("z" : Str).cps.toList = [122] := by decide +kernel
    have c0 : ("0" : Str).cps.toList = [48] := by decide +kernel
    have c9 : ("9" : Str).cps.toList = [57] := by decide +kernel
    have eA : (!decide ((⟨#[c]⟩ : Str).cps.toList < ("a" : Str).cps.toList)) = decide (97 ≤ c) := by
      rw [cA]; show (!decide ([c] < [97])) = _; rw [lt1]; by_cases h : c < 97 <;> simp [h] <;> omega
    have eZ : (!decide (("z" : Str).cps.toList < (⟨#[c]⟩ : Str).cps.toList)) = decide (c ≤ 122) := by
      rw [cZ]; show (!decide ([122] < [c])) = _; rw [lt1]; by_cases h : 122 < c <;> simp [h] <;> omega
    have e0 : (!decide ((⟨#[c]⟩ : Str).cps.toList < ("0" : Str).cps.toList)) = decide (48 ≤ c) := by
      rw [c0]; show (!decide ([c] < [48])) = _; rw [lt1]; by_cases h : c < 48 <;> simp [h] <;> omega
    have e9 : (!decide (("9" : Str).cps.toList < (⟨#[c]⟩ : Str).cps.toList)) = decide (c ≤ 57) := by
      rw [c9]; show (!decide ([57] < [c])) = _; rw [lt1]; by_cases h : 57 < c <;> simp [h] <;> omega
    -- the second chain
    have second : kd c ≠ 1 → (if decide (48 ≤ c) = true then (∃ k, V.bl (decide (c ≤ 57)) = V.bl k ∧ if k = true then Q (.int 2) H else Q (.int 0) H) else (∃ k, V.bl false = V.bl k ∧ if k = true then Q (.int 2) H else Q (.int 0) H)) := by
      intro h1
      by_cases h : 48 ≤ c
      · rw [decide_eq_true h]
        refine iteT ⟨_, rfl, ?_⟩
        by_cases h2 : c ≤ 57
        · rw [decide_eq_true h2]
          refine iteT ?_
          have : kd c = 2 := by rcases kd_cases c with ⟨q, _⟩ | ⟨q, _⟩ | ⟨q, q1, q2⟩ <;> first | omega | exact absurd ⟨h, h2⟩ q2
          rw [this] at k
          exact k
        · rw [decide_eq_false h2]
          refine iteF ?_
          have : kd c = 0 := by rcases kd_cases c with ⟨q, _⟩ | ⟨q, _⟩ | ⟨q, q1, q2⟩ <;> omega
          rw [this] at k
          exact k
      · rw [decide_eq_false h]
        refine iteF ⟨_, rfl, iteF ?_⟩
        have : kd c = 0 := by rcases kd_cases c with ⟨q, _⟩ | ⟨q, _⟩ | ⟨q, q1, q2⟩ <;> omega
        rw [this] at k
        exact k
    refine sq ⟨_, rfl, _, _, rfl, rfl, _, rfl, ?_⟩
    rw [eA]
    by_cases h : 97 ≤ c
    · rw [decide_eq_true h]
      refine iteT ⟨_, _, rfl, rfl, _, rfl, ?_⟩
      rw [eZ]
      by_cases h2 : c ≤ 122
      · rw [decide_eq_true h2]
        refine iteT ?_
        have : kd c = 1 := by rcases kd_cases c with ⟨q, _⟩ | ⟨q, _⟩ | ⟨q, q1, q2⟩ <;> first | omega | exact absurd ⟨h, h2⟩ q1
        rw [this] at k
        exact k
      · rw [decide_eq_false h2]
        refine iteF ⟨_, rfl, _, _, rfl, rfl, _, rfl, ?_⟩
        rw [e0]
        have := second (by rcases kd_cases c with ⟨q, _⟩ | ⟨q, _⟩ | ⟨q, q1, q2⟩ <;> omega)
        by_cases h3 : 48 ≤ c
        · rw [decide_eq_true h3] at this ⊢
          refine iteT ⟨_, _, rfl, rfl, ?_⟩
          rw [e9]
          exact this
        · rw [decide_eq_false h3] at this ⊢
          exact iteF this
    · rw [decide_eq_false h]
      refine iteF ⟨_, rfl, iteF ⟨_, rfl, _, _, rfl, rfl, _, rfl, ?_⟩⟩
      rw [e0]
      have := second (by rcases kd_cases c with ⟨q, _⟩ | ⟨q, _⟩ | ⟨q, q1, q2⟩ <;> omega)
      by_cases h3 : 48 ≤ c
      · rw [decide_eq_true h3] at this ⊢
        refine iteT ⟨_, _, rfl, rfl, ?_⟩
        rw [e9]
        exact this
      · rw [decide_eq_false h3] at this ⊢
        exact iteF this
end
end Sd

namespace Sd
open PySem PySem.Spec PyProof.Rows L2
abbrev N_law_marks : List Str := ["_law_text", "_law_found", "_law_line", "_law_at", "_law_sign", "_law_sort_here", "_law_mark"]
theorem sc_law_marks : FnScope N_law_marks ["_law_text"] (defScope s_law_marks) := ⟨rfl, rfl, rfl, by decide +kernel, rfl, by decide +kernel, by decide +kernel⟩
section
variable {c : TT} {t u tb : TS} {g : TG} {D : Ends} {σ : L2.St} {H : Hp}
/-- an if, its two ways shown once each -/
theorem if_to (Y N : Hp → Prop) (hY : ∀ H1, Y H1 → t D σ H1) (hN : ∀ H1, N H1 → u D σ H1)
    (h : ∀ Q : Bool → Hp → Prop, (∀ H1, Y H1 → Q true H1) → (∀ H1, N H1 → Q false H1) → c σ H Q) : tIfS c t u D σ H :=
  h _ (fun H1 y => iteT (hY H1 y)) (fun H1 n => iteF (hN H1 n))
/-- over a text's signs -/
theorem for_str {x : Str} (Pv : Nat → L2.St → Hp → Prop) (h0 : Pv 0 σ H)
    (hs : ∀ i c σ H, (cds x)[i]? = some c → Pv i σ H → g (.str ⟨#[c]⟩) σ H fun σ2 H2 => tb { D with nx := Pv (i + 1), ct := Pv (i + 1), bk := D.nx } σ2 H2)
    (hd : ∀ σ H, Pv (cds x).length σ H → D.nx σ H) :
    ∃ W : Nat → Nat → L2.St → Hp → Prop, (∃ m, W 0 m σ H) ∧ ∀ i m σ H, W i m σ H →
      ((Its x).stop i H ∧ D.nx σ H) ∨ ((Its x).go i H ∧ ∃ N : L2.St → Hp → Prop, (∀ σ' H', N σ' H' → ∃ m', m' < m ∧ W (i + 1) m' σ' H') ∧
        ∀ v H', (Its x).yld i H v H' → g v σ H' fun σ2 H2 => tb { D with nx := N, ct := N, bk := D.nx } σ2 H2) := by
  have lx : (cds x).length = x.cps.size := by simp [cds]
  refine ⟨fun i m σ H => Pv i σ H ∧ i + m = (cds x).length, ⟨_, h0, Nat.zero_add _⟩, ?_⟩
  rintro i m σ H ⟨hp, hm⟩
  by_cases hi : i < (cds x).length
  · refine Or.inr ⟨by show i < x.cps.size; omega, Pv (i + 1), fun σ' H' h => ⟨m - 1, by omega, h, by omega⟩, ?_⟩
    rintro v H' ⟨rfl, c, hc, rfl⟩
    exact hs i c σ H' (by rw [← cps_get]; exact hc) hp
  · have e : i = (cds x).length := by omega
    subst e
    exact Or.inl ⟨by show x.cps.size ≤ _; omega, hd σ H hp⟩
end
def Mk4At (H : Hp) (v : V) (x : Mk4) : Prop := ∃ t, v = .ref t ∧ H t = some (.tup [.int x.1, .int x.2.1, .str ⟨x.2.2.1.toArray⟩, .int x.2.2.2])
abbrev Mk4All (H : Hp) : List V → List Mk4 → Prop := Paired (Mk4At H)
theorem Mk4All.tk {H H1 : Hp} {xs ds} (h : Mk4All H xs ds) (t : TK H H1) : Mk4All H1 xs ds := Paired.mapP h fun _ _ ⟨a, e, q⟩ => ⟨a, e, t _ _ q⟩
theorem paired_unsnoc {α β : Type} {F : α → β → Prop} {b : β} : ∀ {ys : List β} {xs : List α}, Paired F xs (ys ++ [b]) → ∃ as a, xs = as ++ [a] ∧ Paired F as ys ∧ F a b
  | [], _, .cons r .nil => ⟨[], _, rfl, .nil, r⟩
  | y :: ys, _, .cons r t => by
    obtain ⟨as, a, e, p, q⟩ := paired_unsnoc t
    exact ⟨_ :: as, a, by rw [e]; rfl, .cons r p, q⟩
theorem paired_unsnoc2 {α β : Type} {F : α → β → Prop} {a : α} {b : β} {xs : List α} {ys : List β} (h : Paired F (xs ++ [a]) (ys ++ [b])) : Paired F xs ys ∧ F a b := by
  obtain ⟨as, c, e, p, q⟩ := paired_unsnoc h
  obtain ⟨rfl, e2⟩ := List.append_inj' e rfl
  cases e2
  exact ⟨p, q⟩
theorem paired_get {α β : Type} {F : α → β → Prop} {a : α} : ∀ {i : Nat} {xs : List α} {ys : List β}, Paired F xs ys → xs[i]? = some a → ∃ b, ys[i]? = some b ∧ F a b
  | _, _, _, .nil, h => by simp at h
  | 0, _, _, .cons r _, h => by
    have e := Option.some.inj h
    subst e
    exact ⟨_, rfl, r⟩
  | i + 1, _, _, .cons _ t, h => by
    obtain ⟨b, e, q⟩ := paired_get (i := i) t (by simpa using h)
    exact ⟨b, by simpa using e, q⟩
theorem ixN_end {n : Nat} : ixN (n + 1) (-1) = some n := by
  unfold ixN
  rw [if_neg (by omega), if_pos (by omega)]
  congr 1
  omega
theorem set_end {ys : List V} {v w : V} : (ys ++ [v]).set ys.length w = ys ++ [w] := by simp
theorem str_app (t : List Nat) (c : Nat) : (⟨t.toArray⟩ : Str) ++ (⟨#[c]⟩ : Str) = ⟨(t ++ [c]).toArray⟩ := by
  show (⟨t.toArray ++ #[c]⟩ : Str) = _
  congr 1
  simp
/-- what stands while the marks are found -/
structure Fnd (H0 H : Hp) (f : Addr) (xs : List V) (F : List Mk4) : Prop where
  sm : Same H0 H
  hf : H f = some (.lst xs)
  ms : Mk4All H xs F
theorem Fnd.new {H0 H : Hp} {f p : Addr} {xs : List V} {F : List Mk4} {o : HO} (x : Fnd H0 H f xs F) (h : H p = none) : Fnd H0 (upd H p o) f xs F :=
  ⟨x.sm.trans (same_new h), (upd_ne (ne_of_none x.hf h)).trans x.hf, x.ms.tk ((TK.refl _).new h)⟩
theorem Fnd.put {H0 H : Hp} {f : Addr} {xs ys : List V} {F G : List Mk4} (x : Fnd H0 H f xs F) (h0 : H0 f = none) (h : Mk4All H ys G) : Fnd H0 (upd H f (.lst ys)) f ys G :=
  ⟨same_mut x.sm h0, upd_same, h.tk ((TK.refl _).mut x.hf)⟩
theorem small1000' {n : Nat} (h : n ≤ 1000000) : n < sizeLine := Nat.lt_of_le_of_lt h (by decide)
def spMarks : Sp := fun vs H Q _ => ∃ z : Str, vs = [.str z] ∧ z.length ≤ 100000 ∧ (∀ c ∈ cds z, c < 1114112) ∧
  ∀ H' a xs, Same H H' → H' a = some (.lst xs) → MkAll H' xs (marks 0 0 (cds z)) → Q (.ref a) H'
section
variable {P : Program} {w : World} {K : PySem.W.Frag} {mg : Str → Option Value} {base : Heap}
theorem ok_marks (T : Txt K mg) : FnOk P w K mg base CX0 2 T.a_law_marks T.d_law_marks ["_law_text"] spMarks := by
  have G_law_sort : FnOk P w K mg base CX0 1 T.a_law_sort T.d_law_sort _ _ := ok_sort T
  refine T.F_law_marks.ok sc_law_marks (fun vs H Q E h => ?_) (fun cdv A outer s H vs Q E hr h => ?_)
  · obtain ⟨z, rfl, _⟩ := h
    rfl
  · obtain ⟨z, rfl, hz, hok, k⟩ := h
    refine ⟨_, (pss_cons (ps_par3 (i := 1) (j := 2) (l := 3) (by rfl) sc_law_marks.nd rfl rfl rfl (by decide) (by decide) (by decide) rfl rfl rfl (pa_cons (pe_lst pa_nil) (pa_cons pe_int (pa_cons pe_int pa_nil))) (by rfl))
    (pss_cons (ps_for PassesOwn.never (by rfl) (pi_str (pv 0)) (pg_name (i := 4) sc_law_marks.nd rfl (.inl rfl))
      (pss_cons (ps_set (i := 5) sc_law_marks.nd rfl (.inl rfl) (pe_call G_law_sort hr (by rfl) T.g_law_sort T.k_law_sort T.b_law_sort .nil pass0 (pa_cons (pv 4) pa_nil)))
      (pss_cons (ps_if (PW.pt (pw_and (pt_cmpR op_gt (pv 5) pe_int (nomark _)) (pw_and (pt_cmpR (op_neD hr.units) (pv 1) (pe_lst pa_nil) (nomark _)) (pw_and (pt_cmpR op_eq (pe_ix ix_tup (pe_ix ix_list (pv 1) (pe_un un_neg pe_int) (fun _ _ => rfl)) pe_int (fun _ _ => rfl)) (pv 5) (nomark _)) (pw_and1 (pt_cmpR (op_eqD hr.units) (pe_slice sl_tup (pe_ix ix_list (pv 1) (pe_un un_neg pe_int) (fun _ _ => rfl)) po_none (po_some pe_int)) (pe_tup (pa_cons (pv 2) (pa_cons (pe_op op_sub (pv 3) (pe_callB call_len_str (by rfl) T.n_len (by decide +kernel) (pa_cons (pe_ix ix_tup (pe_ix ix_list (pv 1) (pe_un un_neg pe_int) (fun _ _ => rfl)) pe_int (fun _ _ => rfl)) pa_nil))) pa_nil))) (nomark _)))))))
        (pss_one (ps_asg (pe_op op_catT (pe_slice sl_tup (pe_ix ix_list (pv 1) (pe_un un_neg pe_int) (fun _ _ => rfl)) po_none (po_some pe_int)) (pe_tup (pa_cons (pe_op op_add_str (pe_ix ix_tup (pe_ix ix_list (pv 1) (pe_un un_neg pe_int) (fun _ _ => rfl)) pe_int (fun _ _ => rfl)) (pv 4)) (pa_cons (pv 5) pa_nil)))) (pg_sub (pv 1) (pe_un un_neg pe_int) set_list)))
        (pss_one (ps_if (pt_cmpR op_ne (pv 4) pe_str (nomark _))
          (pss_one (ps_expr (pe_bm PySem.F.plainAttrs_list PySem.F.slot_list_append PySem.F.type_list_append mt_append (pv 1) (pa_cons (pe_tup (pa_cons (pv 2) (pa_cons (pv 3) (pa_cons (pv 4) (pa_cons (pv 5) pa_nil))))) pa_nil))))
          pss_nil)))
      (pss_one (ps_asg (pe_ifExp (pt_cmpR op_eq (pv 4) pe_str (nomark _)) (pe_tup (pa_cons (pe_op op_add (pv 2) pe_int) (pa_cons pe_int pa_nil))) (pe_tup (pa_cons (pv 2) (pa_cons (pe_op op_add (pv 3) pe_int) pa_nil)))) (pg_tup (by rfl) (pgs_cons (pg_name (i := 2) sc_law_marks.nd rfl (.inl rfl)) (pgs_cons (pg_name (i := 3) sc_law_marks.nd rfl (.inl rfl)) pgs_nil))))))))
    (pss_one (ps_ret (pe_lc (own := [("_law_mark", 6)]) (g := gName 6) (by rfl) sc_law_marks.nd (pi_list (pv 1)) (blkOk_by (own := [("_law_mark", 6)]) (N := N_law_marks) (sc := defScope s_law_marks) (by decide +kernel)) (fun _ _ _ _ _ => (pg_name (i := 6) sc_law_marks.nd rfl (Or.inl rfl))) (fun _ _ _ _ _ => pts_nil) (fun _ _ _ _ _ => (pe_slice (show SlR _ (rSlT K) from sl_tup) (pv 6) po_none (po_some pe_int)))))))), ?_⟩
    -- found, line, at = [], 0, 0
    refine sq ⟨Nat.zero_le _, fun f nf => ⟨_, _, _, rfl, ?_⟩⟩
    have f0 : Fnd H (upd H f (.lst [])) f [] [] := ⟨same_new nf, upd_same, .nil⟩
    have nf0 : H f = none := nf
    generalize upd H f (.lst []) = H1 at f0
    -- for sign in text
    refine sq ⟨_, rfl, z, rfl, for_str (fun i σ H' => ∃ (xs : List V) (F : List Mk4) (l a : Nat) (v4 v5 : Option V),
        σ = [some (.str z), some (.ref f), some (.int l), some (.int a), v4, v5, none] ∧ Fnd H H' f xs F ∧
        ((cds z).take i).foldl stp ([], 0, 0) = (F, l, a) ∧ F.length ≤ i ∧ ∀ x ∈ F, x.2.2.1.length ≤ i ∧ ∀ d ∈ x.2.2.1, d < 1114112)
      ⟨[], [], 0, 0, none, none, rfl, f0, rfl, Nat.le_refl _, fun x h => by cases h⟩ ?_ ?_⟩
    · rintro i c σ H' hc ⟨xs, F, l, a, v4, v5, rfl, fd, hfold, hlen, hsz⟩
      have hi : i < (cds z).length := (List.getElem?_eq_some_iff.mp hc).1
      have hcok : c < 1114112 := hok c (List.mem_of_getElem? hc)
      have hi2 : i < 100000 := by rw [cds_len] at hi; omega
      have hstp : ((cds z).take (i + 1)).foldl stp ([], 0, 0) = stp (F, l, a) c := by
        rw [List.take_add_one, hc, List.foldl_append, hfold]
        rfl
      -- sort_here = sort(sign)
      refine sq ⟨_, rfl, c, rfl, ?_⟩
      dsimp only
      refine sq (to_next (fun σ H' => ∃ xs F', σ = [some (.str z), some (.ref f), some (.int l), some (.int a), some (.str ⟨#[c]⟩), some (.int (kd c : Nat)), none] ∧ Fnd H H' f xs F' ∧
        (stp (F, l, a) c).1 = F' ∧ F'.length ≤ i + 1 ∧ ∀ x ∈ F', x.2.2.1.length ≤ i + 1 ∧ ∀ d ∈ x.2.2.1, d < 1114112) ?_ ?_)
      · rintro σ H2 ⟨xs2, F2, rfl, fd2, hF2, hl2, hs2⟩
        -- line, at = (line + 1, 0) if sign == "\n" else (line, at + 1)
        have fin : ∀ (l2 a2 : Nat) (H3 : Hp), Fnd H H3 f xs2 F2 → (if c = 10 then (l + 1, 0) else (l, a + 1)) = (l2, a2) →
            ∃ (xs : List V) (F : List Mk4) (l a : Nat) (v4 v5 : Option V),
            [some (V.str z), some (.ref f), some (.int l2), some (.int a2), some (.str ⟨#[c]⟩), some (.int (kd c : Nat)), none] = [some (.str z), some (.ref f), some (.int l), some (.int a), v4, v5, none] ∧ Fnd H H3 f xs F ∧
            ((cds z).take (i + 1)).foldl stp ([], 0, 0) = (F, l, a) ∧ F.length ≤ i + 1 ∧ ∀ x ∈ F, x.2.2.1.length ≤ i + 1 ∧ ∀ d ∈ x.2.2.1, d < 1114112 := by
          intro l2 a2 H3 fd3 e
          refine ⟨xs2, F2, l2, a2, _, _, rfl, fd3, ?_, hl2, hs2⟩
          rw [hstp, ← hF2, ← e]
          rfl
        refine ⟨_, rfl, rfl, _, rfl, ite2 (fun e => ?_) (fun e => ?_)⟩
        · have e10 : c = 10 := by
            have q : [c] = [10] := str_inj.mp ((of_decide_eq_true e).trans (congrArg V.str line_eq))
            injection q
          refine ⟨_, rfl, _, _, rfl, rfl, (by show 2 ≤ sizeLine; decide), fun p np => ⟨p, _, rfl, SqT.of upd_same, rfl, _, _, rfl, _, [], rfl, rfl, ?_⟩⟩
          exact fin (l + 1) 0 _ (fd2.new np) (if_pos e10)
        · have e10 : ¬ c = 10 := fun q => e (decide_eq_true (((congrArg (fun d => V.str ⟨#[d]⟩) q)).trans (congrArg V.str line_eq.symm)))
          refine ⟨_, rfl, _, rfl, _, _, rfl, rfl, (by show 2 ≤ sizeLine; decide), fun p np => ⟨p, _, rfl, SqT.of upd_same, rfl, _, _, rfl, _, [], rfl, rfl, ?_⟩⟩
          exact fin l (a + 1) _ (fd2.new np) (if_neg e10)
      · intro next
        refine if_to (fun H2 => ext F l a c = true ∧ Fnd H H2 f xs F) (fun H2 => ext F l a c = false ∧ Fnd H H2 f xs F) ?_ ?_ ?_
        · -- found[-1] = found[-1][:2] + (found[-1][2] + sign, sort_here)
          rintro H2 ⟨hx, fd2⟩
          rcases nil_or_snoc F with rfl | ⟨G, ⟨l0, a0, t0, s0⟩, rfl⟩
          · cases hx
          obtain ⟨ys, v, rfl, pG, t, rfl, ht⟩ := paired_unsnoc fd2.ms
          have hlenG : ys.length = G.length := paired_len pG
          refine ⟨_, rfl, 1, rfl, f, _, -1, _, rfl, rfl, SqL.of fd2.hf, atI_end, 2, rfl, t, _, rfl, SqT.of ht, (fun h => absurd (show (2 : Nat) = 4 from h.2) (by decide)), fun p1 np1 => ?_⟩
          have fd3 := fd2.new (o := .tup (cutV [.int l0, .int a0, .str ⟨t0.toArray⟩, .int s0] none (some 2))) np1
          have ht3 := (TK.refl _).new (o := .tup (cutV [.int l0, .int a0, .str ⟨t0.toArray⟩, .int s0] none (some 2))) np1 _ _ ht
          have hp1 : (upd H2 p1 (.tup (cutV [.int l0, .int a0, .str ⟨t0.toArray⟩, .int s0] none (some 2)))) p1 = some (.tup [.int l0, .int a0]) := upd_same
          generalize upd H2 p1 _ = H3 at fd3 ht3 hp1 ⊢
          obtain ⟨hsz0, hok0⟩ : t0.length ≤ i ∧ ∀ d ∈ t0, d < 1114112 := hsz _ (List.mem_append_right _ (List.mem_singleton.mpr rfl))
          refine ⟨_, rfl, 1, rfl, f, _, -1, _, rfl, rfl, SqL.of fd3.hf, atI_end, t, _, 2, _, rfl, rfl, SqT.of ht3, rfl, _, rfl, ⟨t0.toArray⟩, ⟨#[c]⟩, rfl, rfl, ?_, _, rfl, (by show 2 ≤ sizeLine; decide), fun p2 np2 => ?_⟩
          · have : (⟨t0.toArray⟩ : Str).length = t0.length := by simp [Str.length]
            have h2 : (⟨#[c]⟩ : Str).length = 1 := rfl
            rw [this, h2]
            exact Nat.le_of_lt (small1000' (by omega))
          rw [str_app]
          have fd4 := fd3.new (o := .tup [.str ⟨(t0 ++ [c]).toArray⟩, .int (kd c : Nat)]) np2
          have hp14 := (TK.refl _).new (o := .tup [.str ⟨(t0 ++ [c]).toArray⟩, .int (kd c : Nat)]) np2 _ _ hp1
          have hp2 : (upd H3 p2 (.tup [.str ⟨(t0 ++ [c]).toArray⟩, .int (kd c : Nat)])) p2 = _ := upd_same
          generalize upd H3 p2 _ = H4 at fd4 hp14 hp2 ⊢
          refine ⟨p1, p2, _, _, rfl, rfl, SqT.of hp14, SqT.of hp2, by simp, (by show 4 ≤ sizeLine; decide), fun z => (by cases z), fun _ p3 np3 => ?_⟩
          have fd5 := fd4.new (o := .tup ([.int l0, .int a0] ++ [.str ⟨(t0 ++ [c]).toArray⟩, .int (kd c : Nat)])) np3
          have hp3 : (upd H4 p3 (.tup ([.int l0, .int a0] ++ [.str ⟨(t0 ++ [c]).toArray⟩, .int (kd c : Nat)]))) p3 = _ := upd_same
          have lf := fd5.hf
          refine ⟨_, rfl, 1, rfl, f, _, -1, ys.length, rfl, rfl, lf, ?_, ?_⟩
          · rw [List.length_append]
            exact ixN_end
          have ek : kd c = s0 := by
            rw [ext_snoc] at hx
            simp only [Bool.and_eq_true, beq_iff_eq] at hx
            exact hx.1.2.symm
          have fd6 := fd5.put (ys := ys ++ [.ref p3]) (G := G ++ [(l0, a0, t0 ++ [c], s0)]) nf0 (paired_snoc ⟨p3, rfl, by rw [← ek]; exact hp3⟩ (paired_unsnoc2 fd5.ms).1)
          rw [set_end]
          refine next _ _ ⟨_, _, rfl, fd6, ?_, ?_, ?_⟩
          · unfold stp
            simp only [hx, if_true]
            rw [List.getLast?_append, List.dropLast_concat]
            rfl
          · rw [List.length_append] at hlen ⊢
            exact Nat.le_succ_of_le hlen
          · intro x hx2
            rcases List.mem_append.mp hx2 with m | m
            · exact ⟨Nat.le_succ_of_le (hsz x (List.mem_append_left _ m)).1, (hsz x (List.mem_append_left _ m)).2⟩
            · rw [List.mem_singleton.mp m]
              refine ⟨?_, fun d hd => ?_⟩
              · show (t0 ++ [c]).length ≤ i + 1
                rw [List.length_append]
                exact Nat.succ_le_succ hsz0
              · rcases List.mem_append.mp hd with hd | hd
                · exact hok0 d hd
                · rw [List.mem_singleton.mp hd]; exact hcok
        · -- elif sign != " ": found.append((line, at, sign, sort_here))
          rintro H2 ⟨hx, fd2⟩
          refine ⟨_, rfl, rfl, _, rfl, ite2 (fun e => ?_) (fun e => ?_)⟩
          · have n32 : ¬ c = 32 := fun q => nd_ne e ((congrArg (fun d => V.str ⟨#[d]⟩) q).trans (congrArg V.str blank_eq.symm))
            refine ⟨_, rfl, .inl ⟨rfl, _, SqL.of fd2.hf⟩, _, rfl, _, rfl, _, rfl, _, rfl, (by show 4 ≤ sizeLine; decide), fun t nt => ?_⟩
            have fd3 := fd2.new (o := .tup [.int l, .int a, .str ⟨#[c]⟩, .int (kd c : Nat)]) nt
            have ht : (upd H2 t (.tup [.int l, .int a, .str ⟨#[c]⟩, .int (kd c : Nat)])) t = _ := upd_same
            have lx : xs.length = F.length := paired_len fd2.ms
            refine ⟨f, _, _, rfl, rfl, fd3.hf, Nat.lt_of_le_of_lt (show xs.length ≤ 100000 by omega) (by decide), next _ _ ⟨_, F ++ [(l, a, [c], kd c)], rfl, fd3.put nf0 (paired_snoc ⟨t, rfl, ht⟩ fd3.ms), ?_, ?_, ?_⟩⟩
            · unfold stp
              simp [hx, n32]
            · rw [List.length_append]
              exact Nat.succ_le_succ hlen
            · intro x hx2
              rcases List.mem_append.mp hx2 with m | m
              · exact ⟨Nat.le_succ_of_le (hsz x m).1, (hsz x m).2⟩
              · rw [List.mem_singleton.mp m]
                exact ⟨Nat.succ_le_succ (Nat.zero_le _), fun d hd => by rw [List.mem_singleton.mp hd]; exact hcok⟩
          · have e32 : c = 32 := by
              have q : [c] = [32] := str_inj.mp ((nd_eq e).trans (congrArg V.str blank_eq))
              injection q
            refine next _ _ ⟨_, F, rfl, fd2, ?_, Nat.le_succ_of_le hlen, fun x m => ⟨Nat.le_succ_of_le (hsz x m).1, (hsz x m).2⟩⟩
            subst e32
            unfold stp
            simp [hx]
        · -- the test
          intro Qb hY hN
          refine ⟨_, rfl, _, _, rfl, rfl, _, rfl, ?_⟩
          by_cases hk : 0 < kd c
          · rw [decide_eq_true (show (0 : Int) < ((kd c : Nat) : Int) by omega)]
            refine iteT ⟨_, rfl, Nat.zero_le _, fun l1 nl1 => ?_⟩
            have fd1 := fd.new (o := .lst []) nl1
            have hl1 : (upd H' l1 (.lst [])) l1 = some (.lst []) := upd_same
            generalize upd H' l1 (.lst []) = H2 at fd1 hl1 ⊢
            have dpF : DpAll K H2 xs (F.map fun x => PyData.tuple [.int x.1, .int x.2.1, .str ⟨x.2.2.1.toArray⟩, .int x.2.2.2]) := by
              have h := fd1.ms
              clear hlen hsz hfold fd fd1 hstp next hN hY
              induction h with
              | nil => exact .nil
              | cons r _ ih =>
                obtain ⟨t, rfl, q⟩ := r
                exact .cons (.tup (SqT.of q) (.cons (.int _) (.cons (.int _) (.cons (.str _) (.cons (.int _) .nil))))) ih
            have shF : SeqAt.shaped (.list (F.map fun x => PyData.tuple [.int x.1, .int x.2.1, .str ⟨x.2.2.1.toArray⟩, .int x.2.2.2])) = true := by
              refine (flat_list (n := 1) ?_).shaped (by decide)
              intro d hd
              obtain ⟨x, hx, rfl⟩ := List.mem_map.mp hd
              refine flat_tuple (n := 0) fun e he => ?_
              simp only [List.mem_cons, List.not_mem_nil, or_false] at he
              rcases he with rfl | rfl | rfl | rfl
              · exact flat_int _ _
              · exact flat_int _ _
              · exact flat_str (hsz x hx).2 _
              · exact flat_int _ _
            refine ⟨_, _, .lst (SqL.of fd1.hf) dpF, .lst (SqL.of hl1) .nil, shF, shaped_ints [], _, rfl, ?_⟩
            rw [eqv_list_nil]
            rcases nil_or_snoc F with rfl | ⟨G, ⟨l0, a0, t0, s0⟩, rfl⟩
            · exact iteF (hN _ ⟨rfl, fd1⟩)
            · have hne : (!(List.map (fun x : Mk4 => PyData.tuple [.int x.1, .int x.2.1, .str ⟨x.2.2.1.toArray⟩, .int x.2.2.2]) (G ++ [(l0, a0, t0, s0)])).isEmpty) = true := by simp
              rw [hne]
              obtain ⟨ys, v, rfl, pG, t, rfl, ht⟩ := paired_unsnoc fd1.ms
              -- found[-1][3] == sort_here
              refine iteT ⟨_, rfl, 1, rfl, f, _, -1, _, rfl, rfl, SqL.of fd1.hf, atI_end, t, _, 3, _, rfl, rfl, SqT.of ht, rfl, _, rfl, rfl, _, rfl, ite2 (fun e => ?_) (fun e => ?_)⟩
              · have es : s0 = kd c := by
                  have q := V.int.inj (of_decide_eq_true e)
                  exact Int.ofNat.inj q
                -- found[-1][:2] == (line, at - len(found[-1][2]))
                refine ⟨_, rfl, 1, rfl, f, _, -1, _, rfl, rfl, SqL.of fd1.hf, atI_end, 2, rfl, t, _, rfl, SqT.of ht, (fun h => absurd (show (2 : Nat) = 4 from h.2) (by decide)), fun p1 np1 => ?_⟩
                have fd3 := fd1.new (o := .tup (cutV [.int l0, .int a0, .str ⟨t0.toArray⟩, .int s0] none (some 2))) np1
                have ht3 := (TK.refl _).new (o := .tup (cutV [.int l0, .int a0, .str ⟨t0.toArray⟩, .int s0] none (some 2))) np1 _ _ ht
                have hp1 : (upd H2 p1 (.tup (cutV [.int l0, .int a0, .str ⟨t0.toArray⟩, .int s0] none (some 2)))) p1 = some (.tup [.int l0, .int a0]) := upd_same
                generalize upd H2 p1 _ = H3 at fd3 ht3 hp1 ⊢
                obtain ⟨hsz0, hok0⟩ : t0.length ≤ i ∧ ∀ d ∈ t0, d < 1114112 := hsz _ (List.mem_append_right _ (List.mem_singleton.mpr rfl))
                have hl0 : (⟨t0.toArray⟩ : Str).length = t0.length := by simp [Str.length]
                refine ⟨_, rfl, _, rfl, _, rfl, 1, rfl, f, _, -1, _, rfl, rfl, SqL.of fd3.hf, atI_end, t, _, 2, _, rfl, rfl, SqT.of ht3, rfl, _, rfl, ?_, _, _, rfl, rfl, (by show 2 ≤ sizeLine; decide), fun p2 np2 => ?_⟩
                · rw [hl0]
                  exact Nat.le_of_lt (small1000' (by omega))
                have fd4 := fd3.new (o := .tup [.int l, .int ((a : Int) - ((⟨t0.toArray⟩ : Str).length : Nat))]) np2
                have hp14 := (TK.refl _).new (o := .tup [.int l, .int ((a : Int) - ((⟨t0.toArray⟩ : Str).length : Nat))]) np2 _ _ hp1
                have hp2 : (upd H3 p2 (.tup [.int l, .int ((a : Int) - ((⟨t0.toArray⟩ : Str).length : Nat))])) p2 = _ := upd_same
                have sh2 : ∀ x y : Int, SeqAt.shaped (.tuple [.int x, .int y]) = true := fun x y => rfl
                refine ⟨_, _, .tup (SqT.of hp14) (.cons (.int _) (.cons (.int _) .nil)), .tup (SqT.of hp2) (.cons (.int _) (.cons (.int _) .nil)), sh2 _ _, sh2 _ _, _, rfl, ?_⟩
                have ev : PyData.eqv (.tuple [.int l0, .int a0]) (.tuple [.int l, .int ((a : Int) - ((⟨t0.toArray⟩ : Str).length : Nat))]) = ext (G ++ [(l0, a0, t0, s0)]) l a c := by
                  rw [ext_snoc, decide_eq_true hk, es, beq_self_eq_true]
                  show (((l0 : Int) == (l : Int)) && (((a0 : Int) == ((a : Int) - ((⟨t0.toArray⟩ : Str).length : Nat))) && true)) = _
                  rw [hl0, Bool.eq_iff_iff]
                  simp only [Bool.and_eq_true, beq_iff_eq, true_and, and_true]
                  omega
                rw [ev]
                cases hx : ext (G ++ [(l0, a0, t0, s0)]) l a c with
                | true => exact hY _ ⟨hx, fd4⟩
                | false => exact hN _ ⟨hx, fd4⟩
              · refine hN _ ⟨?_, fd1⟩
                have es : ¬ s0 = kd c := fun q => e (decide_eq_true (by rw [q]))
                rw [ext_snoc, beq_false_of_ne es, Bool.and_false, Bool.false_and]
          · rw [decide_eq_false (show ¬ (0 : Int) < ((kd c : Nat) : Int) by omega)]
            refine iteF (hN _ ⟨?_, fd⟩)
            unfold ext
            split
            · rw [decide_eq_false hk]; rfl
            · rfl
    · rintro σ H' ⟨xs, F, l, a, v4, v5, rfl, fd, hfold, hlen, hsz⟩
      rw [List.take_length] at hfold
      have hm := law_marks (cds z)
      rw [hfold] at hm
      -- return [mark[:3] for mark in found]
      refine ⟨_, rfl, f, rfl, ⟨_, SqL.of fd.hf⟩, fun D nD => ?_⟩
      have DH : H D = none := fd.sm.free nD
      have fD : f ≠ D := ne_of_none fd.hf nD
      have fd0 := fd.new (o := .lst []) nD
      refine lc_list (K := K) (a := f) (xs := xs) (fun i H3 => ∃ ys, Fnd H H3 f xs F ∧ H3 D = some (.lst ys) ∧ MkAll H3 ys ((F.take i).map cut3))
        ⟨[], fd0, upd_same, by rw [List.take_zero]; exact .nil⟩ (fun i H' _ ⟨_, h, _⟩ => SqL.of h.hf) ?_ ?_
      · rintro i x H3 hx ⟨ys, fd3, hD, hm3⟩
        obtain ⟨⟨l0, a0, t0, s0⟩, hb, t, rfl, ht⟩ := paired_get fd3.ms hx
        have hi : i < F.length := (List.getElem?_eq_some_iff.mp hb).1
        refine ⟨rfl, yesT ⟨_, rfl, 3, rfl, t, _, rfl, SqT.of ht, (fun h => absurd (show (3 : Nat) = 4 from h.2) (by decide)), fun p np => ?_⟩⟩
        have fd4 := fd3.new (o := .tup (cutV [.int l0, .int a0, .str ⟨t0.toArray⟩, .int s0] none (some 3))) np
        have tk4 := (TK.refl H3).new (o := .tup (cutV [.int l0, .int a0, .str ⟨t0.toArray⟩, .int s0] none (some 3))) np
        have hp : (upd H3 p (.tup (cutV [.int l0, .int a0, .str ⟨t0.toArray⟩, .int s0] none (some 3)))) p = some (.tup [.int l0, .int a0, .str ⟨t0.toArray⟩]) := upd_same
        have hD4 := (upd_ne (o := .tup (cutV [.int l0, .int a0, .str ⟨t0.toArray⟩, .int s0] none (some 3))) (H := H3) (ne_of_none hD np)).trans hD
        generalize upd H3 p _ = H4 at fd4 tk4 hp hD4 ⊢
        have ly := paired_len hm3
        refine ⟨ys, hD4, ?_, ys ++ [.ref p], ⟨same_mut fd4.sm DH, (upd_ne fD).trans fd4.hf, fd4.ms.tk ((TK.refl _).mut hD4)⟩, upd_same, ?_⟩
        · rw [ly, List.length_map, List.length_take]
          refine small1000' ?_
          rw [cds_len] at hlen
          omega
        · rw [List.take_add_one, hb]
          show MkAll _ _ (List.map cut3 (F.take i ++ [(l0, a0, t0, s0)]))
          rw [List.map_append]
          exact paired_snoc ⟨p, rfl, (upd_ne (ne_of hp hD4 (by intro z; cases z))).trans hp⟩ ((hm3.tk tk4).tk ((TK.refl _).mut hD4))
      · rintro H3 ⟨ys, fd3, hD, hm3⟩
        rw [paired_len fd3.ms, List.take_length, hm] at hm3
        exact k _ D ys fd3.sm hD hm3
end
end Sd

namespace Sd
open PySem PySem.Spec PyProof.Rows L2
abbrev N_law_piece : List Str := ["_law_heap_here", "_law_sort_here", "_law_turn", "_law_some"]
theorem sc_law_piece : FnScope N_law_piece ["_law_heap_here"] (defScope s_law_piece) := ⟨rfl, rfl, rfl, by decide +kernel, rfl, by decide +kernel, by decide +kernel⟩
/-! ### texts joined, texts repeated -/
def joinL (sep : List Nat) : List (List Nat) → List Nat
  | [] => []
  | [m] => m
  | m :: n :: r => m ++ sep ++ joinL sep (n :: r)
theorem cds_app (x y : Str) : cds (x ++ y) = cds x ++ cds y := by
  show (x.cps ++ y.cps).toList = _
  simp [cds]
theorem cds_join (sep : Str) : ∀ ss : List Str, cds (Str.join sep ss) = joinL (cds sep) (ss.map cds)
  | [] => rfl
  | [m] => rfl
  | m :: n :: r => by
    show cds (m ++ sep ++ Str.join sep (n :: r)) = _
    rw [cds_app, cds_app, cds_join sep (n :: r)]
    rfl
theorem joinL_mem {sep : List Nat} {c : Nat} : ∀ {ss : List (List Nat)}, c ∈ joinL sep ss → c ∈ sep ∨ ∃ s ∈ ss, c ∈ s
  | [m], h => .inr ⟨m, List.mem_cons_self, h⟩
  | m :: n :: r, h => by
    have h' : c ∈ m ++ sep ++ joinL sep (n :: r) := h
    rcases List.mem_append.mp h' with h1 | h1
    · rcases List.mem_append.mp h1 with h2 | h2
      · exact .inr ⟨m, List.mem_cons_self, h2⟩
      · exact .inl h2
    · rcases joinL_mem h1 with h2 | ⟨s, hs, h2⟩
      · exact .inl h2
      · exact .inr ⟨s, List.mem_cons_of_mem _ hs, h2⟩
theorem joinL_len (sep : List Nat) : ∀ ss : List (List Nat), (joinL sep ss).length ≤ (ss.map (·.length)).sum + ss.length * sep.length
  | [] => Nat.zero_le _
  | [m] => by simp [joinL]
  | m :: n :: r => by
    have := joinL_len sep (n :: r)
    show (m ++ sep ++ joinL sep (n :: r)).length ≤ _
    simp only [List.length_append, List.length_cons, List.map_cons, List.sum_cons, Nat.add_mul] at this ⊢
    omega
theorem joinL_blank : ∀ ms : List (List Nat), joinL [32] ms = joinB ms
  | [] => rfl
  | [m] => rfl
  | m :: n :: r => by
    show m ++ [32] ++ joinL [32] (n :: r) = m ++ 32 :: joinB (n :: r)
    rw [joinL_blank (n :: r)]
    simp
theorem rep_fold (a : Array Nat) : ∀ (n : Nat) (acc : Array Nat), ((List.replicate n a).foldl (· ++ ·) acc).size = acc.size + n * a.size ∧
    ∀ c ∈ ((List.replicate n a).foldl (· ++ ·) acc).toList, c ∈ acc.toList ∨ c ∈ a.toList
  | 0, acc => ⟨by simp, fun c h => .inl h⟩
  | n + 1, acc => by
    rw [List.replicate_succ, List.foldl_cons]
    obtain ⟨h1, h2⟩ := rep_fold a n (acc ++ a)
    refine ⟨by rw [h1, Array.size_append, Nat.add_mul]; omega, fun c h => ?_⟩
    rcases h2 c h with z | z
    · rw [Array.toList_append] at z
      exact List.mem_append.mp z
    · exact .inr z
theorem mul_size (x : Str) (n : Nat) : (Txt.mul x n).length ≤ n * x.length ∧ ∀ c ∈ cds (Txt.mul x n), c ∈ cds x := by
  unfold Txt.mul
  by_cases h : (n : Int) < 1
  · rw [if_pos h]
    exact ⟨Nat.zero_le _, fun c hc => by cases hc⟩
  · rw [if_neg h]
    split
    · refine ⟨?_, fun c hc => hc⟩
      exact Nat.le_mul_of_pos_left _ (by omega)
    · obtain ⟨h1, h2⟩ := rep_fold x.cps (n : Int).toNat #[]
      refine ⟨Nat.le_of_eq ?_, fun c hc => ?_⟩
      · show (Array.size _) = _
        rw [h1]
        simp [Str.length]
      · rcases h2 c hc with z | z
        · cases z
        · exact z
theorem mulOk_small {x : Str} {n : Nat} (hn : n ≤ 1000) (hx : x.length ≤ 1000) : MulOk x n := by
  refine ⟨?_, fun h1 _ h3 => ?_, fun _ _ => ?_⟩
  · simp
    omega
  · have h5 : (2 ^ 63 - 1 : Int) / (n : Int) < 1001 := by omega
    have := Int.lt_ediv_add_one_mul_self (2 ^ 63 - 1 : Int) (b := (n : Int)) (by omega)
    have h6 : ((2 ^ 63 - 1 : Int) / (n : Int) + 1) * (n : Int) ≤ 1001 * 1000 := by
      refine Int.le_trans (Int.mul_le_mul_of_nonneg_right (show (2 ^ 63 - 1 : Int) / (n : Int) + 1 ≤ 1001 by omega) (by omega)) ?_
      exact Int.mul_le_mul_of_nonneg_left (by omega) (by omega)
    omega
  · have : x.length * (n : Int).toNat ≤ 1000 * 1000 := Nat.mul_le_mul hx (by omega)
    unfold Builtin.Str.tooLong
    rw [decide_eq_false_iff_not]
    have e : sizeLine = 16777216 := by decide
    omega
/-- a text of signs that can be -/
def TxtOk (n : Nat) (z : Str) : Prop := z.length ≤ n ∧ ∀ c ∈ cds z, c < 1114112
theorem sum_le {α : Type} (f : α → Nat) (m : Nat) : ∀ l : List α, (∀ x ∈ l, f x ≤ m) → (l.map f).sum ≤ l.length * m
  | [], _ => Nat.zero_le _
  | a :: l, h => by
    have h1 := h a List.mem_cons_self
    have h2 := sum_le f m l fun x hx => h x (List.mem_cons_of_mem _ hx)
    rw [List.map_cons, List.sum_cons, List.length_cons, Nat.add_mul]
    omega
theorem empty_cds : cds "" = [] := by decide +kernel
theorem empty_len : ("" : Str).length = 0 := by decide +kernel
theorem txtOk_join {m n : Nat} {ss : List Str} (h : ∀ s ∈ ss, TxtOk m s) (hn : ss.length ≤ n) : TxtOk (n * m) (Str.join "" ss) ∧ (ss.map (·.length)).sum ≤ n * m := by
  have h1 : (ss.map (·.length)).sum ≤ n * m := Nat.le_trans (sum_le (fun s : Str => s.length) m ss fun s hs => (h s hs).1) (Nat.mul_le_mul_right _ hn)
  refine ⟨⟨?_, fun c hc => ?_⟩, h1⟩
  · have := StrLaws.join_length_le "" ss
    rw [empty_len] at this
    omega
  · rw [cds_join] at hc
    rcases joinL_mem hc with z | ⟨s, hs, z⟩
    · rw [empty_cds] at z; cases z
    · obtain ⟨s', hs', rfl⟩ := List.mem_map.mp hs
      exact (h s' hs').2 c z
theorem menu {α : Type} {f : α → V} {ms : List α} {i : Nat} {v : V} (h : (ms.map f)[i]? = some v) : ∃ m ∈ ms, v = f m := by
  rw [List.getElem?_map] at h
  cases e : ms[i]? with
  | none =>
    rw [e] at h
    cases h
  | some m =>
    rw [e] at h
    exact ⟨m, List.mem_of_getElem? e, (Option.some.inj h).symm⟩
theorem Dr.apart {H : Hp} {p q a : Addr} (d : Dr H p q) (h : H a = none) : a ≠ p ∧ a ≠ q := by
  obtain ⟨cs, st, h1, h2, _⟩ := d
  exact ⟨(ne_of_none h1 h).symm, (ne_of_none h2 h).symm⟩
def signs1 : List Str :=
  ["\n", "=", "/", "-", ",", ";",
   ":", "!", "&", "|", "(", ")",
   "A", "Z", "~", "_", "@", "{",
   "[", "?", "\n", ".", "$"]
def signs2 : List Str := ["\\", "#", "*", "`", "+", "-", "-"]
def spPiece : Sp := fun vs H Q _ => ∃ (p q : Addr), vs = [.ref p] ∧ Dr H p q ∧ ∀ (H' : Hp) (z : Str), Kp p q H H' → Dr H' p q → TxtOk 30 z → Q (.str z) H'
section
variable {P : Program} {w : World} {K : PySem.W.Frag} {mg : Str → Option Value} {base : Heap}
theorem Kp.keep {x0 y0 D : Addr} {H H1 : Hp} {o : HO} (x : Kp x0 y0 H H1) (h0 : D ≠ x0) (h1 : D ≠ y0) (h : H D = none) : Kp x0 y0 H (upd H1 D o) := x.own h
theorem Dr.put {H : Hp} {p q D : Addr} {o : HO} (d : Dr H p q) (h0 : D ≠ p) (h1 : D ≠ q) : Dr (upd H D o) p q := by
  obtain ⟨cs, st, e1, e2, h⟩ := d
  exact ⟨cs, st, (upd_ne h0.symm).trans e1, (upd_ne h1.symm).trans e2, h⟩
theorem cds_item {z : Str} {j : Nat} (h : j < z.length) : ∃ c, z.cps[((j : Nat) : Int).toNat]? = some c ∧ c ∈ cds z := by
  have hj : j < (cds z).length := by rw [cds_len]; exact h
  refine ⟨(cds z)[j], ?_, List.getElem_mem _⟩
  rw [Int.toNat_natCast, cps_get]
  exact List.getElem?_eq_getElem hj
theorem ok_piece (T : Txt K mg) : FnOk P w K mg base CX0 3 T.a_law_piece T.d_law_piece ["_law_heap_here"] spPiece := by
  have G_law_draw : FnOk P w K mg base CX0 1 T.a_law_draw T.d_law_draw _ _ := ok_draw T
  have G_law_pick : FnOk P w K mg base CX0 2 T.a_law_pick T.d_law_pick _ _ := ok_pick T
  refine T.F_law_piece.ok sc_law_piece (fun vs H Q E h => ?_) (fun cdv A outer s H vs Q E hr h => ?_)
  · obtain ⟨p, q, rfl, _⟩ := h
    rfl
  · obtain ⟨p, q, rfl, hd, k⟩ := h
    refine ⟨_, (pss_cons (ps_set (i := 1) sc_law_piece.nd rfl (.inl rfl) (pe_call G_law_draw (hr.mono (by decide)) (by rfl) T.g_law_draw T.k_law_draw T.b_law_draw .nil pass0 (pa_cons (pv 0) (pa_cons pe_int pa_nil))))
    (pss_cons (ps_if (pt_cmpR op_lt (pv 1) pe_int (nomark _))
      (pss_one (ps_ret (pe_join pe_str (pe_lc (own := [("_law_turn", 2)]) (g := gName 2) (by rfl) sc_law_piece.nd (pi_range1 (by rfl) T.n_range (pa_cons (pe_op op_add pe_int (pe_call G_law_draw (hr.mono (by decide)) (by rfl) T.g_law_draw T.k_law_draw T.b_law_draw .nil pass0 (pa_cons (pv 0) (pa_cons (pe_call G_law_pick hr (by rfl) T.g_law_pick T.k_law_pick T.b_law_pick .nil pass0 (pa_cons (pv 0) (pa_cons (pe_lst (pa_cons pe_int (pa_cons pe_int (pa_cons pe_int pa_nil)))) pa_nil))) pa_nil)))) pa_nil)) (blkOk_by (own := [("_law_turn", 2)]) (N := N_law_piece) (sc := defScope s_law_piece) (by decide +kernel)) (fun _ _ _ _ _ => (pg_name (i := 2) sc_law_piece.nd rfl (Or.inl rfl))) (fun _ _ _ _ _ => pts_nil) (fun _ _ _ _ _ => (pe_item_str pe_str (pe_call G_law_draw (hr.mono (by decide)) (by rfl) T.g_law_draw T.k_law_draw T.b_law_draw .nil pass0 (pa_cons (pv 0) (pa_cons pe_int pa_nil))) (fun _ _ => rfl)))))))
      pss_nil)
    (pss_cons (ps_if (pt_cmpR op_lt (pv 1) pe_int (nomark _))
      (pss_one (ps_ret (pe_join pe_str (pe_lc (own := [("_law_turn", 2)]) (g := gName 2) (by rfl) sc_law_piece.nd (pi_range1 (by rfl) T.n_range (pa_cons (pe_op op_add pe_int (pe_call G_law_draw (hr.mono (by decide)) (by rfl) T.g_law_draw T.k_law_draw T.b_law_draw .nil pass0 (pa_cons (pv 0) (pa_cons (pe_call G_law_pick hr (by rfl) T.g_law_pick T.k_law_pick T.b_law_pick .nil pass0 (pa_cons (pv 0) (pa_cons (pe_lst (pa_cons pe_int (pa_cons pe_int (pa_cons pe_int pa_nil)))) pa_nil))) pa_nil)))) pa_nil)) (blkOk_by (own := [("_law_turn", 2)]) (N := N_law_piece) (sc := defScope s_law_piece) (by decide +kernel)) (fun _ _ _ _ _ => (pg_name (i := 2) sc_law_piece.nd rfl (Or.inl rfl))) (fun _ _ _ _ _ => pts_nil) (fun _ _ _ _ _ => (pe_item_str pe_str (pe_call G_law_draw (hr.mono (by decide)) (by rfl) T.g_law_draw T.k_law_draw T.b_law_draw .nil pass0 (pa_cons (pv 0) (pa_cons pe_int pa_nil))) (fun _ _ => rfl)))))))
      pss_nil)
    (pss_cons (ps_if (pt_cmpR op_eq (pv 1) pe_int (nomark _))
      (pss_one (ps_ret (pe_op op_mulS pe_str (pe_op op_add pe_int (pe_call G_law_draw (hr.mono (by decide)) (by rfl) T.g_law_draw T.k_law_draw T.b_law_draw .nil pass0 (pa_cons (pv 0) (pa_cons pe_int pa_nil)))))))
      pss_nil)
    (pss_cons (ps_set (i := 3) sc_law_piece.nd rfl (.inl rfl) (pe_lst (pa_cons pe_str (pa_cons pe_str (pa_cons pe_str (pa_cons pe_str (pa_cons pe_str (pa_cons pe_str (pa_cons pe_str (pa_cons pe_str (pa_cons pe_str (pa_cons pe_str (pa_cons pe_str (pa_cons pe_str (pa_cons pe_str (pa_cons pe_str (pa_cons pe_str (pa_cons pe_str (pa_cons pe_str (pa_cons pe_str (pa_cons pe_str (pa_cons pe_str (pa_cons pe_str (pa_cons pe_str (pa_cons pe_str pa_nil)))))))))))))))))))))))))
    (pss_one (ps_ret (pe_call G_law_pick hr (by rfl) T.g_law_pick T.k_law_pick T.b_law_pick .nil pass0 (pa_cons (pv 0) (pa_cons (pe_op op_cat (pv 3) (pe_lst (pa_cons pe_str (pa_cons pe_str (pa_cons pe_str (pa_cons pe_str (pa_cons pe_str (pa_cons pe_str (pa_cons pe_str pa_nil))))))))) pa_nil)))))))))), ?_⟩
    -- sort = draw(heap, 9)
    refine sq ⟨_, rfl, p, q, 9, rfl, hd, by decide, by decide, fun H1 r kp1 hd1 r0 r1 => ?_⟩
    refine sq ⟨_, rfl, _, _, rfl, rfl, _, rfl, ite2 (fun _ => ?_) (fun _ => ?_)⟩
    · -- "".join([..[draw(heap, 10)] for turn in range(1 + draw(heap, pick(heap, [..])))])
      refine ⟨⟨_, rfl⟩, _, rfl, _, rfl, (by show 3 ≤ sizeLine; decide), fun a na => ?_⟩
      have ap := hd1.apart na
      refine ⟨p, q, a, ([3, 7, 30] : List Int).map V.int, rfl, hd1.new na, ap.1, ap.2, SqL.of upd_same, by decide, by decide, fun H2 i v kp2 hd2 hv => ?_⟩
      obtain ⟨m, hm, rfl⟩ := menu hv
      have hm2 : 0 < m ∧ m ≤ 30 := by
        simp only [List.mem_cons, List.not_mem_nil, or_false] at hm
        omega
      have kp3 := kp1.trans ((Kp.refl H1).new na |>.trans kp2)
      refine ⟨p, q, m, rfl, hd2, hm2.1, by omega, fun H3 r2 kp4 hd3 s0 s1 => ⟨_, _, rfl, rfl, _, rfl, by show -(2 ^ 62) ≤ (1 : Int) + r2; omega, by show (1 : Int) + r2 < 2 ^ 62; omega, fun D nD => ?_⟩⟩
      have kp5 := kp3.trans kp4
      have apD := hd3.apart nD
      refine lc_range (lo := 0) (n := (1 + r2).toNat) (fun i H' => ∃ ss : List Str, Kp p q H H' ∧ Dr H' p q ∧ H' D = some (.lst (ss.map V.str)) ∧ ss.length = i ∧ ∀ s ∈ ss, TxtOk 1 s)
        ⟨[], kp5.new nD, hd3.new nD, upd_same, rfl, fun s hs => by cases hs⟩ ?_ ?_
      · rintro i H4 hi ⟨ss, kp6, hd4, hD, hl, hs⟩
        refine ⟨rfl, yesT ⟨_, rfl, p, q, 10, rfl, hd4, by decide, by decide, fun H5 r5 kp7 hd5 t0 t1 => ?_⟩⟩
        obtain ⟨j, rfl⟩ : ∃ j : Nat, r5 = j := ⟨r5.toNat, by omega⟩
        have hlen : ("abcxyznoru" : Str).length = 10 := by decide +kernel
        obtain ⟨c, hc, hc2⟩ := cds_item (z := "abcxyznoru") (j := j) (by rw [hlen]; omega)
        have hD5 := kp7 D _ apD.1 apD.2 hD
        have hcok : c < 1114112 := by
          have e : ∀ c ∈ cds "abcxyznoru", c < 1114112 := by decide +kernel
          exact e c hc2
        refine ⟨"abcxyznoru", j, c, rfl, rfl, by omega, by omega, by rw [hlen]; omega, hc, _, hD5, ?_, ss ++ [⟨#[c]⟩], ?_, ?_, upd_same.trans (by rw [List.map_append]; rfl), by simp [hl], ?_⟩
        · rw [List.length_map]; exact small1000 (by omega)
        · exact (kp6.trans kp7).keep apD.1 apD.2 (by
            cases e : H D with
            | none => rfl
            | some o =>
              have := kp5 D o apD.1 apD.2 e
              rw [this] at nD
              cases nD)
        · exact hd5.put apD.1 apD.2
        · intro s hs2
          rcases List.mem_append.mp hs2 with z | z
          · exact hs s z
          · rw [List.mem_singleton.mp z]
            exact ⟨Nat.le_refl 1, fun d hd => by rw [show d = c by simpa [cds] using hd]; exact hcok⟩
      · rintro H4 ⟨ss, kp6, hd4, hD, hl, hs⟩
        obtain ⟨o1, o2⟩ := txtOk_join (n := 30) hs (by omega)
        refine ⟨_, D, ss, rfl, rfl, .inl (SqL.of hD), ?_, ?_⟩
        · rw [empty_len]
          omega
        · rw [TL.join_eq]
          exact k _ _ kp6 hd4 o1
    · refine sq ⟨_, rfl, _, _, rfl, rfl, _, rfl, ite2 (fun _ => ?_) (fun _ => ?_)⟩
      · -- "".join([..[draw(heap, 10)] for turn in range(1 + draw(heap, pick(heap, [..])))])
        refine ⟨⟨_, rfl⟩, _, rfl, _, rfl, (by show 3 ≤ sizeLine; decide), fun a na => ?_⟩
        have ap := hd1.apart na
        refine ⟨p, q, a, ([2, 4, 12] : List Int).map V.int, rfl, hd1.new na, ap.1, ap.2, SqL.of upd_same, by decide, by decide, fun H2 i v kp2 hd2 hv => ?_⟩
        obtain ⟨m, hm, rfl⟩ := menu hv
        have hm2 : 0 < m ∧ m ≤ 30 := by
          simp only [List.mem_cons, List.not_mem_nil, or_false] at hm
          omega
        have kp3 := kp1.trans ((Kp.refl H1).new na |>.trans kp2)
        refine ⟨p, q, m, rfl, hd2, hm2.1, by omega, fun H3 r2 kp4 hd3 s0 s1 => ⟨_, _, rfl, rfl, _, rfl, by show -(2 ^ 62) ≤ (1 : Int) + r2; omega, by show (1 : Int) + r2 < 2 ^ 62; omega, fun D nD => ?_⟩⟩
        have kp5 := kp3.trans kp4
        have apD := hd3.apart nD
        refine lc_range (lo := 0) (n := (1 + r2).toNat) (fun i H' => ∃ ss : List Str, Kp p q H H' ∧ Dr H' p q ∧ H' D = some (.lst (ss.map V.str)) ∧ ss.length = i ∧ ∀ s ∈ ss, TxtOk 1 s)
          ⟨[], kp5.new nD, hd3.new nD, upd_same, rfl, fun s hs => by cases hs⟩ ?_ ?_
        · rintro i H4 hi ⟨ss, kp6, hd4, hD, hl, hs⟩
          refine ⟨rfl, yesT ⟨_, rfl, p, q, 10, rfl, hd4, by decide, by decide, fun H5 r5 kp7 hd5 t0 t1 => ?_⟩⟩
          obtain ⟨j, rfl⟩ : ∃ j : Nat, r5 = j := ⟨r5.toNat, by omega⟩
          have hlen : ("0123456789" : Str).length = 10 := by decide +kernel
          obtain ⟨c, hc, hc2⟩ := cds_item (z := "0123456789") (j := j) (by rw [hlen]; omega)
          have hD5 := kp7 D _ apD.1 apD.2 hD
          have hcok : c < 1114112 := by
            have e : ∀ c ∈ cds "0123456789", c < 1114112 := by decide +kernel
            exact e c hc2
          refine ⟨"0123456789", j, c, rfl, rfl, by omega, by omega, by rw [hlen]; omega, hc, _, hD5, ?_, ss ++ [⟨#[c]⟩], ?_, ?_, upd_same.trans (by rw [List.map_append]; rfl), by simp [hl], ?_⟩
          · rw [List.length_map]; exact small1000 (by omega)
          · exact (kp6.trans kp7).keep apD.1 apD.2 (by
              cases e : H D with
              | none => rfl
              | some o =>
                have := kp5 D o apD.1 apD.2 e
                rw [this] at nD
                cases nD)
          · exact hd5.put apD.1 apD.2
          · intro s hs2
            rcases List.mem_append.mp hs2 with z | z
            · exact hs s z
            · rw [List.mem_singleton.mp z]
              exact ⟨Nat.le_refl 1, fun d hd => by rw [show d = c by simpa [cds] using hd]; exact hcok⟩
        · rintro H4 ⟨ss, kp6, hd4, hD, hl, hs⟩
          obtain ⟨o1, o2⟩ := txtOk_join (n := 30) hs (by omega)
          refine ⟨_, D, ss, rfl, rfl, .inl (SqL.of hD), ?_, ?_⟩
          · rw [empty_len]
            omega
          · rw [TL.join_eq]
            exact k _ _ kp6 hd4 o1
      · refine sq ⟨_, rfl, rfl, _, rfl, ite2 (fun _ => ?_) (fun _ => ?_)⟩
        · -- return " " * (1 + draw(heap, 3))
          refine ⟨_, rfl, p, q, 3, rfl, hd1, by decide, by decide, fun H2 r kp2 hd2 r0 r1 => ⟨_, _, rfl, rfl, ?_⟩⟩
          obtain ⟨j, rfl⟩ : ∃ j : Nat, r = j := ⟨r.toNat, by omega⟩
          have ej : (1 : Int) + (j : Int) = ((1 + j : Nat) : Int) := by omega
          refine ⟨_, _, rfl, rfl, ?_, ?_⟩
          · show MulOk _ ((1 : Int) + (j : Int))
            rw [ej]
            exact mulOk_small (by omega) (by decide)
          · show Q (V.str (Txt.mul _ ((1 : Int) + (j : Int)))) H2
            rw [ej]
            obtain ⟨m1, m2⟩ := mul_size " " (1 + j)
            refine k H2 _ (kp1.trans kp2) hd2 ⟨Nat.le_trans m1 ?_, fun c hc => ?_⟩
            · have : (" " : Str).length = 1 := by decide
              rw [this]
              omega
            · have e : cds " " = [32] := by decide +kernel
              have := m2 c hc
              rw [e] at this
              rw [List.mem_singleton.mp this]
              decide
        · -- some = [..]; return pick(heap, some + [..])
          refine sq ⟨by show 23 ≤ sizeLine; decide, fun a na => ?_⟩
          have ap := hd1.apart na
          have hd2 := hd1.new (o := .lst (signs1.map V.str)) na
          have kp2 := kp1.new (o := .lst (signs1.map V.str)) na
          have ha : (upd H1 a (.lst (signs1.map V.str))) a = _ := upd_same
          refine ⟨_, rfl, _, rfl, (by show 7 ≤ sizeLine; decide), fun b nb => ?_⟩
          have hd3 := hd2.new (o := .lst (signs2.map V.str)) nb
          have kp3 := kp2.new (o := .lst (signs2.map V.str)) nb
          have ab : a ≠ b := ne_of_none ha nb
          have ha2 := (upd_ne (o := .lst (signs2.map V.str)) ab).trans ha
          refine ⟨a, b, _, _, rfl, rfl, ha2, upd_same, (by show 30 ≤ sizeLine; decide), fun c nc => ?_⟩
          have ap3 := hd3.apart nc
          refine ⟨p, q, c, _, rfl, hd3.new nc, ap3.1, ap3.2, SqL.of upd_same, by decide, by decide, fun H5 i v kp5 hd5 hv => ?_⟩
          have hv2 : ((signs1 ++ signs2).map V.str)[i]? = some v := hv
          obtain ⟨m, hm, rfl⟩ := menu hv2
          have all : ∀ m ∈ (signs1 ++ signs2), m.length ≤ 30 ∧ ∀ c ∈ cds m, c < 1114112 := by decide +kernel
          exact k _ _ ((kp3.new nc).trans kp5) hd5 (all m hm)
end
end Sd

namespace Sd
open PySem PySem.Spec PyProof.Rows L2
/-! ### marks as data: laid, shown -/
theorem shownAll_map {α : Type} (f : α → PyData) : ∀ l : List α, PyData.shownAll (l.map f) = l.map fun x => (f x).shown
  | [] => by simp only [List.map_nil, PyData.shownAll]
  | a :: l => by simp only [List.map_cons, PyData.shownAll, shownAll_map f l]
theorem showable_all : ∀ {ds : List PyData}, (∀ d ∈ ds, d.showable = true) → PyData.showableAll ds = true
  | [], _ => by simp only [PyData.showableAll]
  | d :: r, h => by
    simp only [PyData.showableAll, Bool.and_eq_true]
    exact ⟨h d List.mem_cons_self, showable_all fun e m => h e (List.mem_cons_of_mem _ m)⟩
theorem tupleText_le (ts : List Str) : (tupleText ts).length ≤ piled ts + 3 := by
  unfold tupleText
  rw [strLen_append, strLen_append]
  have e1 : ((("(" : String) : Str)).length = 1 := rfl
  have e3 : (((if ts.length == 1 then ",)" else ")" : String) : Str)).length ≤ 2 := by split <;> decide
  rw [e1]
  by_cases h : ts = []
  · subst h
    have : (Str.join ", " ([] : List Str)).length = 0 := rfl
    omega
  · have := join_length_add ts h
    omega
theorem nat_shown {n : Nat} (h : n < 100000) : (Str.ofString (toString (n : Int))).length ≤ 6 := by
  rw [PySem.ofString_length]
  exact int_text_length_le10 (k := 5) (by decide) (by show n < 10 ^ 5; omega)
theorem mD_shown {x : Nat × Nat × List Nat} (h1 : x.1 < 100000) (h2 : x.2.1 < 100000) (h3 : ∀ c ∈ x.2.2, c < 1114112) : (mD x).shown.length ≤ 10 * x.2.2.length + 25 := by
  have e : (mD x).shown = tupleText [Str.ofString (toString (x.1 : Int)), Str.ofString (toString (x.2.1 : Int)), reprText ⟨x.2.2.toArray⟩] := by
    unfold mD
    simp only [PyData.shown, PyData.shownAll]
  rw [e]
  refine Nat.le_trans (tupleText_le _) ?_
  rw [piled_cons, piled_cons, piled_cons, piled_nil]
  have a1 := nat_shown h1
  have a2 := nat_shown h2
  have a3 := StrLaws.reprText_len ⟨x.2.2.toArray⟩ (fun c hc => Nat.lt_of_lt_of_le (h3 c (by simpa using hc)) (by decide))
  have a4 : (⟨x.2.2.toArray⟩ : Str).length = x.2.2.length := by simp [Str.length]
  rw [a4] at a3
  omega
structure Good (d : PyData) : Prop where
  flat : Flat 2 d
  shows : d.showable = true
  small : d.shown.length ≤ sizeLine
theorem Good.noDict {d : PyData} (g : Good d) : d.hasDict = false := PyData.hasDict_of_canLay d g.flat.1
theorem Good.deep {d : PyData} (g : Good d) : d.depth ≤ 8 := Nat.le_trans g.flat.2 (by decide)
theorem Good.shaped {d : PyData} (g : Good d) : SeqAt.shaped d = true := g.flat.shaped (by decide)
theorem marks_flat {L : List (Nat × Nat × List Nat)} (h : ∀ x ∈ L, ∀ c ∈ x.2.2, c < 1114112) : Flat 2 (.tuple (L.map mD)) := by
  refine flat_tuple (n := 1) fun d hd => ?_
  obtain ⟨x, hx, rfl⟩ := List.mem_map.mp hd
  refine flat_tuple (n := 0) fun e he => ?_
  simp only [List.mem_cons, List.not_mem_nil, or_false] at he
  rcases he with rfl | rfl | rfl
  · exact flat_int _ _
  · exact flat_int _ _
  · exact flat_str (h x hx) _
theorem piled_map {α : Type} (f : α → Str) (g : α → Nat) (h : ∀ l : List α, True) : ∀ L : List α, (∀ x ∈ L, (f x).length ≤ 10 * g x + 25) → piled (L.map f) ≤ 10 * (L.map g).sum + 27 * L.length
  | [], _ => Nat.zero_le _
  | a :: L, hh => by
    have h1 := hh a List.mem_cons_self
    have h2 := piled_map f g h L fun x hx => hh x (List.mem_cons_of_mem _ hx)
    rw [List.map_cons, List.map_cons, piled_cons, List.sum_cons, List.length_cons]
    omega
theorem marks_good {cs : List Nat} (hl : cs.length ≤ 10000) (hc : ∀ c ∈ cs, c < 1114112) : Good (.tuple ((marks 0 0 cs).map mD)) := by
  obtain ⟨s1, s2, s3⟩ := marks_size _ cs 0 0 (Nat.le_refl _)
  have hok : ∀ x ∈ marks 0 0 cs, ∀ c ∈ x.2.2, c < 1114112 := fun x hx c h => hc c ((s3 x hx).2.2 c h)
  refine ⟨marks_flat hok, ?_, ?_⟩
  · simp only [PyData.showable]
    refine showable_all fun d hd => ?_
    obtain ⟨x, hx, rfl⟩ := List.mem_map.mp hd
    have b : ∀ n : Nat, n ≤ 10000 → decide ((n : Int).natAbs.log2 < 1920) = true := fun n hn => by
      refine decide_eq_true ?_
      rw [Int.natAbs_natCast]
      by_cases h0 : n = 0
      · subst h0; decide
      · exact Nat.lt_of_lt_of_le ((Nat.log2_lt h0).mpr (show n < 2 ^ 14 from by omega)) (by decide)
    obtain ⟨b1, b2, _⟩ := s3 x hx
    unfold mD
    simp only [PyData.showable, PyData.showableAll, Bool.and_true, Bool.and_eq_true]
    exact ⟨b _ (by omega), b _ (by omega)⟩
  · simp only [PyData.shown]
    rw [shownAll_map]
    refine Nat.le_trans (tupleText_le _) ?_
    have := piled_map (fun x => (mD x).shown) (fun x => x.2.2.length) (fun _ => trivial) (marks 0 0 cs) fun x hx => by
      obtain ⟨b1, b2, _⟩ := s3 x hx
      exact mD_shown (by omega) (by omega) (hok x hx)
    have e : sizeLine = 16777216 := by decide
    rw [e]
    omega
end Sd

namespace Sd
open PySem PySem.Spec PyProof.Rows L2
abbrev N_law : List Str := ["_law_script", "_law_heap_here", "_law_turn", "_law_text", "_law_again", "_law_due", "_law_told", "_law_joined", "_law_line", "_law_at", "_law_mark"]
theorem sc_law : FnScope N_law ["_law_script"] (defScope s_law) := ⟨rfl, rfl, rfl, by decide +kernel, rfl, by decide +kernel, by decide +kernel⟩
theorem Fun.kw {K : PySem.W.Frag} {x qual : Str} {st : Stmt} {f : Addr} {fd : FuncData} {ps ks : List Str} {g : List Value → List Value} {gV : List V → List V} (F : Fun K x qual st f fd)
    (h : ∀ (kV doc pm : Value) (an : Option Addr) (cdv ct : Value) (ws : List Value), ws.length = ks.length →
      bindArgs (PySem.W.fnOf x qual (defArgs st) (defBody st) (defScope st) .none kV doc pm an cdv ct) ⟨[], ks.zip ws⟩ = pure (ps.zip (g ws)))
    (rel : ∀ {zs : List V} {ws : List Value}, Vals zs ws → Vals (gV zs) (g ws)) : KW0 K fd ps ks g gV := by
  obtain ⟨oc, od, kV, doc, pm, an, cdv, ct, osl, rfl, lk, hcd⟩ := F.ex
  exact ⟨fun s ws _ hl => .of_eq (h kV doc pm an cdv ct ws hl), rel⟩
theorem Txt.w_marks_in {K : PySem.W.Frag} {mg : Str → Option Value} (T : Txt K mg) : KW0 K T.d_marks_in ["text"] ["text"] (fun ws => ws) (fun zs => zs) :=
  Fun.kw T.F_marks_in (fun _ _ _ _ _ _ ws hl => match ws, hl with | [_], _ => rfl) (fun h => h)
theorem TxtOk.app {m n : Nat} {x y : Str} (hx : TxtOk m x) (hy : TxtOk n y) : TxtOk (m + n) (x ++ y) := by
  refine ⟨?_, fun c hc => ?_⟩
  · rw [strLen_append]
    exact Nat.add_le_add hx.1 hy.1
  · rw [cds_app] at hc
    rcases List.mem_append.mp hc with z | z
    · exact hx.2 c z
    · exact hy.2 c z
theorem TxtOk.mono {m n : Nat} {x : Str} (h : TxtOk m x) (hn : m ≤ n) : TxtOk n x := ⟨Nat.le_trans h.1 hn, h.2⟩
theorem TxtOk.line {m : Nat} {x : Str} (h : TxtOk m x) (hn : m ≤ 1000000) : x.length ≤ sizeLine := Nat.le_of_lt (small1000' (Nat.le_trans h.1 hn))
theorem txtOk_mul {x : Str} {n m : Nat} (hx : TxtOk m x) : TxtOk (n * m) (Txt.mul x n) :=
  ⟨Nat.le_trans (mul_size x n).1 (Nat.mul_le_mul_left _ hx.1), fun c hc => hx.2 c ((mul_size x n).2 c hc)⟩
/-- the texts of some marks, laid one by one -/
abbrev txV (x : Nat × Nat × List Nat) : V := .str ⟨x.2.2.toArray⟩
def TxP (H1 : Hp) (D : Addr) (L : List (Nat × Nat × List Nat)) (i : Nat) (H : Hp) : Prop := Same H1 H ∧ H D = some (.lst ((L.take i).map txV))
theorem txs_turn {K : PySem.W.Frag} {H1 : Hp} {D : Addr} {ys : List V} {L : List (Nat × Nat × List Nat)} (hm : MkAll H1 ys L) (nD : H1 D = none) (hL : L.length ≤ 100000)
    (x0 x1 x2 x3 x4 x5 x6 x7 x8 x9 x10 : Option V) : ∀ i x H, ys[i]? = some x → TxP H1 D L i H →
    gTup K 3 (gCons (gName 8) (gCons (gName 9) (gCons (gName 10) gNil))) x (wipe [x0, x1, x2, x3, x4, x5, x6, x7, x8, x9, x10] [8, 9, 10]) H fun σ2 H2 =>
      wipe σ2 [8, 9, 10] = wipe [x0, x1, x2, x3, x4, x5, x6, x7, x8, x9, x10] [8, 9, 10] ∧ tYes σ2 H2 fun b H3 =>
        if b = true then tVar 10 σ2 H3 fun y H4 => ∃ acc, H4 D = some (.lst acc) ∧ acc.length < sizeLine ∧
          TxP H1 D L (i + 1) (upd H4 D (.lst (acc ++ [y])))
        else TxP H1 D L (i + 1) H3 := by
  rintro i x H hx ⟨sm, hD⟩
  obtain ⟨⟨l0, a0, t0⟩, hb, t, rfl, ht⟩ := paired_get hm hx
  refine ⟨t, _, rfl, SqT.of (sm _ _ ht), rfl, _, _, rfl, _, _, rfl, _, [], rfl, rfl, rfl, yesT ⟨_, rfl, _, hD, ?_, same_mut sm nD, upd_same.trans ?_⟩⟩
  · rw [List.length_map, List.length_take]
    exact small1000' (by omega)
  · rw [List.take_add_one, hb]
    simp
theorem txts_V (L : List (Nat × Nat × List Nat)) : L.map txV = ((L.map (·.2.2)).map fun m => (⟨m.toArray⟩ : Str)).map V.str := by
  rw [List.map_map, List.map_map]
  rfl
theorem dpAll_strs {K : PySem.W.Frag} {H : Hp} : ∀ ss : List Str, DpAll K H (ss.map V.str) (ss.map PyData.str)
  | [] => .nil
  | c :: r => .cons (.str c) (dpAll_strs r)
theorem shaped_strs {ss : List Str} (h : ∀ s ∈ ss, ∀ c ∈ cds s, c < 1114112) : SeqAt.shaped (.list (ss.map PyData.str)) = true := by
  refine (flat_list (n := 0) ?_).shaped (by decide)
  intro d hd
  obtain ⟨s, hs, rfl⟩ := List.mem_map.mp hd
  have := flat_str (l := cds s) (h s hs) 0
  simpa [cds] using this
theorem eqv_strs (ss : List Str) (h : SeqAt.shaped (.list (ss.map PyData.str)) = true) : PyData.eqv (.list (ss.map PyData.str)) (.list (ss.map PyData.str)) = true :=
  SeqAt.eqv_refl _ (SeqAt.canLay_of_shaped h)
/-! ### written tuples of tuples -/
abbrev T3 := Int × Int × Str
def tM (x : T3) : TE := tTup (tCons (tC (.int x.1)) (tCons (tC (.int x.2.1)) (tCons (tC (.str x.2.2)) tNil)))
def tMs : List T3 → TA
  | [] => tNil
  | x :: r => tCons (tM x) (tMs r)
def M3 (H : Hp) (v : V) (x : T3) : Prop := ∃ t, v = .ref t ∧ H t = some (.tup [.int x.1, .int x.2.1, .str x.2.2])
def d3 (x : T3) : PyData := .tuple [.int x.1, .int x.2.1, .str x.2.2]
theorem M3.dp {K : PySem.W.Frag} {H : Hp} : ∀ {xs ds}, Paired (M3 H) xs ds → DpAll K H xs (ds.map d3)
  | _, _, .nil => .nil
  | _, _, .cons ⟨t, e, q⟩ r => by
    subst e
    exact .cons (.tup (SqT.of q) (.cons (.int _) (.cons (.int _) (.cons (.str _) .nil)))) (M3.dp r)
theorem tMs_ok : ∀ (L : List T3) (σ : L2.St) (H : Hp) (Q : List V → Hp → Prop), (∀ H' vs, Same H H' → Paired (M3 H') vs L → Q vs H') → tMs L σ H Q
  | [], σ, H, Q, h => h H [] (Same.refl H) .nil
  | x :: r, σ, H, Q, h => by
    refine ⟨(by show 3 ≤ sizeLine; decide), fun p np => ?_⟩
    refine tMs_ok r σ _ _ fun H' vs sm hp => ?_
    exact h H' _ ((same_new np).trans sm) (.cons ⟨p, rfl, sm _ _ upd_same⟩ hp)
abbrev lawLevel : Nat := 4
def spLaw (K : PySem.W.Frag) : Sp := fun vs H Q _ => ∃ (a : Addr) (ns : List Int), vs = [.ref a] ∧ SqL K H a (ns.map V.int) ∧ ns.length ≤ 63 ∧
  (∀ z ∈ ns, Builtin.Int.intBits z ≤ 1048576) ∧ ∀ H', Q (.bl true) H'
section
variable {P : Program} {w : World} {K : PySem.W.Frag} {mg : Str → Option Value} {base : Heap}
theorem ok_law (T : Txt K mg) {f : Addr} {fd : FuncData} (F : Fun K "law" "law" s_law f fd) : FnG P w K mg base lawLevel f fd ["_law_script"] (spLaw K) := by
  have G_law_heap : FnOk P w K mg base CX0 1 T.a_law_heap T.d_law_heap _ _ := ok_heap T
  have G_law_draw : FnOk P w K mg base CX0 1 T.a_law_draw T.d_law_draw _ _ := ok_draw T
  have G_law_pick : FnOk P w K mg base CX0 2 T.a_law_pick T.d_law_pick _ _ := ok_pick T
  have G_law_piece : FnOk P w K mg base CX0 3 T.a_law_piece T.d_law_piece _ _ := ok_piece T
  have G_law_marks : FnOk P w K mg base CX0 2 T.a_law_marks T.d_law_marks _ _ := ok_marks T
  have G_marks_in : FnOk P w K mg base CX0 3 T.a_marks_in T.d_marks_in _ _ := ok_marks_in T
  refine fn_g F sc_law (fun vs H Q E h => ?_) (fun cdv A outer s H vs Q E hg hr h => ?_)
  · obtain ⟨a, ns, rfl, _⟩ := h
    rfl
  · obtain ⟨a, ns, rfl, hS, hlen, _, k⟩ := h
    refine ⟨_, (pss_cons (ps_set (i := 1) sc_law.nd rfl (.inr rfl) (pe_call G_law_heap (hr.mono (by decide)) (by rfl) T.g_law_heap T.k_law_heap T.b_law_heap .nil pass0 (pa_cons (pv 0) pa_nil)))
    (pss_cons (ps_for PassesOwn.never (by rfl) (pi_range1 (by rfl) T.n_range (pa_cons (pe_op op_add pe_int (pe_op op_mul pe_int (pe_callTy call_int1 (by rfl) T.n_int (by decide +kernel) (pa_cons (pe_cmpR op_gt (pe_callB call_len_seq (by rfl) T.n_len (by decide +kernel) (pa_cons (pv 0) pa_nil)) pe_int (nomark _)) pa_nil)))) pa_nil)) (pg_name (i := 2) sc_law.nd rfl (.inl rfl))
      (pss_cons (ps_set (i := 3) sc_law.nd rfl (.inl rfl) (pe_join pe_str (pe_lc (own := [("_law_again", 4)]) (g := gName 4) (by rfl) sc_law.nd (pi_range1 (by rfl) T.n_range (pa_cons (pe_call G_law_pick (hr.mono (by decide)) (by rfl) T.g_law_pick T.k_law_pick T.b_law_pick .nil pass0 (pa_cons (pv 1) (pa_cons (pe_lst (pa_cons pe_int (pa_cons pe_int (pa_cons pe_int (pa_cons pe_int (pa_cons pe_int pa_nil)))))) pa_nil))) pa_nil)) (blkOk_by (own := [("_law_again", 4)]) (N := N_law) (sc := defScope s_law) (by decide +kernel)) (fun _ _ _ _ _ => (pg_name (i := 4) sc_law.nd rfl (Or.inl rfl))) (fun _ _ _ _ _ => pts_nil) (fun _ _ _ _ _ => (pe_call G_law_piece hr (by rfl) T.g_law_piece T.k_law_piece T.b_law_piece .nil pass0 (pa_cons (pv 1) pa_nil))))))
      (pss_cons (ps_set (i := 3) sc_law.nd rfl (.inl rfl) (pe_ifExp (pt_cmpR op_eq (pe_call G_law_draw (hr.mono (by decide)) (by rfl) T.g_law_draw T.k_law_draw T.b_law_draw .nil pass0 (pa_cons (pv 1) (pa_cons pe_int pa_nil))) pe_int (nomark _)) (pe_op op_add_str (pe_op op_add_str (pe_op op_add_str (pe_op op_add_str (pe_op op_mulS pe_str pe_int) pe_str) (pv 3)) pe_str) (pe_op op_mulS pe_str pe_int)) (pv 3)))
      (pss_cons (ps_set (i := 5) sc_law.nd rfl (.inl rfl) (pe_callTy call_tuple_of (by rfl) T.n_tuple (by decide +kernel) (pa_cons (pe_call G_law_marks (hr.mono (by decide)) (by rfl) T.g_law_marks T.k_law_marks T.b_law_marks .nil pass0 (pa_cons (pv 3) pa_nil)) pa_nil)))
      (pss_cons (ps_set (i := 6) sc_law.nd rfl (.inl rfl) (pe_call G_marks_in hr (by rfl) T.g_marks_in T.k_marks_in T.b_marks_in .nil pass0 (pa_cons (pv 3) pa_nil)))
      (pss_cons (ps_if (PW.pt (pw_or (pt_cmpR op_ne (pe_callB (call_repr hg hr.units) (by rfl) T.n_repr (by decide +kernel) (pa_cons (pv 6) pa_nil)) (pe_callB (call_repr hg hr.units) (by rfl) T.n_repr (by decide +kernel) (pa_cons (pv 5) pa_nil)) (nomark _)) (pw_or1 (pt_cmpR (op_neD hr.units) (pe_callW (E := E0) G_marks_in hr (by rfl) T.g_marks_in T.k_marks_in T.w_marks_in (pk_cons (pv 3) pk_nil)) (pv 6) (nomark _)))))
        (pss_one (ps_ret pe_bl))
        pss_nil)
      (pss_cons (ps_set (i := 7) sc_law.nd rfl (.inl rfl) (pe_join pe_str (pe_lc (own := [("_law_line", 8), ("_law_at", 9), ("_law_mark", 10)]) (g := gTup K 3 (gCons (gName 8) (gCons (gName 9) (gCons (gName 10) gNil)))) (by rfl) sc_law.nd (pi_tup (pv 5)) (blkOk_by (own := [("_law_line", 8), ("_law_at", 9), ("_law_mark", 10)]) (N := N_law) (sc := defScope s_law) (by decide +kernel)) (fun _ _ _ _ _ => (pg_tup (by rfl) (pgs_cons (pg_name (i := 8) sc_law.nd rfl (Or.inl rfl)) (pgs_cons (pg_name (i := 9) sc_law.nd rfl (Or.inl rfl)) (pgs_cons (pg_name (i := 10) sc_law.nd rfl (Or.inl rfl)) pgs_nil))))) (fun _ _ _ _ _ => pts_nil) (fun _ _ _ _ _ => (pv 10)))))
      (pss_one (ps_if (pt_cmpR (op_neD hr.units) (pe_lc (own := [("_law_line", 8), ("_law_at", 9), ("_law_mark", 10)]) (g := gTup K 3 (gCons (gName 8) (gCons (gName 9) (gCons (gName 10) gNil)))) (by rfl) sc_law.nd (pi_tup (pe_call G_marks_in hr (by rfl) T.g_marks_in T.k_marks_in T.b_marks_in .nil pass0 (pa_cons (pv 7) pa_nil))) (blkOk_by (own := [("_law_line", 8), ("_law_at", 9), ("_law_mark", 10)]) (N := N_law) (sc := defScope s_law) (by decide +kernel)) (fun _ _ _ _ _ => (pg_tup (by rfl) (pgs_cons (pg_name (i := 8) sc_law.nd rfl (Or.inl rfl)) (pgs_cons (pg_name (i := 9) sc_law.nd rfl (Or.inl rfl)) (pgs_cons (pg_name (i := 10) sc_law.nd rfl (Or.inl rfl)) pgs_nil))))) (fun _ _ _ _ _ => pts_nil) (fun _ _ _ _ _ => (pv 10))) (pe_lc (own := [("_law_line", 8), ("_law_at", 9), ("_law_mark", 10)]) (g := gTup K 3 (gCons (gName 8) (gCons (gName 9) (gCons (gName 10) gNil)))) (by rfl) sc_law.nd (pi_tup (pv 5)) (blkOk_by (own := [("_law_line", 8), ("_law_at", 9), ("_law_mark", 10)]) (N := N_law) (sc := defScope s_law) (by decide +kernel)) (fun _ _ _ _ _ => (pg_tup (by rfl) (pgs_cons (pg_name (i := 8) sc_law.nd rfl (Or.inl rfl)) (pgs_cons (pg_name (i := 9) sc_law.nd rfl (Or.inl rfl)) (pgs_cons (pg_name (i := 10) sc_law.nd rfl (Or.inl rfl)) pgs_nil))))) (fun _ _ _ _ _ => pts_nil) (fun _ _ _ _ _ => (pv 10))) (nomark _))
        (pss_one (ps_ret pe_bl))
        pss_nil)))))))))
    (pss_cons (ps_if (PW.pt (pw_or (pt_cmpR (op_neD hr.units) (pe_call G_marks_in hr (by rfl) T.g_marks_in T.k_marks_in T.b_marks_in .nil pass0 (pa_cons pe_str pa_nil)) (pe_tup pa_nil) (nomark _)) (pw_or (pt_cmpR (op_neD hr.units) (pe_call G_marks_in hr (by rfl) T.g_marks_in T.k_marks_in T.b_marks_in .nil pass0 (pa_cons pe_str pa_nil)) (pe_tup pa_nil) (nomark _)) (pw_or1 (pt_cmpR (op_neD hr.units) (pe_call G_marks_in hr (by rfl) T.g_marks_in T.k_marks_in T.b_marks_in .nil pass0 (pa_cons pe_str pa_nil)) (pe_tup (pa_cons (pe_tup (pa_cons pe_int (pa_cons pe_int (pa_cons pe_str pa_nil)))) pa_nil)) (nomark _))))))
      (pss_one (ps_ret pe_bl))
      pss_nil)
    (pss_one (ps_ret (pe_cmpR (op_eqD hr.units) (pe_call G_marks_in hr (by rfl) T.g_marks_in T.k_marks_in T.b_marks_in .nil pass0 (pa_cons pe_str pa_nil)) (pe_tup (pa_cons (pe_tup (pa_cons pe_int (pa_cons pe_int (pa_cons pe_str pa_nil)))) (pa_cons (pe_tup (pa_cons pe_int (pa_cons pe_int (pa_cons pe_str pa_nil)))) (pa_cons (pe_tup (pa_cons pe_int (pa_cons pe_int (pa_cons pe_str pa_nil)))) (pa_cons (pe_tup (pa_cons pe_int (pa_cons pe_int (pa_cons pe_str pa_nil)))) (pa_cons (pe_tup (pa_cons pe_int (pa_cons pe_int (pa_cons pe_str pa_nil)))) (pa_cons (pe_tup (pa_cons pe_int (pa_cons pe_int (pa_cons pe_str pa_nil)))) (pa_cons (pe_tup (pa_cons pe_int (pa_cons pe_int (pa_cons pe_str pa_nil)))) (pa_cons (pe_tup (pa_cons pe_int (pa_cons pe_int (pa_cons pe_str pa_nil)))) (pa_cons (pe_tup (pa_cons pe_int (pa_cons pe_int (pa_cons pe_str pa_nil)))) pa_nil)))))))))) (nomark _))))))), ?_⟩
    -- heap = _law_heap(script)
    refine sq ⟨_, rfl, a, ns, rfl, hS, fun H1 p q sm np nq hd => ?_⟩
    have hS1 := sm.seq hS
    -- for turn in range(3 + 3 * int(len(script) > 2))
    refine sq ⟨_, rfl, a, _, rfl, .inl hS1, _, _, rfl, rfl, .inr ⟨_, rfl, _, _, rfl, rfl, .inl ⟨by decide, by decide⟩, _, _, rfl, rfl, _, rfl, ?_, ?_, ?_⟩⟩
    · split <;> decide
    · split <;> decide
    refine for_range (lo := 0) (fun i σ H' => ∃ v2 v3 v4 v5 v6 v7 v8 v9 v10 : Option V, σ = [some (.ref a), some (.ref p), v2, v3, v4, v5, v6, v7, v8, v9, v10] ∧ Dr H' p q)
      ⟨none, none, none, none, none, none, none, none, none, rfl, hd⟩ ?_ ?_
    · rintro i σ H2 hi ⟨v2, v3, v4, v5, v6, v7, v8, v9, v10, rfl, hd2⟩
      -- text = "".join([piece(heap) for again in range(pick(heap, [5, 20, 1, 60, 0]))])
      refine sq ⟨⟨_, rfl⟩, _, rfl, (by show 5 ≤ sizeLine; decide), fun b nb => ?_⟩
      have ap := hd2.apart nb
      refine ⟨p, q, b, ([5, 20, 1, 60, 0] : List Int).map V.int, rfl, hd2.new nb, ap.1, ap.2, SqL.of upd_same, by decide, by decide, fun H3 j v kp3 hd3 hv => ?_⟩
      obtain ⟨m, hm, rfl⟩ := menu hv
      have hm2 : 0 ≤ m ∧ m ≤ 60 := by
        simp only [List.mem_cons, List.not_mem_nil, or_false] at hm
        omega
      refine ⟨m, rfl, by omega, by omega, fun D nD => ?_⟩
      have apD := hd3.apart nD
      refine lc_range (lo := 0) (n := m.toNat) (fun i H' => ∃ ss : List Str, Dr H' p q ∧ H' D = some (.lst (ss.map V.str)) ∧ ss.length = i ∧ ∀ s ∈ ss, TxtOk 30 s)
        ⟨[], hd3.new nD, upd_same, rfl, fun s hs => by cases hs⟩ ?_ ?_
      · rintro i H4 hi ⟨ss, hd4, hD, hl, hs⟩
        refine ⟨rfl, yesT ⟨_, rfl, p, q, rfl, hd4, fun H5 z kp5 hd5 hz => ?_⟩⟩
        refine ⟨_, kp5 D _ apD.1 apD.2 hD, ?_, ss ++ [z], hd5.put apD.1 apD.2, upd_same.trans (by rw [List.map_append]; rfl), by simp [hl], ?_⟩
        · rw [List.length_map]; exact small1000 (by omega)
        · intro s hs2
          rcases List.mem_append.mp hs2 with z2 | z2
          · exact hs s z2
          · rw [List.mem_singleton.mp z2]; exact hz
      · rintro H4 ⟨ss, hd4, hD, hl, hs⟩
        obtain ⟨o1, o2⟩ := txtOk_join (n := 60) hs (by omega)
        refine ⟨_, D, ss, rfl, rfl, .inl (SqL.of hD), ?_, ?_⟩
        · rw [empty_len]
          omega
        rw [TL.join_eq]
        generalize Str.join "" ss = z0 at o1
        dsimp only
        -- text = .. if draw(heap, 5) == 0 else text
        refine sq (to_next (fun σ H' => ∃ z, σ = [some (.ref a), some (.ref p), some (.int (0 + (i : Int))), some (.str z), v4, v5, v6, v7, v8, v9, v10] ∧ Dr H' p q ∧ TxtOk 2600 z) ?_ ?_)
        · rintro σ H5 ⟨z, rfl, hd5, hz⟩
          have hzl : z.length ≤ 100000 := Nat.le_trans hz.1 (by decide)
          have hL : (marks 0 0 (cds z)).length ≤ 100000 := Nat.le_trans (marks_size _ (cds z) 0 0 (Nat.le_refl _)).1 (by rw [cds_len]; exact hzl)
          have good : Good (.tuple ((marks 0 0 (cds z)).map mD)) := marks_good (by rw [cds_len]; exact Nat.le_trans hz.1 (by decide)) hz.2
          -- due = tuple(_law_marks(text))
          refine sq ⟨_, rfl, z, rfl, hzl, hz.2, fun H6 l xs sm6 hl hm6 => ⟨l, xs, rfl, .inl ⟨SqL.of hl, fun t nt => ?_⟩⟩⟩
          have ht7 : (upd H6 t (.tup xs)) t = some (.tup xs) := upd_same
          have hm7 : MkAll (upd H6 t (.tup xs)) xs (marks 0 0 (cds z)) := hm6.tk ((TK.refl _).new nt)
          have sm7 := sm6.trans (same_new (o := .tup xs) nt)
          generalize upd H6 t (.tup xs) = H7 at ht7 hm7 sm7 ⊢
          -- told = marks_in(text)
          refine sq ⟨_, rfl, z, rfl, hzl, fun H8 u ys sm8 hu hm8 => ?_⟩
          have ht8 := sm8 _ _ ht7
          have dt8 : Dp K H8 (.ref t) (.tuple ((marks 0 0 (cds z)).map mD)) := .tup (SqT.of ht8) (hm7.tk (TK.same sm8)).dp
          have du8 : Dp K H8 (.ref u) (.tuple ((marks 0 0 (cds z)).map mD)) := .tup (SqT.of hu) hm8.dp
          have same : ∀ x : V, decide (x = x) = true := fun x => decide_eq_true rfl
          -- if repr(told) != repr(due) or marks_in(text=text) != told
          refine sq ⟨_, rfl, u, _, rfl, du8, good.shows, good.noDict, good.deep, good.small, _, rfl, t, _, rfl, dt8, good.shows, good.noDict, good.deep, good.small, rfl, _, rfl, ?_⟩
          rw [same]
          refine iteF ⟨_, rfl, rfl, z, rfl, hzl, fun H9 w ws sm9 hw hm9 => ?_⟩
          have ht9 := sm9 _ _ ht8
          have hm9t : MkAll H9 xs (marks 0 0 (cds z)) := (hm7.tk (TK.same sm8)).tk (TK.same sm9)
          refine ⟨_, rfl, _, _, .tup (SqT.of hw) hm9.dp, .tup (SqT.of (sm9 _ _ hu)) (hm8.tk (TK.same sm9)).dp, good.shaped, good.shaped, _, rfl, ?_⟩
          rw [SeqAt.eqv_refl _ good.flat.1]
          refine iteF ?_
          have hd9 : Dr H9 p q := ((hd5.same sm7).same sm8).same sm9
          have okm : ∀ x ∈ marks 0 0 (cds z), ∀ c ∈ x.2.2, c < 1114112 := fun x hx c h => hz.2 c (((marks_size _ (cds z) 0 0 (Nat.le_refl _)).2.2 x hx).2.2 c h)
          -- joined = " ".join([mark for line, at, mark in due])
          refine sq ⟨⟨_, rfl⟩, _, rfl, t, rfl, ⟨_, SqT.of ht9⟩, fun D nD => ?_⟩
          refine lc_tup (K := K) (a := t) (xs := xs) (TxP H9 D (marks 0 0 (cds z))) ⟨same_new nD, upd_same⟩ (fun i H' _ h => SqT.of (h.1 _ _ ht9)) (txs_turn hm9t nD hL _ _ _ _ _ _ _ _ _ _ _) ?_
          rintro H10 ⟨sm10, hD⟩
          rw [paired_len hm9t, List.take_length, txts_V] at hD
          have ea : (marks 0 0 (cds z)).map (·.2.2) = txts (cds z) := rfl
          rw [ea] at hD
          have hms : ∀ m ∈ txts (cds z), IsM m := isM_txts _ (cds z) (Nat.le_refl _)
          have sum1 : ((txts (cds z)).map (·.length)).sum ≤ 2600 := by
            have := (marks_size _ (cds z) 0 0 (Nat.le_refl _)).2.1
            unfold txts
            rw [List.map_map]
            exact Nat.le_trans this (by rw [cds_len]; exact hz.1)
          have len1 : (txts (cds z)).length ≤ 2600 := by
            unfold txts
            rw [List.length_map]
            exact Nat.le_trans (marks_size _ (cds z) 0 0 (Nat.le_refl _)).1 (by rw [cds_len]; exact hz.1)
          have slen : (((txts (cds z)).map fun m => (⟨m.toArray⟩ : Str)).map (·.length)).sum ≤ 2600 := by
            rw [List.map_map]
            have : ((·.length) ∘ fun m => (⟨m.toArray⟩ : Str)) = (fun m : List Nat => m.length) := by
              funext m
              simp [Str.length]
            rw [this]
            exact sum1
          have bl : cds " " = [32] := by decide +kernel
          refine ⟨_, D, (txts (cds z)).map fun m => (⟨m.toArray⟩ : Str), rfl, rfl, .inl (SqL.of hD), ?_, ?_⟩
          · have : (" " : Str).length = 1 := by decide +kernel
            rw [this, List.length_map]
            omega
          rw [TL.join_eq]
          have ej : cds (Str.join " " ((txts (cds z)).map fun m => (⟨m.toArray⟩ : Str))) = joinB (txts (cds z)) := by
            rw [cds_join, bl, List.map_map]
            have : (cds ∘ fun m : List Nat => (⟨m.toArray⟩ : Str)) = id := by
              funext m
              simp [cds]
            rw [this, List.map_id, joinL_blank]
          generalize Str.join " " ((txts (cds z)).map fun m => (⟨m.toArray⟩ : Str)) = j at ej ⊢
          have jlen : j.length ≤ 10000 := by
            rw [← cds_len, ej]
            have := joinB_len (txts (cds z))
            omega
          -- the marks' texts of both
          have hd10 : Dr H10 p q := hd9.same sm10
          have ht10 := sm10 _ _ ht9
          have hm10 := hm9t.tk (TK.same sm10)
          refine ⟨_, rfl, j, rfl, Nat.le_trans jlen (by decide), fun H11 g gs sm11 hgg hm11 => ⟨g, rfl, ⟨_, SqT.of hgg⟩, fun D2 nD2 => ?_⟩⟩
          have hL2 : (marks 0 0 (cds j)).length ≤ 100000 := Nat.le_trans (marks_size _ (cds j) 0 0 (Nat.le_refl _)).1 (by rw [cds_len]; omega)
          refine lc_tup (K := K) (a := g) (xs := gs) (TxP H11 D2 (marks 0 0 (cds j))) ⟨same_new nD2, upd_same⟩ (fun i H' _ h => SqT.of (h.1 _ _ hgg)) (txs_turn hm11 nD2 hL2 _ _ _ _ _ _ _ _ _ _ _) ?_
          rintro H12 ⟨sm12, hD2⟩
          rw [paired_len hm11, List.take_length, txts_V] at hD2
          have eb : (marks 0 0 (cds j)).map (·.2.2) = txts (cds z) := by
            show txts (cds j) = _
            rw [ej, txts_join _ hms]
          rw [eb] at hD2
          have ht12 := sm12 _ _ (sm11 _ _ ht10)
          have hm12 := (hm10.tk (TK.same sm11)).tk (TK.same sm12)
          refine ⟨_, rfl, t, rfl, ⟨_, SqT.of ht12⟩, fun D3 nD3 => ?_⟩
          refine lc_tup (K := K) (a := t) (xs := xs) (TxP H12 D3 (marks 0 0 (cds z))) ⟨same_new nD3, upd_same⟩ (fun i H' _ h => SqT.of (h.1 _ _ ht12)) (txs_turn hm12 nD3 hL _ _ _ _ _ _ _ _ _ _ _) ?_
          rintro H13 ⟨sm13, hD3⟩
          rw [paired_len hm12, List.take_length, txts_V, ea] at hD3
          have shp : SeqAt.shaped (.list (((txts (cds z)).map fun m => (⟨m.toArray⟩ : Str)).map PyData.str)) = true := by
            refine shaped_strs fun s hs c hc => ?_
            obtain ⟨m, hm, rfl⟩ := List.mem_map.mp hs
            rw [← ea] at hm
            obtain ⟨x, hx, rfl⟩ := List.mem_map.mp hm
            exact okm x hx c (by simpa [cds] using hc)
          refine ⟨_, _, .lst (SqL.of (sm13 _ _ hD2)) (dpAll_strs _), .lst (SqL.of hD3) (dpAll_strs _), shp, shp, _, rfl, ?_⟩
          rw [eqv_strs _ shp]
          exact iteF ⟨_, _, _, _, _, _, _, _, _, rfl, ((hd10.same sm11).same sm12).same sm13⟩
        · intro next
          refine ⟨_, rfl, p, q, 5, rfl, hd4, by decide, by decide, fun H5 r kp5 hd5 r0 r1 => ⟨rfl, _, rfl, ite2 (fun _ => ?_) (fun _ => ?_)⟩⟩
          · have t7 : TxtOk 1 "7" := ⟨by decide +kernel, by decide +kernel⟩
            have t12 : TxtOk 2 "12" := ⟨by decide +kernel, by decide +kernel⟩
            have tb : TxtOk 1 " " := ⟨by decide +kernel, by decide +kernel⟩
            have tm : TxtOk 1 "-" := ⟨by decide +kernel, by decide +kernel⟩
            have m7 := txtOk_mul (n := 390) t7
            have m12 := txtOk_mul (n := 190) t12
            have w1 := m7.app tb
            have w2 := w1.app o1
            have w3 := w2.app tm
            have w4 := w3.app m12
            refine ⟨_, _, rfl, rfl, mulOk_small (n := 390) (by decide) (by decide +kernel), _, _, rfl, rfl, by rw [← strLen_append]; exact w1.line (by decide),
              _, rfl, _, _, rfl, rfl, by rw [← strLen_append]; exact w2.line (by decide), _, _, rfl, rfl, by rw [← strLen_append]; exact w3.line (by decide),
              _, _, rfl, rfl, mulOk_small (n := 190) (by decide) (by decide +kernel), _, _, rfl, rfl, by rw [← strLen_append]; exact w4.line (by decide), ?_⟩
            exact next _ _ ⟨_, rfl, hd5, w4.mono (by decide)⟩
          · exact ⟨_, rfl, next _ _ ⟨z0, rfl, hd5, o1.mono (by decide)⟩⟩
    · rintro σ H2 ⟨v2, v3, v4, v5, v6, v7, v8, v9, v10, rfl, hd2⟩
      have c1 : marks 0 0 (cds "") = [] := by decide +kernel
      have c2 : marks 0 0 (cds "  ") = [] := by decide +kernel
      have c3 : marks 0 0 (cds " \n") = [(0, 1, [10])] := by decide +kernel
      have c4 : marks 0 0 (cds "tea -7jam 4\n\n 7x") = [(0, 0, [116, 101, 97]), (0, 4, [45]), (0, 5, [55]), (0, 6, [106, 97, 109]), (0, 10, [52]), (0, 11, [10]), (1, 0, [10]), (2, 1, [55]), (2, 2, [120])] := by decide +kernel
      -- if marks_in("") != () or ..
      refine sq ⟨"", rfl, by decide +kernel, fun H3 u ys sm3 hu hm3 => ⟨Nat.zero_le _, fun e ne => ?_⟩⟩
      rw [c1] at hm3
      have hu3 := same_new (o := .tup []) ne _ _ hu
      refine ⟨_, _, .tup (SqT.of hu3) (hm3.tk ((TK.refl _).new ne)).dp, .tup (SqT.of upd_same) .nil, by decide +kernel, by decide +kernel, _, rfl, ?_⟩
      have e1 : (!PyData.eqv (.tuple (List.map mD [])) (.tuple [])) = false := by decide +kernel
      rw [e1]
      refine iteF ⟨"  ", rfl, by decide +kernel, fun H4 u ys sm4 hu hm4 => ⟨Nat.zero_le _, fun e ne => ?_⟩⟩
      rw [c2] at hm4
      have hu4 := same_new (o := .tup []) ne _ _ hu
      refine ⟨_, _, .tup (SqT.of hu4) (hm4.tk ((TK.refl _).new ne)).dp, .tup (SqT.of upd_same) .nil, by decide +kernel, by decide +kernel, _, rfl, ?_⟩
      rw [e1]
      refine iteF ⟨" \n", rfl, by decide +kernel, fun H5 u ys sm5 hu hm5 => ?_⟩
      rw [c3] at hm5
      refine tMs_ok [(0, 1, "\n")] _ _ _ fun H6 vs sm6 hp6 => ⟨by rw [paired_len hp6]; show 1 ≤ sizeLine; decide, fun e ne => ?_⟩
      have hu6 := same_new (o := .tup vs) ne _ _ (sm6 _ _ hu)
      have hp7 : Paired (M3 (upd H6 e (.tup vs))) vs [(0, 1, "\n")] := Paired.mapP hp6 fun _ _ ⟨t, e1, e2⟩ => ⟨t, e1, same_new ne _ _ e2⟩
      refine ⟨_, _, .tup (SqT.of hu6) ((hm5.tk (TK.same sm6)).tk ((TK.refl _).new ne)).dp, .tup (SqT.of upd_same) (M3.dp hp7), by decide +kernel, by decide +kernel, _, rfl, ?_⟩
      have e3 : (!PyData.eqv (.tuple (List.map mD [(0, 1, [10])])) (.tuple (List.map d3 [(0, 1, "\n")]))) = false := by decide +kernel
      rw [e3]
      refine iteF ?_
      -- return marks_in("tea -7jam 4\n\n 7x") == (..)
      refine ⟨"tea -7jam 4\n\n 7x", rfl, by decide +kernel, fun H8 u ys sm8 hu hm8 => ?_⟩
      rw [c4] at hm8
      refine tMs_ok [(0, 0, "tea"), (0, 4, "-"), (0, 5, "7"), (0, 6, "jam"), (0, 10, "4"), (0, 11, "\n"), (1, 0, "\n"), (2, 1, "7"), (2, 2, "x")] _ _ _ fun H9 vs sm9 hp9 => ⟨by rw [paired_len hp9]; show 9 ≤ sizeLine; decide, fun e ne => ?_⟩
      have hu9 := same_new (o := .tup vs) ne _ _ (sm9 _ _ hu)
      have hp10 := Paired.mapP hp9 (G := M3 (upd H9 e (.tup vs))) fun _ _ ⟨t, e1, e2⟩ => ⟨t, e1, same_new ne _ _ e2⟩
      refine ⟨_, _, .tup (SqT.of hu9) ((hm8.tk (TK.same sm9)).tk ((TK.refl _).new ne)).dp, .tup (SqT.of upd_same) (M3.dp hp10), by decide +kernel, by decide +kernel, ?_⟩
      have e4 : PyData.eqv (.tuple (List.map mD [(0, 0, [116, 101, 97]), (0, 4, [45]), (0, 5, [55]), (0, 6, [106, 97, 109]), (0, 10, [52]), (0, 11, [10]), (1, 0, [10]), (2, 1, [55]), (2, 2, [120])]))
          (.tuple (List.map d3 [(0, 0, "tea"), (0, 4, "-"), (0, 5, "7"), (0, 6, "jam"), (0, 10, "4"), (0, 11, "\n"), (1, 0, "\n"), (2, 1, "7"), (2, 2, "x")])) = true := by decide +kernel
      rw [e4]
      exact k _
end
end Sd

namespace Sd
open PySem PySem.Spec PyProof.Rows L2
theorem all_mk {l : PySem.W.OpenLaw} {w : World} {K : PySem.W.Frag} {h : Heap} {mg : Str → Option Value} {fa : Addr} (X : K.In h) (G : h.Ns mainGlobals mg) (hfa : mg "law" = some (.ref fa))
    {f1 f2 f3 f4 f5 f6 f7 f8 f9 f10 : Addr} {od1 an1 od2 an2 od3 an3 od4 an4 od5 an5 od6 an6 od7 an7 od8 an8 od9 an9 od10 an10 : Option Addr} {sl1 sl2 sl3 sl4 sl5 sl6 sl7 sl8 sl9 sl10 : Array (Option Value)} {oc1 kV1 dc1 pm1 cd1 ct1 oc2 kV2 dc2 pm2 cd2 ct2 oc3 kV3 dc3 pm3 cd3 ct3 oc4 kV4 dc4 pm4 cd4 ct4 oc5 kV5 dc5 pm5 cd5 ct5 oc6 kV6 dc6 pm6 cd6 ct6 oc7 kV7 dc7 pm7 cd7 ct7 oc8 kV8 dc8 pm8 cd8 ct8 oc9 kV9 dc9 pm9 cd9 ct9 oc10 kV10 dc10 pm10 cd10 ct10 : Value} {t_LETTERS t_DIGITS : Tok}
    (a1 : PySem.W.nsIn K mainGlobals "run_end" = some (some (.ref f1))) (l1 : K.lookup f1 = some ⟨oc1, od1, .func (PySem.W.fnOf "run_end" "run_end" (defArgs s_run_end) (defBody s_run_end) (defScope s_run_end) .none kV1 dc1 pm1 an1 cd1 ct1), sl1⟩) (c1 : PySem.W.codeIn K cd1 "run_end" = true) (k1 : PySem.W.keepIn K (.ref f1) = true)
    (a2 : PySem.W.nsIn K mainGlobals "mark_at" = some (some (.ref f2))) (l2 : K.lookup f2 = some ⟨oc2, od2, .func (PySem.W.fnOf "mark_at" "mark_at" (defArgs s_mark_at) (defBody s_mark_at) (defScope s_mark_at) .none kV2 dc2 pm2 an2 cd2 ct2), sl2⟩) (c2 : PySem.W.codeIn K cd2 "mark_at" = true) (k2 : PySem.W.keepIn K (.ref f2) = true)
    (a3 : PySem.W.nsIn K mainGlobals "marks_in" = some (some (.ref f3))) (l3 : K.lookup f3 = some ⟨oc3, od3, .func (PySem.W.fnOf "marks_in" "marks_in" (defArgs s_marks_in) (defBody s_marks_in) (defScope s_marks_in) .none kV3 dc3 pm3 an3 cd3 ct3), sl3⟩) (c3 : PySem.W.codeIn K cd3 "marks_in" = true) (k3 : PySem.W.keepIn K (.ref f3) = true)
    (a4 : PySem.W.nsIn K mainGlobals "_law_heap" = some (some (.ref f4))) (l4 : K.lookup f4 = some ⟨oc4, od4, .func (PySem.W.fnOf "_law_heap" "_law_heap" (defArgs s_law_heap) (defBody s_law_heap) (defScope s_law_heap) .none kV4 dc4 pm4 an4 cd4 ct4), sl4⟩) (c4 : PySem.W.codeIn K cd4 "_law_heap" = true) (k4 : PySem.W.keepIn K (.ref f4) = true)
    (a5 : PySem.W.nsIn K mainGlobals "_law_draw" = some (some (.ref f5))) (l5 : K.lookup f5 = some ⟨oc5, od5, .func (PySem.W.fnOf "_law_draw" "_law_draw" (defArgs s_law_draw) (defBody s_law_draw) (defScope s_law_draw) .none kV5 dc5 pm5 an5 cd5 ct5), sl5⟩) (c5 : PySem.W.codeIn K cd5 "_law_draw" = true) (k5 : PySem.W.keepIn K (.ref f5) = true)
    (a6 : PySem.W.nsIn K mainGlobals "_law_pick" = some (some (.ref f6))) (l6 : K.lookup f6 = some ⟨oc6, od6, .func (PySem.W.fnOf "_law_pick" "_law_pick" (defArgs s_law_pick) (defBody s_law_pick) (defScope s_law_pick) .none kV6 dc6 pm6 an6 cd6 ct6), sl6⟩) (c6 : PySem.W.codeIn K cd6 "_law_pick" = true) (k6 : PySem.W.keepIn K (.ref f6) = true)
    (a7 : PySem.W.nsIn K mainGlobals "_law_sort" = some (some (.ref f7))) (l7 : K.lookup f7 = some ⟨oc7, od7, .func (PySem.W.fnOf "_law_sort" "_law_sort" (defArgs s_law_sort) (defBody s_law_sort) (defScope s_law_sort) .none kV7 dc7 pm7 an7 cd7 ct7), sl7⟩) (c7 : PySem.W.codeIn K cd7 "_law_sort" = true) (k7 : PySem.W.keepIn K (.ref f7) = true)
    (a8 : PySem.W.nsIn K mainGlobals "_law_marks" = some (some (.ref f8))) (l8 : K.lookup f8 = some ⟨oc8, od8, .func (PySem.W.fnOf "_law_marks" "_law_marks" (defArgs s_law_marks) (defBody s_law_marks) (defScope s_law_marks) .none kV8 dc8 pm8 an8 cd8 ct8), sl8⟩) (c8 : PySem.W.codeIn K cd8 "_law_marks" = true) (k8 : PySem.W.keepIn K (.ref f8) = true)
    (a9 : PySem.W.nsIn K mainGlobals "_law_piece" = some (some (.ref f9))) (l9 : K.lookup f9 = some ⟨oc9, od9, .func (PySem.W.fnOf "_law_piece" "_law_piece" (defArgs s_law_piece) (defBody s_law_piece) (defScope s_law_piece) .none kV9 dc9 pm9 an9 cd9 ct9), sl9⟩) (c9 : PySem.W.codeIn K cd9 "_law_piece" = true) (k9 : PySem.W.keepIn K (.ref f9) = true)
    (a10 : PySem.W.nsIn K mainGlobals "law" = some (some (.ref f10))) (l10 : K.lookup f10 = some ⟨oc10, od10, .func (PySem.W.fnOf "law" "law" (defArgs s_law) (defBody s_law) (defScope s_law) .none kV10 dc10 pm10 an10 cd10 ct10), sl10⟩) (c10 : PySem.W.codeIn K cd10 "law" = true) (k10 : PySem.W.keepIn K (.ref f10) = true)
    (v_LETTERS : PySem.W.nsIn K mainGlobals "LETTERS" = some (some (.str "abcdefghijklmnopqrstuvwxyz" t_LETTERS)))
    (v_DIGITS : PySem.W.nsIn K mainGlobals "DIGITS" = some (some (.str "0123456789" t_DIGITS)))
    (z_abs : PySem.W.nsIn K mainGlobals "abs" = some none)
    (z_int : PySem.W.nsIn K mainGlobals "int" = some none)
    (z_len : PySem.W.nsIn K mainGlobals "len" = some none)
    (z_range : PySem.W.nsIn K mainGlobals "range" = some none)
    (z_repr : PySem.W.nsIn K mainGlobals "repr" = some none)
    (z_tuple : PySem.W.nsIn K mainGlobals "tuple" = some none)
    : ∃ fd : FuncData, (∀ (s : Shared) (v : Value), BindsTo s fd ⟨[v], []⟩ [("_law_script", v)]) ∧ ∀ base : Heap, K.In base → base.Ns mainGlobals mg → FnG l.prog w K mg base lawLevel fa fd ["_law_script"] (spLaw K) := by
  have e := hfa.symm.trans (PySem.W.mg_of X G a10)
  cases e
  let T : Txt K mg := {
    a_run_end := f1, d_run_end := _, F_run_end := fun_mk (st := s_run_end) l1 c1 k1, g_run_end := PySem.W.mg_of X G a1,
    a_mark_at := f2, d_mark_at := _, F_mark_at := fun_mk (st := s_mark_at) l2 c2 k2, g_mark_at := PySem.W.mg_of X G a2,
    a_marks_in := f3, d_marks_in := _, F_marks_in := fun_mk (st := s_marks_in) l3 c3 k3, g_marks_in := PySem.W.mg_of X G a3,
    a_law_heap := f4, d_law_heap := _, F_law_heap := fun_mk (st := s_law_heap) l4 c4 k4, g_law_heap := PySem.W.mg_of X G a4,
    a_law_draw := f5, d_law_draw := _, F_law_draw := fun_mk (st := s_law_draw) l5 c5 k5, g_law_draw := PySem.W.mg_of X G a5,
    a_law_pick := f6, d_law_pick := _, F_law_pick := fun_mk (st := s_law_pick) l6 c6 k6, g_law_pick := PySem.W.mg_of X G a6,
    a_law_sort := f7, d_law_sort := _, F_law_sort := fun_mk (st := s_law_sort) l7 c7 k7, g_law_sort := PySem.W.mg_of X G a7,
    a_law_marks := f8, d_law_marks := _, F_law_marks := fun_mk (st := s_law_marks) l8 c8 k8, g_law_marks := PySem.W.mg_of X G a8,
    a_law_piece := f9, d_law_piece := _, F_law_piece := fun_mk (st := s_law_piece) l9 c9 k9, g_law_piece := PySem.W.mg_of X G a9,
    k_LETTERS := _, g_LETTERS := PySem.W.mg_of X G v_LETTERS,
    k_DIGITS := _, g_DIGITS := PySem.W.mg_of X G v_DIGITS,
    n_abs := PySem.W.mg_none_of X G z_abs, n_int := PySem.W.mg_none_of X G z_int, n_len := PySem.W.mg_none_of X G z_len, n_range := PySem.W.mg_none_of X G z_range, n_repr := PySem.W.mg_none_of X G z_repr, n_tuple := PySem.W.mg_none_of X G z_tuple }
  exact ⟨_, fun s v => .of_eq rfl, fun base _ _ => ok_law T (fun_mk (st := s_law) l10 c10 k10)⟩
open PySem PySem.W PyProof.Rows
end Sd
open PySem PySem.W PyProof.Rows
set_option maxHeartbeats 0 in
theorem PySem.Challenge.cw_saidatonce_k05_marks_cut_and_joined_holds : PySem.Challenge.rw_saidatonce_k05_marks_cut_and_joined.Holds := by
  w_on; o_law; k_head; (case hw => w_witness2)
  k_fill
  refine Sd.walk_g (l := PySem.Challenge.rw_saidatonce_k05_marks_cut_and_joined) (n := 63) (k := Sd.lawLevel) (x := "_law_script") (sp := fun w => Sd.spLaw _) rfl (by decide) rfl ⟨rfl, by decide, by decide⟩ (fun w h Y => PySem.W.kIn_of Y) ?F (fun _ _ a ns hl hb hS => ⟨a, ns, rfl, hS, hl, hb, fun _ => rfl⟩)
  case F =>
    intro w mg fa h KX G hmg
    refine' Sd.all_mk KX G hmg ?a1 ?l1 ?c1 ?k1 ?a2 ?l2 ?c2 ?k2 ?a3 ?l3 ?c3 ?k3 ?a4 ?l4 ?c4 ?k4 ?a5 ?l5 ?c5 ?k5 ?a6 ?l6 ?c6 ?k6 ?a7 ?l7 ?c7 ?k7 ?a8 ?l8 ?c8 ?k8 ?a9 ?l9 ?c9 ?k9 ?a10 ?l10 ?c10 ?k10 ?v_LETTERS ?v_DIGITS ?z_abs ?z_int ?z_len ?z_range ?z_repr ?z_tuple
    (case a1 => k_is); (case l1 => k_is); (case c1 => k_is); (case k1 => k_is); (case a2 => k_is); (case l2 => k_is); (case c2 => k_is); (case k2 => k_is); (case a3 => k_is); (case l3 => k_is); (case c3 => k_is); (case k3 => k_is); (case a4 => k_is); (case l4 => k_is); (case c4 => k_is); (case k4 => k_is); (case a5 => k_is); (case l5 => k_is); (case c5 => k_is); (case k5 => k_is); (case a6 => k_is); (case l6 => k_is); (case c6 => k_is); (case k6 => k_is); (case a7 => k_is); (case l7 => k_is); (case c7 => k_is); (case k7 => k_is); (case a8 => k_is); (case l8 => k_is); (case c8 => k_is); (case k8 => k_is); (case a9 => k_is); (case l9 => k_is); (case c9 => k_is); (case k9 => k_is); (case a10 => k_is); (case l10 => k_is); (case c10 => k_is); (case k10 => k_is); (case v_LETTERS => k_is); (case v_DIGITS => k_is); (case z_abs => k_is); (case z_int => k_is); (case z_len => k_is); (case z_range => k_is); (case z_repr => k_is); (case z_tuple => k_is)
