import PyProof.Rows.All
import Wide.All
import OpenK.AllK
import Wide.FinOn
import HandS.ForMost
import HandS.Wide
import HandS.Style
import HandS.EndBits
import PyProof.ReprRoads
import PyProof.StrBlock2
import HandS.Iter
import KE.GoesNew
import HandS.Lambda
import HandS.ForExc
import HandS.WordsExc
import HandS.Zip
import HandS.Rev
import HandS.ForSpec
import HandS.TupMul
import HandS.TupAny
import HandS.IsInst
import HandS.SortInts
import HandS.Deep
import HandS.RaiseMore
import PyProof.ListRange
import HandS.TupSets
import HandS.Sort
import HandS.SlotsOwn
import PyProof.CallFns
import PyProof.Rows.StrMeet
import KE.KExcSuper
import HandS.ExcInit
import HandS.ExcSuper
import HandS.TryMany
import HandS.ExcField
import HandS.ExcIs
import KE.KExcIs
import KE.KNestM
import HandS.Conv
import PySem.Challenge.RW_saidatonce_k45_whole_batches_harder_than
set_option Elab.async false
set_option linter.all false
set_option maxRecDepth 100000
set_option maxHeartbeats 4000000
namespace Sd
open PySem PySem.Spec PyProof.Rows L2
/-! ### rules that the layer lacks -/
section
variable {X : Cx}
/-- repr of data without dicts, where no repr runs already -/
def rRepr (K : PySem.W.Frag) : List V → Hp → VK → Prop := fun xs H Q =>
  ∃ (a : Addr) (d : PyData), xs = [.ref a] ∧ Dp K H (.ref a) d ∧ d.showable = true ∧ d.hasDict = false ∧
    d.depth ≤ 8 ∧ d.shown.length ≤ sizeLine ∧ Q (.str d.shown) H
theorem call_repr (hg : X.A.guards = some []) (hu : X.A.units + 64 < cLine) :
    CallR X (.builtin "repr") (rRepr X.K) := by
  rintro pins s σ H xs us Q I rv ⟨a, d, rfl, hd, hs, hn, hp, hz, q⟩
  cases rv with
  | cons h1 h2 =>
    cases h2
    obtain ⟨as, rd⟩ := Dp.reads I d _ _ hd h1
    cases h1
    exact repr_of_reads' rd hs (PyData.noDict_hsm hn) hg (by omega) (fun _ _ e => e)
      (fun h' u tk hk => ⟨.str d.shown, H, I.kept (h' := h') (t' := tk) hk, ⟨u, rfl⟩, q⟩) hz
/-- a text, so many times -/
def rMulS : R2 := fun x y H Q => ∃ (z : Str) (n : Int), x = .str z ∧ y = .int n ∧ MulOk z n ∧ Q (.str (Txt.mul z n)) H
theorem op_mulS : OpR X (binaryOp .Mult) rMulS := by
  rintro pins s σ H x y v u Q I rx ry ⟨z, n, rfl, rfl, hz, q⟩
  obtain ⟨t1, rfl⟩ := rx
  obtain ⟨t2, rfl⟩ := ry
  exact SB.mul hz fun t' k => ⟨.str (Txt.mul z n), H, I.tok k, ⟨t', rfl⟩, q⟩
end
/-! ### defs that run where no repr is under way -/
structure FnG (P : Program) (w : World) (K : PySem.W.Frag) (mg : Str → Option Value) (base : Heap)
    (k : Nat) (f : Addr) (fd : FuncData) (ps : List Str) (sp : Sp) : Prop where
  len : ∀ vs H Q E, sp vs H Q E → vs.length = ps.length
  go : ∀ (A : Around) (outer : List Env) (s : Shared) (H : Hp) (args : Args) (us : List Value) (vs : List V)
    (Q : VK) (E : XK), A.guards = some [] → Room k A → Env0 P w K mg base A outer s H →
    BindsTo s fd args (ps.zip us) → Vals vs us → sp vs H Q E →
    codeAny (model P w) A (.call (.ref f) args) (CR CX0 outer P w H s Q E) s
theorem FnOk.g {P : Program} {w : World} {K : PySem.W.Frag} {mg : Str → Option Value} {base : Heap} {k : Nat}
    {f : Addr} {fd : FuncData} {ps : List Str} {sp : Sp} (F : FnOk P w K mg base CX0 k f fd ps sp) :
    FnG P w K mg base k f fd ps sp :=
  ⟨F.len, fun A outer s H args us vs Q E _ hr e0 hb r h => F.run A outer s H args us vs Q E hr e0 hb r h⟩
section
variable {P : Program} {w : World} {K : PySem.W.Frag} {mg : Str → Option Value} {base : Heap}
theorem fn_g {x qual : Str} {st : Stmt} {f : Addr} {fd : FuncData} {N ps : List Str} {k : Nat} {sp : Sp}
    (F : Fun K x qual st f fd) (S : FnScope N ps (defScope st)) (len : ∀ vs H Q E, sp vs H Q E → vs.length = ps.length)
    (hbody : ∀ (cdv : Value) (A : Around) (outer : List Env) (s : Shared) (H : Hp) (vs : List V) (Q : VK) (E : XK),
      A.guards = some [] → Room k (A.deeper (envOfC qual (defScope st) s.heap.objs.size f cdv)) → sp vs H Q E →
      ∃ t, PSs (cxOf CX0 P w K mg base N qual (defScope st) f cdv A outer s H E).nox (defBody st) t ∧
        t { nx := fun _ H' => Q .non H', rt := Q } (start N vs) H) :
    FnG P w K mg base (k + 1) f fd ps sp := by
  obtain ⟨oc, od, kV, doc, pm, an, cdv, ct, osl, rfl, lk, hcd⟩ := F.ex
  refine ⟨len, ?_⟩
  intro A outer s H args us vs Q E hg hr e0 hb rv hsp
  have keepB : ∀ b o, base.get? b = some o → s.heap.get? b = some o := fun b o e => (e0.bs b o e).1
  have inS : K.In s.heap := e0.mod.kin.keeps keepB
  have nolim : s.heap.NoLimit := e0.mod.nolimit.keeps keepB
  refine codeAny_call_function hr.depth (inS _ _ lk) rfl S.co S.gen rfl (PySem.W.codeRec_of inS hcd) (hb _ _ _ _ ?_)
  have kinds : ∀ y ∈ ps.zip us, (defScope st).names.lookup y.1 = some .local ∨ ((defScope st).names.lookup y.1 = some .cell ∧
      ((cellsFrom (s.heap.objs.size + 1) (defScope st).names []).lookup y.1).isSome = true) := by
    rintro ⟨n, v⟩ hy
    cases S.par n (List.of_mem_zip hy).1 with
    | inl q => exact Or.inl q
    | inr q => exact Or.inr ⟨q, PySem.W.cellsFrom_some _ _ _ (Or.inl q)⟩
  refine wpAny_newFunctionEnv_cells S.kind kinds ?_
  rintro env rfl s1 ic
  obtain ⟨t, ht, hq⟩ := hbody cdv A outer s H vs Q E hg (hr.deeper _) hsp
  have J0 := inv_start (CX := CX0) (E := E) (P := P) (w := w) (mg := mg) (cd := cdv) (f := f) S hr.hd e0 (len _ _ _ _ hsp) rv ic
  refine ⟨nolim.keeps ic.toInCall.keep, codeAny_func (wpAny_mono (ht.nox.run [] s1 (start N vs) H _ J0 hq) ?_ fun e s' z => z)⟩
  intro fl s' hs
  cases fl with
  | next =>
    obtain ⟨σ', H', J, q⟩ := hs
    exact ⟨V.non, H', J.os, J.bare, J.base, J.hok, rfl, q⟩
  | ret u =>
    obtain ⟨v, σ', H', J, rv', q⟩ := hs
    exact ⟨v, H', J.os, J.bare, J.base, J.hok, rv', q⟩
  | brk =>
    obtain ⟨_, _, _, q⟩ := hs
    cases q
  | cont =>
    obtain ⟨_, _, _, q⟩ := hs
    cases q
end
section
variable {X : Cx} {k : Nat} {f : Addr} {fd : FuncData} {ps : List Str} {sp : Sp} {E : XK} {x : Str} {p pos : Pos} {e : Expr} {es : List Expr} {t : TA}
/-- such a def, called by its name -/
theorem pe_callG (F : FnG X.prog X.w X.K X.mg X.base k f fd ps sp) (hg : X.A.guards = some []) (hr : Room k X.A) (hgl : Gl X x)
    (hm : X.mg x = some (.ref f)) (hk : PySem.W.keepIn X.K (.ref f) = true) (hb : Binds X.K fd ps []) (ha : PA X (e :: es) t)
    (hdb : (x == ("__debug__" : Str)) = false := by decide) (he : starEach (e :: es) X.env = (false, eval e X.env) :: starEach es X.env := by rfl)
    (hpl : (backTo pos (starEach es X.env)).any (·.1) = false := by rfl) :
    PE X (.Call (.Name x p) (e :: es) [] pos) (tCall sp [] E t) := by
  constructor
  intro pins s σ H Q I h
  refine wpAny_Call_Name_kw (ld_glob I hgl hm (PySem.W.callWith_K (h₀ := X.base) I.ok.mod.kin hk ?_ he hpl) hdb)
  refine thn (ha.run pos pins s σ H _ I h) ?_
  rintro us s1 ⟨vs, H1, I1, r, q⟩
  refine ⟨I1.kIn, wpAny_call (codeAny_mono (F.go X.A X.stack s1 H1 ⟨us, []⟩ (us ++ []) (vs ++ []) Q E hg hr I1.env0
    (hb s1 us I1.kIn ?_) (r.append .nil) q) ?_)⟩
  · rw [← (r.append Paired.nil).length]
    exact F.len _ _ _ _ q
  · intro res s' hq
    cases res with
    | error e => cases hq
    | ok fl => cases fl with
      | ret u => exact I1.after hq
      | next => cases hq
      | brk => cases hq
      | cont => cases hq
end
end Sd

namespace Sd
open PySem PySem.Spec PyProof.Rows L2
/-! ### the end of a law whose defs ask for repr -/
/-- the script's own object -/
abbrev scr (vs : List Value) : Obj := { cls := .type "list", data := .seq vs.toArray }
/-- what is tracked when the law begins: at most the script -/
structure Begin (K : PySem.W.Frag) (H : Hp) (a : Addr) (vs : List Value) (ns : List Int) : Prop where
  seq : SqL K H a (ns.map V.int)
  one : ∀ b, H b = none ∨ (b = a ∧ H b = some (.frz (scr vs) (.lst (ns.map V.int))) ∧ K.lookup a = none)
theorem begin_ex {K : PySem.W.Frag} {h : Heap} {a : Addr} {vs : List Value} {ns : List Int} (hK : K.In h) (ha : h.get? a = some (scr vs))
    (hi : IntsAre vs ns) (hl : ns.length ≤ sizeLine) : ∃ H, Begin K H a vs ns := by
  cases e : K.lookup a with
  | some o =>
    refine ⟨fun _ => none, ?_, fun b => Or.inl rfl⟩
    obtain rfl : o = scr vs := Option.some.inj ((hK a o e).symm.trans ha)
    exact Or.inr ⟨scr vs, vs.toArray, _, e, rfl, rfl, rfl, by rw [List.size_toArray, hi.length]; exact hl, by simpa using vals_ints hi⟩
  | none =>
    refine ⟨upd (fun _ => none) a (.frz (scr vs) (.lst (ns.map V.int))), Or.inl (Or.inr ⟨scr vs, upd_same⟩), fun b => ?_⟩
    by_cases eb : b = a
    · exact Or.inr ⟨eb, by rw [eb, upd_same], e⟩
    · exact Or.inl (upd_ne eb)
theorem law_g {P : Program} {w : World} {K : PySem.W.Frag} {mg mb : Str → Option Value} {k : Nat} {fa a : Addr} {fd : FuncData} {x : Str} {sp : Sp}
    {s1 : Shared} {vs : List Value} {ns : List Int} (hK : K.In s1.heap) (hm : s1.heap.Ns mainGlobals mg) (hb : s1.heap.Ns builtinsNs mb)
    (hbb : ∀ x : Str, x ≠ "__name__" → mb x = bootBuiltins x) (hlim : s1.heap.NoLimit) (hg : s1.gens = #[])
    (ha : s1.heap.get? a = some (scr vs)) (hi : IntsAre vs ns) (hl : ns.length ≤ sizeLine) (hr : Room k callerA)
    (F : ∀ base : Heap, K.In base → base.Ns mainGlobals mg → FnG P w K mg base k fa fd [x] sp)
    (bind : ∀ (s : Shared) (u : Value), BindsTo s fd ⟨[u], []⟩ [(x, u)])
    (hsp : ∀ H : Hp, SqL K H a (ns.map V.int) → sp [.ref a] H (fun v _ => v = .bl true) fun _ _ _ => False) :
    codeAny (model P w) callerA (.call (.ref fa) ⟨[.ref a], []⟩)
      (fun r s' => r = .ok (.ret (.bool true)) ∧ OldK s1.heap s'.heap ∧ s'.os = s1.os ∧ AllBare s'.gens) s1 := by
  obtain ⟨H, B⟩ := begin_ex hK ha hi hl
  -- the base: all but the script
  have toBase : ∀ {b : Addr} {o : Obj}, s1.heap.get? b = some o → o.data ≠ (scr vs).data → (hidT s1.heap H).get? b = some o := by
    intro b o e d
    refine hidT_get e ?_
    rcases B.one b with z | ⟨rfl, _, _⟩
    · exact z
    · rw [ha] at e
      cases e
      exact absurd rfl d
  have nsB : ∀ {b : Addr} {m : Str → Option Value}, s1.heap.Ns b m → (hidT s1.heap H).Ns b m := by
    rintro b m ⟨o, es, ep, e, d, rest⟩
    exact ⟨o, es, ep, toBase e (by rw [d]; nofun), d, rest⟩
  have KB : K.In (hidT s1.heap H) := by
    intro b o e
    refine hidT_get (hK b o e) ?_
    rcases B.one b with z | ⟨rfl, _, z⟩
    · exact z
    · rw [z] at e
      cases e
  have md : Mod K mg (hidT s1.heap H) := ⟨KB, nsB hm, ⟨mb, nsB hb, hbb⟩, by
    obtain ⟨mc, e1, e2⟩ := hlim
    exact ⟨mc, nsB e1, e2⟩⟩
  have ok : HOk P w H s1.heap := by
    intro b o e
    rcases B.one b with z | ⟨rfl, z, _⟩
    · rw [z] at e
      cases e
    · rw [z] at e
      cases e
      exact ⟨ha, by rw [List.length_map]; exact hl, vs, _, vals_ints hi, ha⟩
  have e0 : Env0 P w K mg (hidT s1.heap H) callerA [] s1 H :=
    ⟨rfl, md, fun b o e => of_hidT e, Nat.le_of_eq (hidT_size _ _), trivial, fun b z => (by cases z), ok, .of_eq hg⟩
  have run := (F _ KB (nsB hm)).go callerA [] s1 H ⟨[.ref a], []⟩ [.ref a] [.ref a] _ _ rfl hr e0 (bind s1 (.ref a)) (.cons rfl .nil) (hsp H B.seq)
  refine codeAny_mono run ?_
  intro r s' h
  cases r with
  | error e => cases h
  | ok fl =>
    cases fl with
    | next => cases h
    | brk => cases h
    | cont => cases h
    | ret u =>
      obtain ⟨v, H', os, bare, un, ok', rv, ev⟩ := h
      obtain rfl : v = .bl true := ev
      obtain rfl : u = Value.bool true := rv
      refine ⟨rfl, OldK.of_keep ?_, os, bare⟩
      intro b o e
      rcases B.one b with z | ⟨rfl, z, _⟩
      · exact un.keep b o e z (by intro q; cases q) (by intro q; cases q)
      · have old := (ok b _ z).1
        have new := (ok' b _ (un.frzs b _ _ z)).1
        rw [e] at old
        cases old
        exact new
theorem walk_g {l : PySem.W.OpenLaw} {n k : Nat} {q : Program} {loose : List Str} {XP : (Str → Option Value) → Heap → Prop} {YP : World → Heap → Prop}
    {d : DefRec} {K : Params → PySem.W.Frag} {sp : World → Sp} {x : Str} (hn : l.most = some n) (hn2 : n ≤ sizeLine) (hdf : d.params.defaults = [])
    (hr : Room k callerA) (hY : ∀ (w : World) (h : Heap), YP w h → (K w.params).In h)
    (F : ∀ (w : World) (mg : Str → Option Value) (fa : Addr) (h : Heap), (K w.params).In h → h.Ns mainGlobals mg → mg d.name = some (.ref fa) →
      ∃ fd : FuncData, (∀ (s : Shared) (u : Value), BindsTo s fd ⟨[u], []⟩ [(x, u)]) ∧
        ∀ base : Heap, (K w.params).In base → base.Ns mainGlobals mg → FnG l.prog w (K w.params) mg base k fa fd [x] (sp w))
    (hsp : ∀ (w : World) (H : Hp) (a : Addr) (ns : List Int), ns.length ≤ n → (∀ z ∈ ns, Builtin.Int.intBits z ≤ 1048576) →
      SqL (K w.params) H a (ns.map V.int) → sp w [.ref a] H (fun v _ => v = .bl true) fun _ _ _ => False) :
    PySem.W.WalkO q loose XP YP l.row.toRowW d [] (fun f vs => PySem.call f vs) := by
  refine Att.attach_callB hn hdf ?_
  intro w s0 s1 mg mb fa o pm cd doc a vs ns G Y ho hd hcd hmg hobj hints hlen hbits hgens
  have inK := hY w _ Y
  obtain ⟨fd, hb, hF⟩ := F w mg fa _ inK G.T.g hmg
  exact law_g inK G.T.g G.T.b G.T.builtins G.T.nolimit hgens hobj hints (Nat.le_trans hlen hn2) hr hF hb (fun H hS => hsp w H a ns hlen hbits hS)
end Sd

namespace Sd
open PySem PySem.Spec PyProof.Rows L2
/-! ### calls by keywords alone -/
structure KW0 (K : PySem.W.Frag) (fd : FuncData) (ps ks : List Str) (g : List Value → List Value) (gV : List V → List V) : Prop where
  to : ∀ (s : Shared) (ws : List Value), K.In s.heap → ws.length = ks.length → BindsTo s fd ⟨[], ks.zip ws⟩ (ps.zip (g ws))
  rel : ∀ {zs : List V} {ws : List Value}, Vals zs ws → Vals (gV zs) (g ws)
def tCallW (sp : Sp) (n : Nat) (gV : List V → List V) (E : XK) (tk : TA) : TE := fun σ H Q =>
  tk σ H fun zs H1 => zs.length = n ∧ sp (gV zs) H1 Q E
section
variable {X : Cx} {k : Nat} {f : Addr} {fd : FuncData} {ps ks : List Str} {sp : Sp} {E : XK} {x : Str} {p pos : Pos} {kws : List Keyword} {tk : TA}
  {g : List Value → List Value} {gV : List V → List V}
theorem pe_callW (F : FnOk X.prog X.w X.K X.mg X.base CX0 k f fd ps sp) (hr : Room k X.A) (hg : Gl X x) (hm : X.mg x = some (.ref f))
    (hk : PySem.W.keepIn X.K (.ref f) = true) (hb : KW0 X.K fd ps ks g gV) (hkw : PK X kws tk)
    (hall : (backToKw pos (keywordEach kws X.env)).all (·.1.isSome) = true := by rfl)
    (hks : (backToKw pos (keywordEach kws X.env)).filterMap (·.1) = ks := by rfl) (hdb : (x == ("__debug__" : Str)) = false := by decide)
    (hpl : ((backTo pos (starEach [] X.env)).any (·.1) || (backToKw pos (keywordEach kws X.env)).any (·.1.isNone)) = false := by rfl) :
    PE X (.Call (.Name x p) [] kws pos) (tCallW sp ks.length gV E tk) := by
  constructor
  intro pins s σ H Q I h
  refine wpAny_Call_Name_kw (ld_glob I hg hm (PySem.W.callWith_KW0 (h₀ := X.base) I.ok.mod.kin hk hall ?_ hpl) hdb)
  refine thn (hkw.run pos pins s σ H _ I h) ?_
  rintro ws s1 ⟨zs, H1, I1, rz, lz, q⟩
  refine ⟨I1.kIn, ?_⟩
  rw [hks]
  have rg := hb.rel rz
  have bd := hb.to s1 ws I1.kIn (by rw [← rz.length]; exact lz)
  refine wpAny_call (codeAny_mono (F.run X.A X.stack s1 H1 ⟨[] ++ [], ks.zip ws⟩ (g ws) (gV zs) Q E hr I1.env0 bd rg q) ?_)
  intro res s' hq
  cases res with
  | error e => cases hq
  | ok fl => cases fl with
    | ret u => exact I1.after hq
    | next => cases hq
    | brk => cases hq
    | cont => cases hq
end
/-! ### what stays -/
/-- all but what stands at two addresses is as it was -/
def Kp (a b : Addr) (H H' : Hp) : Prop := ∀ c o, c ≠ a → c ≠ b → H c = some o → H' c = some o
section
variable {x0 y0 : Addr} {H H1 H2 : Hp}
theorem Kp.refl (H : Hp) : Kp x0 y0 H H := fun _ _ _ _ h => h
theorem Kp.trans (x : Kp x0 y0 H H1) (y : Kp x0 y0 H1 H2) : Kp x0 y0 H H2 := fun c o na nb h => y c o na nb (x c o na nb h)
theorem Kp.new {p : Addr} {o : HO} (x : Kp x0 y0 H H1) (h : H1 p = none) : Kp x0 y0 H (upd H1 p o) := fun c u na nb e => by
  have e1 := x c u na nb e
  rw [upd_ne (ne_of_none e1 h)]
  exact e1
theorem Kp.fst {o : HO} (x : Kp x0 y0 H H1) : Kp x0 y0 H (upd H1 x0 o) := fun c u na nb e => by
  rw [upd_ne na]
  exact x c u na nb e
theorem Kp.snd {o : HO} (x : Kp x0 y0 H H1) : Kp x0 y0 H (upd H1 y0 o) := fun c u na nb e => by
  rw [upd_ne nb]
  exact x c u na nb e
theorem Kp.own {p : Addr} {o : HO} (x : Kp x0 y0 H H1) (h : H p = none) : Kp x0 y0 H (upd H1 p o) := fun c u na nb e => by
  rw [upd_ne (ne_of_none e h)]
  exact x c u na nb e
theorem Same.kp (x : Same H H1) : Kp x0 y0 H H1 := fun c o _ _ h => x c o h
end
theorem same_new {H : Hp} {p : Addr} {o : HO} (h : H p = none) : Same H (upd H p o) := fun b x e => by
  rw [upd_ne (ne_of_none e h)]
  exact e
/-! ### the source of draws: a list of a list of cells and a number -/
structure Dr (H : Hp) (p q : Addr) : Prop where
  ex : ∃ (cs : List Int) (st : Int), H p = some (.lst [.ref q, .int st]) ∧ H q = some (.lst (cs.map V.int)) ∧ cs.length ≤ 60 ∧ 0 ≤ st ∧ st < 2147483647
theorem Dr.ne {H : Hp} {p q : Addr} (d : Dr H p q) : p ≠ q := by
  obtain ⟨cs, st, h1, h2, _⟩ := d
  refine ne_of h1 h2 ?_
  intro z
  injection z with z
  cases cs with
  | nil => cases z
  | cons c r =>
    rw [List.map_cons] at z
    injection z with z1 z2
    cases z1
theorem Dr.same {H H1 : Hp} {p q : Addr} (d : Dr H p q) (s : Same H H1) : Dr H1 p q := by
  obtain ⟨cs, st, h1, h2, h⟩ := d
  exact ⟨cs, st, s _ _ h1, s _ _ h2, h⟩
theorem Dr.new {H : Hp} {p q a : Addr} {o : HO} (d : Dr H p q) (h : H a = none) : Dr (upd H a o) p q := d.same (same_new h)
theorem Dr.apart {H : Hp} {p q a : Addr} (d : Dr H p q) (h : H a = none) : a ≠ p ∧ a ≠ q := by
  obtain ⟨cs, st, h1, h2, _⟩ := d
  exact ⟨(ne_of_none h1 h).symm, (ne_of_none h2 h).symm⟩
theorem Dr.put {H : Hp} {p q D : Addr} {o : HO} (d : Dr H p q) (h0 : D ≠ p) (h1 : D ≠ q) : Dr (upd H D o) p q := by
  obtain ⟨cs, st, e1, e2, h⟩ := d
  exact ⟨cs, st, (upd_ne h0.symm).trans e1, (upd_ne h1.symm).trans e2, h⟩
theorem eqv_ints_nil (cs : List Int) : PyData.eqv (.list (cs.map PyData.int)) (.list []) = cs.isEmpty := by
  cases cs <;> rfl
theorem dpAll_ints {K : PySem.W.Frag} {H : Hp} : ∀ cs : List Int, DpAll K H (cs.map V.int) (cs.map PyData.int)
  | [] => .nil
  | c :: r => .cons (.int c) (dpAll_ints r)
theorem canLay_all : ∀ {ds : List PyData}, (∀ d ∈ ds, d.canLay0 = true) → PyData.canLayAll0 ds = true
  | [], _ => by simp only [PyData.canLayAll0]
  | d :: r, h => by
    simp only [PyData.canLayAll0, Bool.and_eq_true]
    exact ⟨h d List.mem_cons_self, canLay_all fun e m => h e (List.mem_cons_of_mem _ m)⟩
theorem depth_all {n : Nat} : ∀ {ds : List PyData}, (∀ d ∈ ds, d.depth ≤ n) → PyData.depthAll ds ≤ n
  | [], _ => by simp only [PyData.depthAll]; omega
  | d :: r, h => by
    simp only [PyData.depthAll]
    have a := h d List.mem_cons_self
    have b := depth_all fun e m => h e (List.mem_cons_of_mem _ m)
    omega
/-- data that can be laid, of at most such a depth -/
def Flat (n : Nat) (d : PyData) : Prop := d.canLay0 = true ∧ d.depth ≤ n
theorem flat_int (i : Int) (n : Nat) : Flat n (.int i) := ⟨by simp only [PyData.canLay0], by simp only [PyData.depth]; omega⟩
theorem flat_str {l : List Nat} (h : ∀ d ∈ l, d < 1114112) (n : Nat) : Flat n (.str ⟨l.toArray⟩) := by
  refine ⟨?_, by simp only [PyData.depth]; omega⟩
  simp only [PyData.canLay0]
  unfold PyData.strOk
  rw [Array.all_eq_true']
  intro x hx
  exact decide_eq_true (h x (by simpa using hx))
theorem eqv_list_nil (ds : List PyData) : PyData.eqv (.list ds) (.list []) = ds.isEmpty := by
  cases ds <;> rfl
theorem flat_list {n : Nat} {ds : List PyData} (h : ∀ d ∈ ds, Flat n d) : Flat (n + 1) (.list ds) :=
  ⟨by simp only [PyData.canLay0]; exact canLay_all fun d m => (h d m).1, by simp only [PyData.depth]; have := depth_all fun d m => (h d m).2; omega⟩
theorem flat_tuple {n : Nat} {ds : List PyData} (h : ∀ d ∈ ds, Flat n d) : Flat (n + 1) (.tuple ds) :=
  ⟨by simp only [PyData.canLay0]; exact canLay_all fun d m => (h d m).1, by simp only [PyData.depth]; have := depth_all fun d m => (h d m).2; omega⟩
theorem Flat.shaped {n : Nat} {d : PyData} (h : Flat n d) (hn : n ≤ 64) : SeqAt.shaped d = true := by
  unfold SeqAt.shaped
  rw [h.1, Bool.true_and, decide_eq_true]
  exact Nat.le_trans h.2 hn
theorem shaped_ints (cs : List Int) : SeqAt.shaped (.list (cs.map PyData.int)) = true := by
  refine (flat_list (n := 0) ?_).shaped (by decide)
  intro d m
  obtain ⟨i, _, rfl⟩ := List.mem_map.mp m
  exact flat_int i 0
/-! ### steps of a reading -/
section
variable {t1 t2 : TS} {c : TT} {tb t : TS} {D : Ends} {σ : L2.St} {H : Hp}
theorem sq (h : t1 { D with nx := t2 D } σ H) : tSeq t1 t2 D σ H := h
/-- what follows is shown once, for a state B -/
theorem to_next (B : L2.St → Hp → Prop) (hB : ∀ σ H, B σ H → D.nx σ H) (h : (∀ σ H, B σ H → D.nx σ H) → t D σ H) : t D σ H := h hB
theorem while_to (W : Nat → L2.St → Hp → Prop) (B : L2.St → Hp → Prop) (m0 : Nat) (h0 : W m0 σ H) (hB : ∀ σ H, B σ H → D.nx σ H)
    (hs : (∀ σ H, B σ H → D.nx σ H) → ∀ m σ H, W m σ H → c σ H fun b H1 => if b = true then
      ∃ N : L2.St → Hp → Prop, (∀ σ' H', N σ' H' → ∃ m', m' < m ∧ W m' σ' H') ∧ tb { D with nx := N, ct := N, bk := D.nx } σ H1 else D.nx σ H1) :
    tWhile c tb D σ H := ⟨W, ⟨m0, h0⟩, hs hB⟩
end
theorem yesT {σ : L2.St} {H : Hp} {F G : Hp → Prop} (h : F H) : tYes σ H (fun b H3 => if b = true then F H3 else G H3) := by
  show (if true = true then F H else G H)
  exact iteT h
theorem nil_or_snoc {α : Type} (l : List α) : l = [] ∨ ∃ (i : List α) (x : α), l = i ++ [x] := by
  cases l.eq_nil_or_concat with
  | inl h => exact Or.inl h
  | inr h =>
    obtain ⟨i, x, e⟩ := h
    exact Or.inr ⟨i, x, by rw [e, List.concat_eq_append]⟩
theorem get_end {xs : List V} {v : V} : (xs ++ [v])[(xs ++ [v]).length - 1]? = some v := by simp
theorem atI_end {xs : List V} {v : V} : atI (xs ++ [v]) (-1) = some v := atI_last xs v
end Sd

namespace Sd
open PySem PySem.Spec PyProof.Rows L2
/-! ### enumerate over a tuple -/
abbrev enuI (t : Addr) : Obj := { cls := .type "tuple_iterator", data := .fields #[.ref t, .int 0 0] }
abbrev enuE (n : Nat) : Obj := { cls := .type "enumerate", data := .fields #[.none, .bool false, .ref n, rawInt 0, .none, .none] }
theorem meets_enuT (t : Addr) (items : Array Value) :
    Meets (Builtin.«enumerate.__new__» ⟨[.type "enumerate", .ref t], []⟩) (fun _ R s => s.heap.IsTuple t items ∧
      R (.ok (.ret (.ref (s.heap.push (enuI t)).objs.size))) { s with heap := (s.heap.push (enuI t)).push (enuE s.heap.objs.size) }) := by
  refine .of_wp fun prog w A R s h => ?_
  obtain ⟨hp, g, d, tk, os⟩ := s
  obtain ⟨h1, h⟩ := h
  have hsub := sub_enumerate
  have q1 : ∀ {A' : Around} {E : Value → Shared → Prop} {Q : Value → Shared → Prop}, Q (.ref hp.objs.size) ⟨hp.push (enuI t), g, d, tk, os⟩ →
      wpAny (model prog w) A' (pyIter (.ref t)) Q E ⟨hp, g, d, tk, os⟩ := fun q => wpAny_pyIter_tuple h1 q
  obtain ⟨⟨c, dct, dt, sl⟩, hl, hc, n, hd⟩ := h1
  replace hc : c = .type "tuple" := hc
  replace hd : dt = .seq items n := hd
  subst hc hd
  wp_walk using AutoSeq1.wpAny_loadPart' hl
  refine wpAny_stack_any fun st => wpAny_pure ?_
  split
  · rename_i c _ _ _ _ _
    cases (c == Value.type "enumerate")
    all_goals
      wp_walk using AutoSeq1.wpAny_loadPart' hl, q1
      exact ⟨_, rfl, h⟩
  · wp_walk using AutoSeq1.wpAny_loadPart' hl, q1
    exact ⟨_, rfl, h⟩

theorem call_enuT {prog : Program} {w : World} {A : Around} {E : Value → Shared → Prop} {s : Shared} {t : Addr} {items : Array Value} {Q : Value → Shared → Prop} (ht : s.heap.IsTuple t items)
    (q : ∀ h1, IsEnum h1 (s.heap.objs.size + 1) s.heap.objs.size 0 .none → h1.IsTupleIter s.heap.objs.size t 0 → (∀ c u, s.heap.get? c = some u → h1.get? c = some u) →
      Q (.ref (s.heap.objs.size + 1)) { s with heap := h1 }) : wpAny (model prog w) A (call (.type "enumerate") [.ref t]) Q E s := by
  refine callType_new F.called_enumerate (by decide) (F.typeCall_enumerate_1 _) (F.newCall_enumerate_1 _)
    (fun obj => F.args_object_init_2 obj _) F.entry_enumerate_new (meets_enuT t items) ⟨ht, ?_⟩
  have z : (s.heap.push (enuI t)).objs.size = s.heap.objs.size + 1 := Heap.size_push ..
  have g := Heap.get?_push_size (s.heap.push (enuI t)) (o := enuE s.heap.objs.size) rfl
  rw [z] at g
  show _ ∧ _
  rw [z]
  exact ⟨⟨_, g, rfl⟩, q _ g ⟨_, Heap.get?_push_of_some _ (Heap.get?_push_size _ rfl), rfl, rfl⟩ fun c u e => Heap.get?_push_of_some _ (Heap.get?_push_of_some _ e)⟩
/-- the tuple at a: each item in a new pair behind its number -/
def ItT (K : PySem.W.Frag) (a : Addr) : It where
  go i H := ∃ (xs : List V) (x : V), SqT K H a xs ∧ xs[i]? = some x
  yld i H v H1 := ∃ T x, v = .ref T ∧ H T = none ∧ H1 = upd H T (.tup [.int (i : Nat), x]) ∧ ∀ ys, SqT K H a ys → ys[i]? = some x
  stop i H := ∃ xs : List V, SqT K H a xs ∧ xs.length = i
theorem turn_enuT {P : Program} {w : World} {K : PySem.W.Frag} {elts : List Expr} {kk : Nat} {tp : Pos} (a e it : Addr) :
    Turn P w K (.Tuple elts kk tp) (ItT K a) [e, it] e (fun i h => (∃ old, IsEnum h e it ((i : Nat) : Int) old) ∧ h.IsTupleIter it a i ∧ e ≠ it) where
  mem := List.mem_cons_self
  obj i h st c m := by
    obtain ⟨⟨old, g⟩, ⟨o, ho, hc, hd⟩, _⟩ := st
    rcases List.mem_cons.mp m with rfl | m
    · exact ⟨_, g, nofun⟩
    · rw [List.mem_singleton.mp m]
      exact ⟨o, ho, fun v q => by rw [hd] at q; cases q⟩
  keep i h h1 st k := by
    obtain ⟨⟨old, g⟩, ⟨o, ho, r⟩, n⟩ := st
    exact ⟨⟨old, k e (by simp) _ g⟩, ⟨o, k it (by simp) _ ho, r⟩, n⟩
  item := by
    rintro X rfl rfl rfl hc i pins s σ H E I hf ⟨⟨old, g⟩, hi, n⟩ ⟨xs, x, hs, hx⟩
    obtain ⟨its, rv, p, _⟩ := I.tuple hs
    obtain ⟨u, hu, ru⟩ := rv.get hx
    have tne : a ≠ it := fun z => by
      obtain ⟨o, ho, hc1, _⟩ := hi
      obtain ⟨o', ho', hc2, _⟩ := p
      rw [z, ho] at ho'
      cases ho'
      rw [hc1] at hc2
      simp at hc2
    have ane : e ≠ a := fun z => by
      obtain ⟨o', ho', hc2, _⟩ := p
      rw [← z] at ho'
      have g' : s.heap.get? e = some _ := g
      rw [g'] at ho'
      cases ho'
      simp at hc2
    have D := Draws.tuple (prog := X.prog) (w := X.w) (A := X.A.in1) (I.ok.hd hc) it a tne its.toArray
    have lt : i < its.toArray.size := by
      obtain ⟨q, _⟩ := List.getElem?_eq_some_iff.mp hu
      simpa using q
    have le : e < s.heap.objs.size := Heap.lt_size g
    have li : it < s.heap.objs.size := by
      obtain ⟨_, q, _⟩ := hi
      exact Heap.lt_size q
    refine wpAny_pyNext_enum_itemC D g ⟨hi, p⟩ lt n (by simp [n, ane]) fun y h1 tk py ho hit hT hsz hk => ?_
    have ey : y = u := by
      have : its.toArray[i]? = some u := by simpa using hu
      rw [this] at py
      exact (Option.some.inj py).symm
    subst ey
    refine ⟨_, rfl, wpAny_letOwnedTupleGo_enum (s := { s with heap := h1, toks := tk + 1 }) ho fun h2 g2 sb => ?_⟩
    have hT2 : h2.get? s.heap.objs.size = some _ := (sb.2 _ (Nat.ne_of_gt le)).trans hT
    have new : ObjOk X.prog X.w (upd H s.heap.objs.size (.tup [.int (i : Nat), x])) h2 s.heap.objs.size (.tup [.int (i : Nat), x]) :=
      ⟨by show 2 ≤ sizeLine; decide, [.int i tk, y], .cons ⟨_, rfl⟩ (.cons ru .nil), ⟨_, hT2, rfl, _, rfl⟩⟩
    have I1 : L2.Inv X pins σ (upd H s.heap.objs.size (.tup [.int (i : Nat), x])) { s with heap := h2, toks := tk + 1 } :=
      Inv.turnedNew (ch := [e, it]) I (fun c o m q => by
        simp only [List.mem_cons, List.not_mem_nil, or_false, not_or] at m
        rw [sb.2 c m.1]
        exact hk c o m.1 m.2 q) hf (Nat.le_refl _) new
    refine ⟨.ref s.heap.objs.size, _, I1, rfl, ⟨_, x, rfl, I.hok.fresh (Nat.le_refl _), rfl, fun ys hy => by rw [I.tuple_inj hy hs]; exact hx⟩, ⟨⟨y, ?_⟩, ?_, n⟩, fun c m => ?_⟩
    · rw [show (((i + 1 : Nat) : Int)) = (i : Int) + 1 by omega]
      exact g2
    · obtain ⟨o, h3, h4⟩ := hit.1
      exact ⟨o, (sb.2 it (Ne.symm n)).trans h3, h4⟩
    · have lc : c < s.heap.objs.size := by
        rcases List.mem_cons.mp m with rfl | m
        · exact le
        · rw [List.mem_singleton.mp m]; exact li
      rw [upd_ne (Nat.ne_of_lt lc)]
      exact (hf c m).1
  done := by
    rintro X rfl rfl rfl hc i pins s σ H E I hf ⟨⟨old, g⟩, hi, n⟩ ⟨xs, hs, hx⟩
    obtain ⟨its, rv, p, _⟩ := I.tuple hs
    obtain ⟨f0, f1, f2, f3, f4, f5⟩ := hf it (by simp)
    have tne : a ≠ it := fun z => by
      obtain ⟨o, ho, hc1, _⟩ := hi
      obtain ⟨o', ho', hc2, _⟩ := p
      rw [z, ho] at ho'
      cases ho'
      rw [hc1] at hc2
      simp at hc2
    have D := Draws.tuple (prog := X.prog) (w := X.w) (A := X.A.in1) (I.ok.hd hc) it a tne its.toArray
    have li : its.toArray.size = i := by
      have := rv.length
      simp only [List.size_toArray]
      omega
    refine wpAny_pyNext_enum_endD D g ⟨li ▸ hi, p⟩ fun h1 k => ⟨rfl, I.turned (t' := s.toks) (fun c o m q => ?_) f0 f1 f3 f4 f5⟩
    exact k c o m q
  self A i s Q E st h := by
    obtain ⟨⟨_, g⟩, _⟩ := st
    exact wpAny_pyIter_enum g h
def iEnuT (K : PySem.W.Frag) (ta : TA) : TI := fun σ H R => ta σ H fun vs H1 => ∃ a xs, vs = [.ref a] ∧ SqT K H1 a xs ∧ R (ItT K a) H1
theorem pi_enuT {X : Cx} {e : Expr} {ta : TA} {p pos tp : Pos} {elts : List Expr} {kk : Nat} (hg : Gl X "enumerate") (hm : X.mg "enumerate" = none) (ha : PA X [e] ta)
    (hs : starEach [e] X.env = [(false, eval e X.env)] := by rfl) : PI X (.Tuple elts kk tp) (.Call (.Name "enumerate" p) [e] [] pos) (iEnuT X.K ta) := by
  constructor
  intro pins s σ H R I h
  refine Call_ (ld_blt I hg hm boot_enumerate (PyProof.Rows.callWith_type1 (thn (ha.run pos pins s σ H _ I h) ?_) hs rfl))
  rintro us s1 ⟨vs, H1, I1, r1, a, xs, rfl, hq, q⟩
  match us, r1 with
  | [_], .cons rfl .nil =>
    obtain ⟨its, rv, p1, _⟩ := I1.tuple hq
    refine call_enuT p1 fun h1 g hi hk => wpAny_pyIter_enum g ?_
    have I2 : L2.Inv X pins σ H1 { s1 with heap := h1 } := Inv.kept (t' := s1.toks) I1 hk
    refine ⟨_, [s1.heap.objs.size + 1, s1.heap.objs.size], _, _, H1, rfl, I2, turn_enuT a _ _, ⟨⟨.none, g⟩, hi, Nat.succ_ne_self _⟩, fun c m => ?_, q⟩
    have lc : s1.heap.objs.size ≤ c := by
      simp only [List.mem_cons, List.not_mem_nil, or_false] at m
      rcases m with rfl | rfl
      · exact Nat.le_add_right _ _
      · exact Nat.le_refl _
    exact I1.fpOk lc (I1.hok.fresh lc)
end Sd

set_option maxHeartbeats 400000
namespace Ge
open PySem PySem.Spec PyProof.Rows L2 Sd
/-! ### data: what a value is worth, without addresses -/
inductive Da where
  | non | bl (b : Bool) | int (i : Int) | str (x : Str) | tup (ds : List Da) | lst (ds : List Da) | obj (c : Addr) (ns : List Str) (ds : List Da) | raw (v : V) | dct (ks ds : List Da) | scr (ns : List Int)
def kDa : Key → Da
  | .inl i => .int i
  | .inr x => .str x
/-- a dict's object: its keys, its values -/
inductive DiAt : HO → List Da → List V → Prop
  | k (kvs : List (Key × V)) : DiAt (.dK kvs) (kvs.map fun p => kDa p.1) (kvs.map Prod.snd)
  | t (kvs : List (List Key × V)) : DiAt (.dT kvs) (kvs.map fun p => .tup (p.1.map kDa)) (kvs.map Prod.snd)
mutual
/-- the value v is worth d, by the heap S of what never changes any more -/
inductive Rp (K : PySem.W.Frag) (S : Hp) : V → Da → Prop
  | non : Rp K S .non .non
  | bl (b : Bool) : Rp K S (.bl b) (.bl b)
  | int (i : Int) : Rp K S (.int i) (.int i)
  | str (x : Str) : Rp K S (.str x) (.str x)
  | raw (v : V) : Rp K S v (.raw v)
  | tup {a : Addr} {xs : List V} {ds : List Da} : SqT K S a xs → Rps K S xs ds → Rp K S (.ref a) (.tup ds)
  | lst {a : Addr} {xs : List V} {ds : List Da} : S a = some (.lst xs) → Rps K S xs ds → Rp K S (.ref a) (.lst ds)
  | obj {a c dx : Addr} {ns : List Str} {xs : List V} {ds : List Da} : S a = some (.ins c dx (ns.zip xs)) → ns.length = xs.length → Rps K S xs ds → Rp K S (.ref a) (.obj c ns ds)
  /-- the script: a list of ints that nobody changes -/
  | scr {a : Addr} {ns : List Int} : SqL K S a (ns.map V.int) → Rp K S (.ref a) (.scr ns)
  | dct {a : Addr} {o : HO} {xs : List V} {ks ds : List Da} : S a = some o → DiAt o ks xs → Rps K S xs ds → Rp K S (.ref a) (.dct ks ds)
inductive Rps (K : PySem.W.Frag) (S : Hp) : List V → List Da → Prop
  | nil : Rps K S [] []
  | cons {v : V} {vs : List V} {d : Da} {ds : List Da} : Rp K S v d → Rps K S vs ds → Rps K S (v :: vs) (d :: ds)
end
theorem seqLs {K : PySem.W.Frag} {H H' : Hp} {a : Addr} {xs : List V} (e : Same H H') (h : SqL K H a xs) : SqL K H' a xs := by
  rcases h with (h | ⟨o, h⟩) | h
  · exact .inl (.inl (e _ _ h))
  · exact .inl (.inr ⟨o, e _ _ h⟩)
  · exact .inr h
theorem seqT {K : PySem.W.Frag} {H H' : Hp} {a : Addr} {xs : List V} (e : Same H H') (h : SqT K H a xs) : SqT K H' a xs := by
  rcases h with (h | ⟨o, h⟩) | h
  · exact .inl (.inl (e _ _ h))
  · exact .inl (.inr ⟨o, e _ _ h⟩)
  · exact .inr h
section
variable {K : PySem.W.Frag} {S S' H : Hp}
mutual
theorem Rp.same (e : Same S S') : ∀ (d : Da) (v : V), Rp K S v d → Rp K S' v d
  | .non, _, h => by cases h; exact .non
  | .bl b, _, h => by cases h; exact .bl b
  | .int i, _, h => by cases h; exact .int i
  | .str x, _, h => by cases h; exact .str x
  | .raw v, _, h => by cases h; exact .raw v
  | .tup ds, _, h => by
    cases h with
    | tup hs ha => exact .tup (seqT e hs) (Rps.same e ds _ ha)
  | .lst ds, _, h => by
    cases h with
    | lst hs ha => exact .lst (e _ _ hs) (Rps.same e ds _ ha)
  | .obj c ns ds, _, h => by
    cases h with
    | obj hs hl ha => exact .obj (e _ _ hs) hl (Rps.same e ds _ ha)
  | .dct ks ds, _, h => by
    cases h with
    | dct hs hd ha => exact .dct (e _ _ hs) hd (Rps.same e ds _ ha)
  | .scr ns, _, h => by
    cases h with
    | scr hs => exact .scr (seqLs e hs)
theorem Rps.same (e : Same S S') : ∀ (ds : List Da) (vs : List V), Rps K S vs ds → Rps K S' vs ds
  | [], _, h => by cases h; exact .nil
  | d :: ds, _, h => by
    cases h with
    | cons h1 h2 => exact .cons (Rp.same e d _ h1) (Rps.same e ds _ h2)
end
theorem Rps.len : ∀ {vs : List V} {ds : List Da}, Rps K S vs ds → vs.length = ds.length
  | _, _, .nil => rfl
  | _, _, .cons _ t => by rw [List.length_cons, List.length_cons, Rps.len t]
theorem Rps.get : ∀ {vs : List V} {ds : List Da} {i : Nat} {d : Da}, Rps K S vs ds → ds[i]? = some d → ∃ v, vs[i]? = some v ∧ Rp K S v d
  | _, _, _, _, .nil, h => by simp at h
  | _, _, 0, _, .cons r _, h => by
    have e := Option.some.inj h
    subst e
    exact ⟨_, rfl, r⟩
  | _, _, i + 1, _, .cons _ t, h => by
    obtain ⟨v, e, q⟩ := Rps.get (i := i) t (by simpa using h)
    exact ⟨v, by simpa using e, q⟩
theorem Rps.getV : ∀ {vs : List V} {ds : List Da} {i : Nat} {v : V}, Rps K S vs ds → vs[i]? = some v → ∃ d, ds[i]? = some d ∧ Rp K S v d
  | _, _, _, _, .nil, h => by simp at h
  | _, _, 0, _, .cons r _, h => by
    have e := Option.some.inj h
    subst e
    exact ⟨_, rfl, r⟩
  | _, _, i + 1, _, .cons _ t, h => by
    obtain ⟨d, e, q⟩ := Rps.getV (i := i) t (by simpa using h)
    exact ⟨d, by simpa using e, q⟩
theorem Rps.app : ∀ {vs : List V} {ds : List Da} {ws : List V} {es : List Da}, Rps K S vs ds → Rps K S ws es → Rps K S (vs ++ ws) (ds ++ es)
  | _, _, _, _, .nil, h => h
  | _, _, _, _, .cons r t, h => .cons r (Rps.app t h)
theorem Rps.take : ∀ {vs : List V} {ds : List Da} (n : Nat), Rps K S vs ds → Rps K S (vs.take n) (ds.take n)
  | _, _, 0, _ => .nil
  | _, _, _ + 1, .nil => .nil
  | _, _, n + 1, .cons r t => .cons r (Rps.take n t)
theorem Rps.drop : ∀ {vs : List V} {ds : List Da} (n : Nat), Rps K S vs ds → Rps K S (vs.drop n) (ds.drop n)
  | _, _, 0, h => h
  | _, _, _ + 1, .nil => .nil
  | _, _, n + 1, .cons _ t => Rps.drop n t
theorem Rps.rev : ∀ {vs : List V} {ds : List Da}, Rps K S vs ds → Rps K S vs.reverse ds.reverse
  | _, _, .nil => .nil
  | _, _, .cons r t => by
    rw [List.reverse_cons, List.reverse_cons]
    exact Rps.app (Rps.rev t) (.cons r .nil)
theorem Rps.set : ∀ {vs : List V} {ds : List Da} {v : V} {d : Da} (n : Nat), Rps K S vs ds → Rp K S v d → Rps K S (vs.set n v) (ds.set n d)
  | _, _, _, _, _, .nil, _ => .nil
  | _, _, _, _, 0, .cons _ t, h => .cons h t
  | _, _, _, _, n + 1, .cons r t, h => .cons r (Rps.set n t h)
theorem Rps.erase : ∀ {vs : List V} {ds : List Da} (n : Nat), Rps K S vs ds → Rps K S (vs.eraseIdx n) (ds.eraseIdx n)
  | _, _, _, .nil => .nil
  | _, _, 0, .cons _ t => t
  | _, _, n + 1, .cons r t => .cons r (Rps.erase n t)
theorem Rps.cut {vs : List V} {ds : List Da} (h : Rps K S vs ds) (lo hi : Option Int) :
    Rps K S (cutV vs lo hi) ((ds.drop (HT.sIx ds.length 0 lo)).take (HT.sIx ds.length ds.length hi - HT.sIx ds.length 0 lo)) := by
  unfold cutV
  rw [h.len]
  exact (h.drop _).take _
end
/-! ### data as the library has it -/
mutual
def Da.py : Da → PyData
  | .non => .none | .bl b => .bool b | .int i => .int i | .str x => .str x
  | .tup ds => .tuple (pys ds) | .lst ds => .list (pys ds) | .obj _ _ _ => .none | .raw _ => .none | .dct _ _ => .none | .scr _ => .none
def pys : List Da → List PyData
  | [] => []
  | d :: r => d.py :: pys r
end
mutual
/-- no instance within, all texts of signs that can be; at most so deep -/
def Da.lays : Nat → Da → Bool
  | _, .non => true | _, .bl _ => true | _, .int _ => true | _, .str x => PyData.strOk x
  | n + 1, .tup ds => layss n ds | n + 1, .lst ds => layss n ds | _, .obj _ _ _ => false | _, .raw _ => false | _, .dct _ _ => false | _, .scr _ => false
  | 0, .tup _ => false | 0, .lst _ => false
def layss : Nat → List Da → Bool
  | _, [] => true
  | n, d :: r => d.lays n && layss n r
end
mutual
theorem Rp.dp {K : PySem.W.Frag} {S H : Hp} (e : Same S H) : ∀ (n : Nat) (d : Da) (v : V), d.lays n = true → Rp K S v d → Dp K H v d.py
  | _, .non, _, _, h => by cases h; exact .non
  | _, .bl b, _, _, h => by cases h; exact .bl b
  | _, .int i, _, _, h => by cases h; exact .int i
  | _, .str x, _, _, h => by cases h; exact .str x
  | n + 1, .tup ds, _, l, h => by
    cases h with
    | tup hs ha => exact .tup (seqT e hs) (Rps.dp e n ds _ (by simpa [Da.lays] using l) ha)
  | n + 1, .lst ds, _, l, h => by
    cases h with
    | lst hs ha => exact .lst (SqL.of (e _ _ hs)) (Rps.dp e n ds _ (by simpa [Da.lays] using l) ha)
  | 0, .tup ds, _, l, _ => by simp [Da.lays] at l
  | 0, .lst ds, _, l, _ => by simp [Da.lays] at l
  | 0, .obj c ns ds, _, l, _ => by simp [Da.lays] at l
  | n + 1, .obj c ns ds, _, l, _ => by simp [Da.lays] at l
  | _, .raw v, _, l, _ => by simp [Da.lays] at l
  | _, .dct _ _, _, l, _ => by simp [Da.lays] at l
  | _, .scr _, _, l, _ => by simp [Da.lays] at l
theorem Rps.dp {K : PySem.W.Frag} {S H : Hp} (e : Same S H) : ∀ (n : Nat) (ds : List Da) (vs : List V), layss n ds = true → Rps K S vs ds → DpAll K H vs (pys ds)
  | _, [], _, _, h => by cases h; exact .nil
  | n, d :: ds, _, l, h => by
    simp only [layss, Bool.and_eq_true] at l
    cases h with
    | cons h1 h2 => exact .cons (Rp.dp e n d _ l.1 h1) (Rps.dp e n ds _ l.2 h2)
end
mutual
theorem lays_flat : ∀ (n : Nat) (d : Da), d.lays n = true → Flat n d.py
  | _, .non, _ => ⟨by simp only [Da.py, PyData.canLay0], by simp only [Da.py, PyData.depth]; omega⟩
  | _, .bl b, _ => ⟨by simp only [Da.py, PyData.canLay0], by simp only [Da.py, PyData.depth]; omega⟩
  | _, .int i, _ => ⟨by simp only [Da.py, PyData.canLay0], by simp only [Da.py, PyData.depth]; omega⟩
  | _, .str x, l => ⟨by simp only [Da.py, PyData.canLay0]; simpa [Da.lays] using l, by simp only [Da.py, PyData.depth]; omega⟩
  | n + 1, .tup ds, l => by
    simp only [Da.py]
    exact flat_tuple (layss_flat n ds (by simpa [Da.lays] using l))
  | n + 1, .lst ds, l => by
    simp only [Da.py]
    exact flat_list (layss_flat n ds (by simpa [Da.lays] using l))
  | 0, .tup ds, l => by simp [Da.lays] at l
  | 0, .lst ds, l => by simp [Da.lays] at l
  | 0, .obj c ns ds, l => by simp [Da.lays] at l
  | n + 1, .obj c ns ds, l => by simp [Da.lays] at l
  | _, .raw v, l => by simp [Da.lays] at l
  | _, .dct _ _, l => by simp [Da.lays] at l
  | _, .scr _, l => by simp [Da.lays] at l
theorem layss_flat : ∀ (n : Nat) (ds : List Da), layss n ds = true → ∀ d ∈ pys ds, Flat n d
  | _, [], _, d, h => by cases h
  | n, d :: ds, l, e, h => by
    simp only [layss, Bool.and_eq_true] at l
    rcases List.mem_cons.mp h with rfl | h
    · exact lays_flat n d l.1
    · exact layss_flat n ds l.2 e h
end
/-! ### the state of a def that runs -/
/-- the tables of code objects, with the names of the lambdas in them -/
class HasT where
  T0 : List (Addr × Str)
/-- the source of draws -/
structure Srx where
  pq : Option (Addr × Addr)
variable [HasT]
structure Bs where
  src : Srx
  S : Hp
  H : Hp
  me : Option Addr
/-- with no object under way -/
abbrev bs0 (src : Srx) (S H : Hp) : Bs := ⟨src, S, H, none⟩
def off (src : Srx) (a : Addr) : Prop := (∀ p q, src.pq = some (p, q) → a ≠ p ∧ a ≠ q) ∧ ∀ t ∈ HasT.T0, a ≠ t.1
/-- from one heap to a later one: S what never changes, H all -/
structure Step (src : Srx) (S H S' H' : Hp) : Prop where
  ss : Same S S'
  sh : Same S' H'
  hh : ∀ b o, off src b → H b = some o → H' b = some o
  gr : ∀ b o, S' b = some o → S b = some o ∨ H b = none
theorem Step.refl {src : Srx} {S H : Hp} (h : Same S H) : Step src S H S H := ⟨Same.refl S, h, fun _ _ _ e => e, fun _ _ e => .inl e⟩
theorem Step.trans {src : Srx} {S H S1 H1 S2 H2 : Hp} (x : Step src S H S1 H1) (y : Step src S1 H1 S2 H2) (hp : ∀ b, ¬ off src b → S2 b = none) : Step src S H S2 H2 :=
  ⟨x.ss.trans y.ss, y.sh, fun b o f e => y.hh b o f (x.hh b o f e), fun b o e => by
    rcases y.gr b o e with z | z
    · exact x.gr b o z
    · cases hb : H b with
      | none => exact .inr rfl
      | some u =>
        by_cases f : off src b
        · rw [x.hh b u f hb] at z
          cases z
        · rw [hp b f] at e
          cases e⟩
end Ge

set_option maxHeartbeats 400000
namespace Ge
open PySem PySem.Spec PyProof.Rows L2 Sd
/-! ### what a run comes to: a value, an error, after some draws -/
structure Exn where
  c : Addr
  fs : List (Str × V)
inductive G (α : Type) where
  | pure (a : α) | fail | draw (m : Int) (k : Int → G α) | thr (e : Exn)
section
variable {α β γ : Type}
def G.bind : G α → (α → G β) → G β
  | .pure a, f => f a | .fail, _ => .fail | .draw m k, f => .draw m fun v => (k v).bind f | .thr e, _ => .thr e
/-- whatever is drawn: N of the value, E of the error -/
def G.good : G α → (α → Prop) → (Exn → Prop) → Prop
  | .pure a, N, _ => N a | .fail, _, _ => False
  | .draw m k, N, E => 0 < m ∧ m < 1073741824 ∧ ∀ v, 0 ≤ v → v < m → (k v).good N E
  | .thr e, _, E => E e
def optG : Option α → G α
  | some a => .pure a | none => .fail
/-- no error may leave -/
def G.calm : G α → G α
  | .pure a => .pure a | .fail => .fail | .draw m k => .draw m fun v => (k v).calm | .thr _ => .fail
theorem G.pure_bind (a : α) (f : α → G β) : (G.pure a).bind f = f a := rfl
theorem G.fail_bind (f : α → G β) : (G.fail).bind f = .fail := rfl
theorem G.bind_assoc : ∀ (g : G α) (f : α → G β) (h : β → G γ), (g.bind f).bind h = g.bind fun a => (f a).bind h
  | .pure _, _, _ => rfl
  | .fail, _, _ => rfl
  | .thr _, _, _ => rfl
  | .draw m k, f, h => by
    simp only [G.bind]
    congr 1
    funext v
    exact G.bind_assoc (k v) f h
theorem G.good_bind {N : β → Prop} {E : Exn → Prop} : ∀ {g : G α} {f : α → G β}, (g.bind f).good N E ↔ g.good (fun a => (f a).good N E) E
  | .pure _, _ => Iff.rfl
  | .fail, _ => Iff.rfl
  | .thr _, _ => Iff.rfl
  | .draw m k, f => by
    simp only [G.bind, G.good]
    constructor
    · rintro ⟨a, b, h⟩
      exact ⟨a, b, fun v x y => G.good_bind.mp (h v x y)⟩
    · rintro ⟨a, b, h⟩
      exact ⟨a, b, fun v x y => G.good_bind.mpr (h v x y)⟩
theorem G.good_mono {N N' : α → Prop} {E E' : Exn → Prop} (hn : ∀ a, N a → N' a) (he : ∀ e, E e → E' e) : ∀ {g : G α}, g.good N E → g.good N' E'
  | .pure a, h => hn a h
  | .fail, h => h
  | .thr e, h => he e h
  | .draw m k, h => ⟨h.1, h.2.1, fun v x y => G.good_mono hn he (h.2.2 v x y)⟩
theorem G.good_calm {N : α → Prop} {E : Exn → Prop} : ∀ {g : G α}, g.calm.good N E → g.good N fun _ => False
  | .pure a, h => h
  | .fail, h => h
  | .thr e, h => h
  | .draw m k, h => ⟨h.1, h.2.1, fun v x y => G.good_calm (h.2.2 v x y)⟩
/-- what holds at every value that can come holds if one comes at all -/
theorem G.good_any {N : α → Prop} {E : Exn → Prop} {R : Prop} (h : ∀ a, N a → R) : ∀ {g : G α}, g.good N (fun e => E e) → (∀ e, E e → R) → R
  | .pure a, k, _ => h a k
  | .fail, k, _ => k.elim
  | .thr e, k, he => he e k
  | .draw m f, k, he => G.good_any h (g := f 0) (k.2.2 0 (Int.le_refl 0) k.1) he
theorem optG_some {o : Option α} {N : α → Prop} {E : Exn → Prop} (h : (optG o).good N E) : ∃ a, o = some a ∧ N a := by
  cases o with
  | none => cases h
  | some a => exact ⟨a, rfl, h⟩
end
/-! ### data, and lists and dicts of one's own -/
inductive Ow where
  | fz (d : Da) | ol (os : List Ow) | od (ks ds : List Da)
mutual
def Ow.frz : Ow → Da
  | .fz d => d | .ol os => .lst (frzs os) | .od ks ds => .dct ks ds
def frzs : List Ow → List Da
  | [] => []
  | o :: r => o.frz :: frzs r
end
def allFz : List Ow → Option (List Da)
  | [] => some []
  | .fz d :: r => match allFz r with | some ds => some (d :: ds) | none => none
  | _ :: _ => none
theorem allFz_map : ∀ ds : List Da, allFz (ds.map .fz) = some ds
  | [] => rfl
  | d :: ds => by simp only [List.map_cons, allFz, allFz_map ds]
theorem frzs_map : ∀ ds : List Da, frzs (ds.map .fz) = ds
  | [] => rfl
  | d :: ds => by simp only [List.map_cons, frzs, Ow.frz, frzs_map ds]
mutual
/-- the value v is worth o; f: the addresses that are one's own -/
inductive Okv (K : PySem.W.Frag) (S H : Hp) : V → Ow → List Addr → Prop
  | fz {v : V} {d : Da} : Rp K S v d → Okv K S H v (.fz d) []
  | ol {a : Addr} {xs : List V} {os : List Ow} {fs : List Addr} : H a = some (.lst xs) → Okvs K S H xs os fs → Okv K S H (.ref a) (.ol os) (a :: fs)
  | od {a : Addr} {o : HO} {xs : List V} {ks ds : List Da} : H a = some o → DiAt o ks xs → Rps K S xs ds → Okv K S H (.ref a) (.od ks ds) [a]
inductive Okvs (K : PySem.W.Frag) (S H : Hp) : List V → List Ow → List Addr → Prop
  | nil : Okvs K S H [] [] []
  | cons {v : V} {vs : List V} {o : Ow} {os : List Ow} {f fs : List Addr} : Okv K S H v o f → Okvs K S H vs os fs → Okvs K S H (v :: vs) (o :: os) (f ++ fs)
end
section
variable {K : PySem.W.Frag} {S S' H H' T : Hp}
mutual
theorem Okv.tr (ss : Same S S') : ∀ {v : V} {o : Ow} {f : List Addr}, (∀ a ∈ f, ∀ u, H a = some u → H' a = some u) → Okv K S H v o f → Okv K S' H' v o f
  | _, _, _, _, .fz r => .fz (Rp.same ss _ _ r)
  | _, _, _, h, .ol e t => .ol (h _ List.mem_cons_self _ e) (Okvs.tr ss (fun a m => h a (List.mem_cons_of_mem _ m)) t)
  | _, _, _, h, .od e d r => .od (h _ List.mem_cons_self _ e) d (Rps.same ss _ _ r)
theorem Okvs.tr (ss : Same S S') : ∀ {v : List V} {o : List Ow} {f : List Addr}, (∀ a ∈ f, ∀ u, H a = some u → H' a = some u) → Okvs K S H v o f → Okvs K S' H' v o f
  | _, _, _, _, .nil => .nil
  | _, _, _, h, .cons r t => .cons (Okv.tr ss (fun a m => h a (List.mem_append_left _ m)) r) (Okvs.tr ss (fun a m => h a (List.mem_append_right _ m)) t)
end
mutual
theorem Okv.rp (ss : Same S T) : ∀ {v : V} {o : Ow} {f : List Addr}, (∀ a ∈ f, ∀ u, H a = some u → T a = some u) → Okv K S H v o f → Rp K T v o.frz
  | _, _, _, _, .fz r => Rp.same ss _ _ r
  | _, _, _, h, .ol e t => .lst (h _ List.mem_cons_self _ e) (Okvs.rp ss (fun a m => h a (List.mem_cons_of_mem _ m)) t)
  | _, _, _, h, .od e d r => .dct (h _ List.mem_cons_self _ e) d (Rps.same ss _ _ r)
theorem Okvs.rp (ss : Same S T) : ∀ {v : List V} {o : List Ow} {f : List Addr}, (∀ a ∈ f, ∀ u, H a = some u → T a = some u) → Okvs K S H v o f → Rps K T v (frzs o)
  | _, _, _, _, .nil => .nil
  | _, _, _, h, .cons r t => .cons (Okv.rp ss (fun a m => h a (List.mem_append_left _ m)) r) (Okvs.rp ss (fun a m => h a (List.mem_append_right _ m)) t)
end
mutual
theorem Okv.there : ∀ {v : V} {o : Ow} {f : List Addr}, Okv K S H v o f → ∀ a ∈ f, ∃ u, H a = some u
  | _, _, _, .fz _, _, m => by cases m
  | _, _, _, .ol e t, a, m => by
    rcases List.mem_cons.mp m with rfl | m
    · exact ⟨_, e⟩
    · exact Okvs.there t a m
  | _, _, _, .od e _ _, a, m => by
    rcases List.mem_cons.mp m with rfl | m
    · exact ⟨_, e⟩
    · cases m
theorem Okvs.there : ∀ {v : List V} {o : List Ow} {f : List Addr}, Okvs K S H v o f → ∀ a ∈ f, ∃ u, H a = some u
  | _, _, _, .nil, _, m => by cases m
  | _, _, _, .cons r t, a, m => by
    rcases List.mem_append.mp m with m | m
    · exact Okv.there r a m
    · exact Okvs.there t a m
end
theorem Okvs.len : ∀ {v : List V} {o : List Ow} {f : List Addr}, Okvs K S H v o f → v.length = o.length
  | _, _, _, .nil => rfl
  | _, _, _, .cons _ t => by rw [List.length_cons, List.length_cons, Okvs.len t]
theorem Okvs.of : ∀ {v : List V} {ds : List Da}, Rps K S v ds → Okvs K S H v (ds.map .fz) []
  | _, _, .nil => .nil
  | _, _, .cons r t => by
    have := Okvs.cons (f := []) (fs := []) (Okv.fz (H := H) r) (Okvs.of t)
    exact this
theorem Okvs.fzs : ∀ {v : List V} {o : List Ow} {f : List Addr} {ds : List Da}, Okvs K S H v o f → allFz o = some ds → Rps K S v ds ∧ f = []
  | _, _, _, _, .nil, e => by cases e; exact ⟨.nil, rfl⟩
  | _, _, _, ds, .cons (o := o) (os := os) r t, e => by
    cases o with
    | ol _ => cases e
    | od _ _ => cases e
    | fz d =>
      cases q : allFz os with
      | none => simp only [allFz, q] at e; cases e
      | some es =>
        simp only [allFz, q] at e
        cases e
        obtain ⟨h1, h2⟩ := Okvs.fzs t q
        subst h2
        cases r with
        | fz r => exact ⟨.cons r h1, rfl⟩
theorem Okvs.get : ∀ {xs : List V} {os : List Ow} {fs : List Addr} {i : Nat} {o : Ow}, Okvs K S H xs os fs → os[i]? = some o →
    ∃ v f, xs[i]? = some v ∧ Okv K S H v o f ∧ (∀ a ∈ f, a ∈ fs) ∧ ∀ v' o' f', Okv K S H v' o' f' → ∃ fs', Okvs K S H (xs.set i v') (os.set i o') fs' ∧ ∀ a, fs'.count a + f.count a = fs.count a + f'.count a
  | _, _, _, _, _, .nil, h => by simp at h
  | _, _, _, 0, _, .cons (f := f) (fs := fs) r t, h => by
    obtain rfl := Option.some.inj h
    exact ⟨_, f, rfl, r, fun a m => List.mem_append_left _ m, fun v' o' f' r' => ⟨f' ++ fs, .cons r' t, fun a => by rw [List.count_append, List.count_append]; omega⟩⟩
  | _, _, _, i + 1, _, .cons (f := f0) r t, h => by
    obtain ⟨v, f, e, q, m, k⟩ := Okvs.get (i := i) t (by simpa using h)
    refine ⟨v, f, by simpa using e, q, fun a x => List.mem_append_right _ (m a x), fun v' o' f' r' => ?_⟩
    obtain ⟨fs', h1, h2⟩ := k v' o' f' r'
    exact ⟨f0 ++ fs', .cons r h1, fun a => by rw [List.count_append, List.count_append]; have := h2 a; omega⟩
theorem Okvs.snoc : ∀ {xs : List V} {os : List Ow} {fs f : List Addr} {v : V} {o : Ow}, Okvs K S H xs os fs → Okv K S H v o f → Okvs K S H (xs ++ [v]) (os ++ [o]) (fs ++ f)
  | _, _, _, f, _, _, .nil, r => by
    have := Okvs.cons r (.nil (K := K) (S := S) (H := H))
    rw [List.append_nil] at this
    exact this
  | _, _, _, _, _, _, .cons r t, r' => by
    rw [List.append_assoc]
    exact .cons r (Okvs.snoc t r')
theorem Okvs.erase : ∀ {xs : List V} {os : List Ow} {fs : List Addr} {i : Nat} {o : Ow}, Okvs K S H xs os fs → os[i]? = some o →
    ∃ v f fs', xs[i]? = some v ∧ Okv K S H v o f ∧ Okvs K S H (xs.eraseIdx i) (os.eraseIdx i) fs' ∧ ∀ a, fs'.count a + f.count a = fs.count a
  | _, _, _, _, _, .nil, h => by simp at h
  | _, _, _, 0, _, .cons (f := f) (fs := fs) r t, h => by
    obtain rfl := Option.some.inj h
    exact ⟨_, f, fs, rfl, r, t, fun a => by rw [List.count_append]; omega⟩
  | _, _, _, i + 1, _, .cons (f := f0) r t, h => by
    obtain ⟨v, f, fs', e, q, k, c⟩ := Okvs.erase (i := i) t (by simpa using h)
    exact ⟨v, f, f0 ++ fs', by simpa using e, q, .cons r k, fun a => by rw [List.count_append, List.count_append]; have := c a; omega⟩
end
variable [HasT]
/-! ### slots -/
inductive Sl where
  | no | val (o : Ow) | view (o : Ow) | src | slf
abbrev Sl.dat (d : Da) : Sl := .val (.fz d)
abbrev Sl.fresh (ds : List Da) : Sl := .val (.ol (ds.map .fz))
def Sl.isView : Sl → Bool
  | .view _ => true | _ => false
def SlotOk (K : PySem.W.Frag) (b : Bs) (S H : Hp) (v : Option V) (f : List Addr) : Sl → Prop
  | .no => f = []
  | .val o => ∃ x, v = some x ∧ Okv K S H x o f
  | .view o => f = [] ∧ ∃ x f', v = some x ∧ Okv K S H x o f' ∧ ∀ a ∈ f', off b.src a
  | .src => f = [] ∧ ∃ p q, b.src.pq = some (p, q) ∧ v = some (.ref p)
  | .slf => f = [] ∧ ∃ x, b.me = some x ∧ v = some (.ref x)
inductive Ents (K : PySem.W.Frag) (b : Bs) (S H : Hp) : List (Option V) → List Sl → List Addr → Prop
  | nil : Ents K b S H [] [] []
  | cons {v : Option V} {vs : List (Option V)} {s : Sl} {ss : List Sl} {f F : List Addr} : SlotOk K b S H v f s → Ents K b S H vs ss F → Ents K b S H (v :: vs) (s :: ss) (f ++ F)
/-- the source of draws stands -/
structure InvS (src : Srx) (S H : Hp) : Prop where
  dr : ∀ p q, src.pq = some (p, q) → Dr H p q ∧ S p = none ∧ S q = none
  tb : LamX.Tabs HasT.T0 H
  ts : ∀ t ∈ HasT.T0, S t.1 = none
abbrev Inv0 (b : Bs) (S H : Hp) : Prop := InvS b.src S H
theorem InvS.off {b : Srx} {S H : Hp} (h : InvS b S H) : ∀ a, ¬ off b a → S a = none := by
  intro a na
  by_cases ha : ∃ t ∈ HasT.T0, a = t.1
  · obtain ⟨t, m, rfl⟩ := ha
    exact h.ts t m
  · have ht : ∀ t ∈ HasT.T0, a ≠ t.1 := fun t m e => ha ⟨t, m, e⟩
    cases e : b.pq with
    | none => exact absurd ⟨fun p q h => (by rw [e] at h; cases h), ht⟩ na
    | some pq =>
      obtain ⟨p, q⟩ := pq
      obtain ⟨_, h1, h2⟩ := h.dr p q e
      by_cases hp : a = p
      · rw [hp]; exact h1
      · by_cases hq : a = q
        · rw [hq]; exact h2
        · refine absurd ⟨fun p' q' h' => ?_, ht⟩ na
          rw [e] at h'
          cases h'
          exact ⟨hp, hq⟩
theorem tabs_new {T : List (Addr × Str)} {H : Hp} {p : Addr} {o : HO} (h : LamX.Tabs T H) (np : H p = none) : LamX.Tabs T (upd H p o) := h.ext fun b u e => by
  rw [upd_ne (ne_of_none e np)]
  exact e
/-- what is neither a table nor a code object may change -/
theorem tabs_upd {T : List (Addr × Str)} {H : Hp} {p : Addr} {o u : HO} (h : LamX.Tabs T H) (e : H p = some u) (n1 : ∀ ps, u ≠ .tbl ps) (n2 : ∀ c q, u ≠ LamX.CodeO c q) : LamX.Tabs T (upd H p o) := fun t m => by
  obtain ⟨ps, h1, h2, h3⟩ := h t m
  have ne : ∀ {b : Addr} {o' : HO}, H b = some o' → o' ≠ u → b ≠ p := fun {b o'} h' ne z => by
    rw [z, e] at h'
    exact ne (Option.some.inj h').symm
  refine ⟨ps, by rw [upd_ne (ne h1 (Ne.symm (n1 ps)))]; exact h1, h2, fun pos cv hc => ?_⟩
  obtain ⟨c, e1, e2⟩ := h3 pos cv hc
  exact ⟨c, e1, by rw [upd_ne (ne e2 (Ne.symm (n2 _ _)))]; exact e2⟩
theorem InvS.tne {b : Srx} {S H : Hp} {p : Addr} (h : InvS b S H) (np : H p = none) : ∀ t ∈ HasT.T0, t.1 ≠ p := fun t m z => by
  obtain ⟨ps, h1, _⟩ := h.tb t m
  rw [z, np] at h1
  cases h1
theorem InvS.tsNew {b : Srx} {S H : Hp} {p : Addr} {o : HO} (h : InvS b S H) (np : H p = none) : ∀ t ∈ HasT.T0, (upd S p o) t.1 = none := fun t m => by
  rw [upd_ne (h.tne np t m)]
  exact h.ts t m
theorem InvS.there {b : Srx} {S H : Hp} (h : InvS b S H) : ∀ t ∈ HasT.T0, H t.1 ≠ none := fun t m z => by
  obtain ⟨ps, h1, _⟩ := h.tb t m
  rw [h1] at z
  cases z
/-- a heap without the tables -/
def noT (H : Hp) : Hp := fun a => if a ∈ HasT.T0.map Prod.fst then none else H a
theorem noT_same {H : Hp} : Same (noT H) H := fun a o e => by
  unfold noT at e
  split at e
  · cases e
  · exact e
theorem noT_ne {H : Hp} {a : Addr} (h : ∀ t ∈ HasT.T0, a ≠ t.1) : noT H a = H a := by
  unfold noT
  rw [if_neg fun m => ?_]
  obtain ⟨t, mt, e⟩ := List.mem_map.mp m
  exact h t mt e.symm
theorem noT_at {H : Hp} {t : Addr × Str} (m : t ∈ HasT.T0) : noT H t.1 = none := by
  unfold noT
  rw [if_pos (List.mem_map_of_mem m)]
theorem noT_none {H : Hp} {a : Addr} (h : H a = none) : noT H a = none := by
  unfold noT
  split
  · rfl
  · exact h
theorem tabs_ne {H : Hp} {a : Addr} {o : HO} (h : LamX.Tabs HasT.T0 H) (e : H a = some o) (n : ∀ ps, o ≠ .tbl ps) : ∀ t ∈ HasT.T0, a ≠ t.1 := fun t m z => by
  obtain ⟨ps, h1, _⟩ := h t m
  rw [← z, e] at h1
  exact n _ (Option.some.inj h1)
theorem noT_eq {H : Hp} {a : Addr} {o : HO} (h : LamX.Tabs HasT.T0 H) (e : H a = some o) (n : ∀ ps, o ≠ .tbl ps) : noT H a = some o := by
  rw [noT_ne (tabs_ne h e n), e]
/-- all but the tables is kept -/
def KeepX (S S' : Hp) : Prop := ∀ a o, S a = some o → (∀ ps, o ≠ .tbl ps) → S' a = some o
theorem seqLx {K : PySem.W.Frag} {H H' : Hp} {a : Addr} {xs : List V} (e : KeepX H H') (h : SqL K H a xs) : SqL K H' a xs := by
  rcases h with (h | ⟨o, h⟩) | h
  · exact .inl (.inl (e _ _ h fun ps z => by cases z))
  · exact .inl (.inr ⟨o, e _ _ h fun ps z => by cases z⟩)
  · exact .inr h
theorem seqTx {K : PySem.W.Frag} {H H' : Hp} {a : Addr} {xs : List V} (e : KeepX H H') (h : SqT K H a xs) : SqT K H' a xs := by
  rcases h with (h | ⟨o, h⟩) | h
  · exact .inl (.inl (e _ _ h fun ps z => by cases z))
  · exact .inl (.inr ⟨o, e _ _ h fun ps z => by cases z⟩)
  · exact .inr h
theorem diAt_tbl {o : HO} {ks : List Da} {xs : List V} (h : DiAt o ks xs) : ∀ ps, o ≠ .tbl ps := fun ps z => by
  subst z
  cases h
section
variable {K : PySem.W.Frag} {S S' : Hp}
mutual
theorem Rp.keepX (e : KeepX S S') : ∀ (d : Da) (v : V), Rp K S v d → Rp K S' v d
  | .non, _, h => by cases h; exact .non
  | .bl b, _, h => by cases h; exact .bl b
  | .int i, _, h => by cases h; exact .int i
  | .str x, _, h => by cases h; exact .str x
  | .raw v, _, h => by cases h; exact .raw v
  | .tup ds, _, h => by
    cases h with
    | tup hs ha => exact .tup (seqTx e hs) (Rps.keepX e ds _ ha)
  | .lst ds, _, h => by
    cases h with
    | lst hs ha => exact .lst (e _ _ hs fun ps z => by cases z) (Rps.keepX e ds _ ha)
  | .obj c ns ds, _, h => by
    cases h with
    | obj hs hl ha => exact .obj (e _ _ hs fun ps z => by cases z) hl (Rps.keepX e ds _ ha)
  | .dct ks ds, _, h => by
    cases h with
    | dct hs hd ha => exact .dct (e _ _ hs (diAt_tbl hd)) hd (Rps.keepX e ds _ ha)
  | .scr ns, _, h => by
    cases h with
    | scr hs => exact .scr (seqLx e hs)
theorem Rps.keepX (e : KeepX S S') : ∀ (ds : List Da) (vs : List V), Rps K S vs ds → Rps K S' vs ds
  | [], _, h => by cases h; exact .nil
  | d :: ds, _, h => by
    cases h with
    | cons h1 h2 => exact .cons (Rp.keepX e d _ h1) (Rps.keepX e ds _ h2)
end
theorem keepX_noT {H : Hp} (h : LamX.Tabs HasT.T0 H) : KeepX H (noT H) := fun a o e n => noT_eq h e n
theorem Dr.keepX {H H' : Hp} {p q : Addr} (d : Dr H p q) (k : KeepX H H') : Dr H' p q := by
  obtain ⟨cs, st, h1, h2, h⟩ := d
  exact ⟨cs, st, k _ _ h1 (fun ps z => by cases z), k _ _ h2 (fun ps z => by cases z), h⟩
end
theorem lst_tbl {xs : List V} : ∀ ps, HO.lst xs ≠ .tbl ps := fun ps z => by cases z
theorem lst_code {xs : List V} : ∀ c q, HO.lst xs ≠ LamX.CodeO c q := fun c q z => by
  have z' : HO.lst xs = HO.ext _ := z
  cases z'
theorem InvS.lst {b : Srx} {S H : Hp} {p : Addr} {xs : List V} {o : HO} (h : InvS b S H) (e : H p = some (.lst xs)) : LamX.Tabs HasT.T0 (upd H p o) := tabs_upd h.tb e lst_tbl lst_code
structure AtS (K : PySem.W.Frag) (b : Bs) (ρ : List Sl) (σ : L2.St) (S H : Hp) (ps : List (V × Sl)) (F : List Addr) : Prop where
  st : Step b.src b.S b.H S H
  iv : Inv0 b S H
  en : Ents K b S H (ps.map (fun x => some x.1) ++ σ) (ps.map Prod.snd ++ ρ) F
  fr : ∀ a, 0 < F.count a → F.count a ≤ 1 ∧ S a = none ∧ b.H a = none ∧ off b.src a
  nv : ∀ s ∈ ρ, s.isView = false
def At (K : PySem.W.Frag) (b : Bs) (ρ : List Sl) (σ : L2.St) (H : Hp) (ps : List (V × Sl)) : Prop := ∃ S F, AtS K b ρ σ S H ps F
section
variable {K : PySem.W.Frag} {b : Bs} {ρ : List Sl} {σ : L2.St} {S H S' H' : Hp} {ps : List (V × Sl)} {v : Option V} {s : Sl} {F f : List Addr}
theorem pos_mem {a : Addr} (h : a ∈ F) : 0 < F.count a := List.count_pos_iff.mpr h
theorem SlotOk.there (h : SlotOk K b S H v f s) : ∀ a ∈ f, ∃ u, H a = some u := by
  cases s with
  | no => obtain rfl := h; intro a m; cases m
  | val o => obtain ⟨x, _, r⟩ := h; exact r.there
  | view o => obtain ⟨rfl, _⟩ := h; intro a m; cases m
  | src => obtain ⟨rfl, _⟩ := h; intro a m; cases m
  | slf => obtain ⟨rfl, _⟩ := h; intro a m; cases m
theorem SlotOk.tr (h : SlotOk K b S H v f s) (ss : Same S S') (hf : ∀ a ∈ f, ∀ u, H a = some u → H' a = some u) (hv : s.isView = true → ∀ a, off b.src a → ∀ u, H a = some u → H' a = some u) : SlotOk K b S' H' v f s := by
  cases s with
  | no => exact h
  | src => exact h
  | slf => exact h
  | val o => obtain ⟨x, e, r⟩ := h; exact ⟨x, e, r.tr ss hf⟩
  | view o =>
    obtain ⟨e0, x, f', e, r, o⟩ := h
    exact ⟨e0, x, f', e, r.tr ss (fun a m u => hv rfl a (o a m) u), o⟩
theorem Ents.tr : ∀ {vs : List (Option V)} {ss : List Sl} {F : List Addr}, Ents K b S H vs ss F → Same S S' → (∀ a ∈ F, ∀ u, H a = some u → H' a = some u) → (∀ s ∈ ss, s.isView = true → ∀ a, off b.src a → ∀ u, H a = some u → H' a = some u) → Ents K b S' H' vs ss F
  | _, _, _, .nil, _, _, _ => .nil
  | _, _, _, .cons r t, e, h, hv => .cons (r.tr e (fun a m => h a (List.mem_append_left _ m)) (hv _ List.mem_cons_self)) (Ents.tr t e (fun a m => h a (List.mem_append_right _ m)) fun s m => hv s (List.mem_cons_of_mem _ m))
theorem Ents.there : ∀ {vs : List (Option V)} {ss : List Sl} {F : List Addr}, Ents K b S H vs ss F → ∀ a ∈ F, ∃ u, H a = some u
  | _, _, _, .nil, _, m => by cases m
  | _, _, _, .cons r t, a, m => by
    rcases List.mem_append.mp m with m | m
    · exact r.there a m
    · exact Ents.there t a m
theorem Ents.len : ∀ {vs : List (Option V)} {ss : List Sl} {F : List Addr}, Ents K b S H vs ss F → vs.length = ss.length
  | _, _, _, .nil => rfl
  | _, _, _, .cons _ t => by rw [List.length_cons, List.length_cons, Ents.len t]
/-- an entry, and what stands in its place -/
theorem Ents.get : ∀ {vs : List (Option V)} {ss : List Sl} {F : List Addr} {i : Nat} {s : Sl}, Ents K b S H vs ss F → ss[i]? = some s →
    ∃ v f, vs[i]? = some v ∧ SlotOk K b S H v f s ∧ (∀ a, f.count a ≤ F.count a) ∧
      ∀ S' H' v' s' f', Same S S' → (∀ a, f.count a < F.count a → ∀ u, H a = some u → H' a = some u) → (∀ t ∈ ss, t.isView = true → ∀ a, off b.src a → ∀ u, H a = some u → H' a = some u) → SlotOk K b S' H' v' f' s' →
        ∃ F', Ents K b S' H' (vs.set i v') (ss.set i s') F' ∧ ∀ a, F'.count a + f.count a = F.count a + f'.count a
  | _, _, _, _, _, .nil, h => by simp at h
  | _, _, _, 0, _, .cons (f := f) (F := F) r t, h => by
    obtain rfl := Option.some.inj h
    refine ⟨_, f, rfl, r, fun a => by rw [List.count_append]; omega, fun S' H' v' s' f' e k kv r' => ⟨f' ++ F, .cons r' (t.tr e (fun a m => k a ?_) fun s m => kv s (List.mem_cons_of_mem _ m)), fun a => by rw [List.count_append, List.count_append]; omega⟩⟩
    rw [List.count_append]
    have := pos_mem m
    omega
  | _, _, _, i + 1, _, .cons (f := f0) r t, h => by
    obtain ⟨v, f, e, q, m, k⟩ := Ents.get (i := i) t (by simpa using h)
    refine ⟨v, f, by simpa using e, q, fun a => by rw [List.count_append]; have := m a; omega, fun S' H' v' s' f' e h kv r' => ?_⟩
    obtain ⟨F', h1, h2⟩ := k S' H' v' s' f' e (fun a l => h a (by rw [List.count_append]; omega)) (fun t m => kv t (List.mem_cons_of_mem _ m)) r'
    refine ⟨f0 ++ F', .cons (r.tr e (fun a ma => h a ?_) (kv _ List.mem_cons_self)) h1, fun a => by rw [List.count_append, List.count_append]; have := h2 a; omega⟩
    rw [List.count_append]
    have := pos_mem ma
    have := m a
    omega
theorem AtS.sh (h : AtS K b ρ σ S H ps F) : Same S H := h.st.sh
theorem AtS.step (h : AtS K b ρ σ S H ps F) (e : Step b.src S H S' H') (i : Inv0 b S' H') : AtS K b ρ σ S' H' ps F := by
  refine ⟨h.st.trans e i.off, i, h.en.tr e.ss (fun a m u => e.hh a u (h.fr a (pos_mem m)).2.2.2) (fun s _ _ a o u => e.hh a u o), fun a m => ?_, h.nv⟩
  obtain ⟨h1, h2, h3, h4⟩ := h.fr a m
  refine ⟨h1, ?_, h3, h4⟩
  cases z : S' a with
  | none => rfl
  | some o =>
    rcases e.gr a o z with q | q
    · rw [h2] at q; cases q
    · obtain ⟨u, hu⟩ := h.en.there a (List.count_pos_iff.mp m)
      rw [hu] at q; cases q
theorem AtS.less {F' : List Addr} {qs : List (V × Sl)} (h : AtS K b ρ σ S H ps F) (e : Ents K b S H (qs.map (fun x => some x.1) ++ σ) (qs.map Prod.snd ++ ρ) F') (l : ∀ a, F'.count a ≤ F.count a) : AtS K b ρ σ S H qs F' :=
  ⟨h.st, h.iv, e, fun a m => by
    have := l a
    obtain ⟨h1, h2⟩ := h.fr a (by omega)
    exact ⟨by omega, h2⟩, h.nv⟩
theorem AtS.hd {x : V × Sl} (h : AtS K b ρ σ S H (x :: ps) F) : ∃ f F', F = f ++ F' ∧ SlotOk K b S H (some x.1) f x.2 ∧ AtS K b ρ σ S H ps F' := by
  cases id h.en with
  | cons r t => exact ⟨_, _, rfl, r, h.less t fun a => by rw [List.count_append]; omega⟩
theorem AtS.push (h : AtS K b ρ σ S H ps F) {x : V} {s : Sl} (r : SlotOk K b S H (some x) [] s) : AtS K b ρ σ S H ((x, s) :: ps) F := ⟨h.st, h.iv, .cons (f := []) r h.en, h.fr, h.nv⟩
theorem AtS.pushD (h : AtS K b ρ σ S H ps F) {x : V} {d : Da} (r : Rp K S x d) : AtS K b ρ σ S H ((x, .dat d) :: ps) F := h.push ⟨x, rfl, .fz r⟩
/-- a new thing that never changes -/
theorem AtS.new (h : AtS K b ρ σ S H ps F) {p : Addr} {o : HO} (np : H p = none) : AtS K b ρ σ (upd S p o) (upd H p o) ps F := by
  have sp : S p = none := h.sh.free np
  refine h.step ⟨same_new sp, fun c u e => ?_, fun c u _ e => ?_, fun c u e => ?_⟩ ⟨fun p' q' e => ?_, tabs_new h.iv.tb np, h.iv.tsNew np⟩
  · by_cases hc : c = p
    · subst hc
      rw [upd_same] at e ⊢
      exact e
    · rw [upd_ne hc] at e ⊢
      exact h.sh c u e
  · rw [upd_ne (ne_of_none e np)]
    exact e
  · by_cases hc : c = p
    · subst hc; exact .inr np
    · rw [upd_ne hc] at e
      exact .inl e
  · obtain ⟨d, h1, h2⟩ := h.iv.dr p' q' e
    have a := d.apart np
    refine ⟨d.new np, ?_, ?_⟩
    · rw [upd_ne a.1.symm]; exact h1
    · rw [upd_ne a.2.symm]; exact h2
theorem AtS.newH (h : AtS K b ρ σ S H ps F) {p : Addr} {o : HO} (np : H p = none) : AtS K b ρ σ S (upd H p o) ps F := by
  refine h.step ⟨Same.refl S, fun c u e => ?_, fun c u _ e => ?_, fun c u e => .inl e⟩ ⟨fun p' q' e => ?_, tabs_new h.iv.tb np, h.iv.ts⟩
  · rw [upd_ne (ne_of_none (h.sh c u e) np)]
    exact h.sh c u e
  · rw [upd_ne (ne_of_none e np)]
    exact e
  · obtain ⟨d, h1, h2⟩ := h.iv.dr p' q' e
    exact ⟨d.new np, h1, h2⟩
theorem AtS.freeB (h : AtS K b ρ σ S H ps F) {p : Addr} (np : H p = none) (f : off b.src p) : b.H p = none := by
  cases e : b.H p with
  | none => rfl
  | some o =>
    rw [h.st.hh p o f e] at np
    cases np
theorem AtS.offNew (h : AtS K b ρ σ S H ps F) {p : Addr} (np : H p = none) : off b.src p := ⟨fun p' q' e => ((h.iv.dr p' q' e).1.apart np), fun t m z => by
  obtain ⟨ps, h1, _⟩ := h.iv.tb t m
  rw [z, h1] at np
  cases np⟩
theorem AtS.notIn (h : AtS K b ρ σ S H ps F) {p : Addr} (np : H p = none) : F.count p = 0 := by
  by_cases m : p ∈ F
  · obtain ⟨u, hu⟩ := h.en.there p m
    rw [hu] at np; cases np
  · exact List.count_eq_zero.mpr m
/-- a new list of one's own -/
theorem AtS.pushO' {p : Addr} {xs : List V} {os : List Ow} {fs : List Addr} (h : AtS K b ρ σ S H ps F) (np : H p = none) (r : Okvs K S H xs os fs) (c : ∀ a, 0 < fs.count a → fs.count a + F.count a ≤ 1 ∧ S a = none ∧ b.H a = none ∧ off b.src a) : AtS K b ρ σ S (upd H p (.lst xs)) ((.ref p, .val (.ol os)) :: ps) (p :: fs ++ F) := by
  have hn := h.newH (o := .lst xs) np
  have keep : ∀ a ∈ fs, ∀ u, H a = some u → upd H p (.lst xs) a = some u := fun a m u e => by rw [upd_ne (ne_of_none e np)]; exact e
  refine ⟨hn.st, hn.iv, .cons (f := p :: fs) ⟨_, rfl, .ol upd_same (r.tr (Same.refl S) keep)⟩ hn.en, fun a m => ?_, h.nv⟩
  rw [List.cons_append, List.count_cons, List.count_append] at m ⊢
  have z := h.notIn np
  have zf : fs.count p = 0 := by
    by_cases m : p ∈ fs
    · obtain ⟨u, hu⟩ := r.there p m
      rw [hu] at np; cases np
    · exact List.count_eq_zero.mpr m
  by_cases e : p = a
  · subst e
    refine ⟨?_, h.sh.free np, h.freeB np (h.offNew np), h.offNew np⟩
    rw [if_pos (beq_self_eq_true _)]
    omega
  · rw [if_neg (by simpa using e)] at m ⊢
    by_cases hf : 0 < fs.count a
    · obtain ⟨h1, h2⟩ := c a hf
      exact ⟨by omega, h2⟩
    · obtain ⟨h1, h2⟩ := h.fr a (by omega)
      exact ⟨by omega, h2⟩
theorem AtS.pushF {p : Addr} {xs : List V} {ds : List Da} (h : AtS K b ρ σ S H ps F) (np : H p = none) (r : Rps K S xs ds) : AtS K b ρ σ S (upd H p (.lst xs)) ((.ref p, .fresh ds) :: ps) (p :: F) :=
  h.pushO' np (Okvs.of r) fun a m => by rw [List.count_nil] at m; omega
end
end Ge

set_option maxHeartbeats 400000
namespace Ge
open PySem PySem.Spec PyProof.Rows L2 Sd
variable [HasT]
section
variable {K : PySem.W.Frag} {b : Bs} {ρ : List Sl} {σ : L2.St} {S H S' H' : Hp} {ps : List (V × Sl)} {v : V} {s : Sl} {F f : List Addr} {d : Da}
/-! ### what waits -/
theorem At.drop {x : V × Sl} (h : At K b ρ σ H (x :: ps)) : At K b ρ σ H ps := by
  obtain ⟨S, F, h⟩ := h
  obtain ⟨f, F', _, _, h'⟩ := h.hd
  exact ⟨S, F', h'⟩
theorem At.drop2 {x y : V × Sl} (h : At K b ρ σ H (x :: y :: ps)) : At K b ρ σ H ps := h.drop.drop
theorem At.drops : ∀ {qs : List (V × Sl)}, At K b ρ σ H (qs ++ ps) → At K b ρ σ H ps
  | [], h => h
  | _ :: qs, h => At.drops (qs := qs) h.drop
theorem At.snd {x y : V × Sl} (h : At K b ρ σ H (x :: y :: ps)) : At K b ρ σ H (x :: ps) := by
  obtain ⟨S, F, h⟩ := h
  cases id h.en with
  | cons r t =>
    cases t with
    | cons r2 t => exact ⟨S, _, h.less (.cons r t) fun a => by simp only [List.count_append]; omega⟩
theorem At.swap {x y : V × Sl} (h : At K b ρ σ H (x :: y :: ps)) : At K b ρ σ H (y :: x :: ps) := by
  obtain ⟨S, F, h⟩ := h
  cases id h.en with
  | cons r t =>
    cases t with
    | cons r2 t => exact ⟨S, _, h.less (.cons r2 (.cons r t)) fun a => by simp only [List.count_append]; omega⟩
theorem Ents.mem : ∀ {vs : List (Option V)} {ss : List Sl} {F : List Addr} {ps : List (V × Sl)}, Ents K b S H (ps.map (fun x => some x.1) ++ vs) (ps.map Prod.snd ++ ss) F → ∀ x ∈ ps, ∃ f, SlotOk K b S H (some x.1) f x.2 ∧ ∀ a, f.count a ≤ F.count a
  | _, _, _, [], _, x, m => by cases m
  | _, _, _, y :: ps, e, x, m => by
    cases e with
    | cons r t =>
      rcases List.mem_cons.mp m with rfl | m
      · exact ⟨_, r, fun a => by rw [List.count_append]; omega⟩
      · obtain ⟨f, h1, h2⟩ := Ents.mem t x m
        exact ⟨f, h1, fun a => by rw [List.count_append]; have := h2 a; omega⟩
theorem AtS.mem (h : AtS K b ρ σ S H ps F) {x : V × Sl} (m : x ∈ ps) : ∃ f, SlotOk K b S H (some x.1) f x.2 ∧ ∀ a, f.count a ≤ F.count a := Ents.mem h.en x m
theorem At.pushD (h : At K b ρ σ H ps) {v : V} {d : Da} (r : ∀ S, Rp K S v d) : At K b ρ σ H ((v, .dat d) :: ps) := by
  obtain ⟨S, F, h⟩ := h
  exact ⟨S, F, h.pushD (r S)⟩
theorem At.int (h : At K b ρ σ H ps) (i : Int) : At K b ρ σ H ((.int i, .dat (.int i)) :: ps) := h.pushD fun _ => .int i
theorem At.bl (h : At K b ρ σ H ps) (c : Bool) : At K b ρ σ H ((.bl c, .dat (.bl c)) :: ps) := h.pushD fun _ => .bl c
theorem At.str (h : At K b ρ σ H ps) (x : Str) : At K b ρ σ H ((.str x, .dat (.str x)) :: ps) := h.pushD fun _ => .str x
theorem At.non (h : At K b ρ σ H ps) : At K b ρ σ H ((.non, .dat .non) :: ps) := h.pushD fun _ => .non
theorem AtS.rpD (h : AtS K b ρ σ S H ps F) (m : (v, .dat d) ∈ ps) : Rp K S v d := by
  obtain ⟨f, ⟨x, e, r⟩, _⟩ := h.mem m
  cases e
  cases r with
  | fz r => exact r
theorem At.rpD (h : At K b ρ σ H ((v, .dat d) :: ps)) : ∃ S, Rp K S v d := by
  obtain ⟨S, F, h⟩ := h
  exact ⟨S, h.rpD List.mem_cons_self⟩
theorem At.vInt {i : Int} (h : At K b ρ σ H ((v, .dat (.int i)) :: ps)) : v = .int i := by
  obtain ⟨S, r⟩ := h.rpD
  cases r; rfl
theorem At.vBl {i : Bool} (h : At K b ρ σ H ((v, .dat (.bl i)) :: ps)) : v = .bl i := by
  obtain ⟨S, r⟩ := h.rpD
  cases r; rfl
theorem At.vStr {i : Str} (h : At K b ρ σ H ((v, .dat (.str i)) :: ps)) : v = .str i := by
  obtain ⟨S, r⟩ := h.rpD
  cases r; rfl
theorem At.vNon (h : At K b ρ σ H ((v, .dat .non) :: ps)) : v = .non := by
  obtain ⟨S, r⟩ := h.rpD
  cases r; rfl
theorem At.vRaw {w : V} (h : At K b ρ σ H ((v, .dat (.raw w)) :: ps)) : v = w := by
  obtain ⟨S, r⟩ := h.rpD
  cases r; rfl
theorem At.src0 (a : At K b ρ σ H ((v, .src) :: ps)) : ∃ p q, b.src.pq = some (p, q) ∧ v = .ref p ∧ Dr H p q := by
  obtain ⟨S, F, a⟩ := a
  obtain ⟨f, ⟨_, p, q, e, ev⟩, _⟩ := a.mem List.mem_cons_self
  exact ⟨p, q, e, Option.some.inj ev, (a.iv.dr p q e).1⟩
/-- what a value is worth, whoever's it is, by the heap of now -/
def Sl.da : Sl → Option Da
  | .val o => some o.frz | .view o => some o.frz | _ => none
theorem Okv.rpH {o : Ow} (r : Okv K S H v o f) (e : Same S H) : Rp K H v o.frz := r.rp e fun _ _ _ h => h
theorem SlotOk.rpH (r : SlotOk K b S H (some v) f s) (e : Same S H) (hd : s.da = some d) : Rp K H v d := by
  cases s with
  | no => cases hd
  | src => cases hd
  | slf => cases hd
  | val o =>
    obtain ⟨x, ex, r⟩ := r
    cases ex
    cases hd
    exact r.rpH e
  | view o =>
    obtain ⟨_, x, f', ex, r, _⟩ := r
    cases ex
    cases hd
    exact r.rpH e
theorem AtS.rpH (h : AtS K b ρ σ S H ps F) (m : (v, s) ∈ ps) (hd : s.da = some d) : Rp K H v d := by
  obtain ⟨f, r, _⟩ := h.mem m
  exact r.rpH h.sh hd
theorem At.rpH (h : At K b ρ σ H ps) (m : (v, s) ∈ ps) (hd : s.da = some d) : Rp K H v d := by
  obtain ⟨S, F, h⟩ := h
  exact h.rpH m hd
/-- a list's items, all data -/
def Sl.lds : Sl → Option (List Da)
  | .val (.ol os) => allFz os | .view (.ol os) => allFz os | .val (.fz (.lst ds)) => some ds | .view (.fz (.lst ds)) => some ds | _ => none
def Sl.tds : Sl → Option (List Da)
  | .val (.fz (.tup ds)) => some ds | .view (.fz (.tup ds)) => some ds | _ => none
theorem lds_fresh (ds : List Da) : (Sl.fresh ds).lds = some ds := allFz_map ds
theorem SlotOk.seqL {ds : List Da} (r : SlotOk K b S H (some v) f s) (e : Same S H) (hd : s.lds = some ds) : ∃ a xs, v = .ref a ∧ H a = some (.lst xs) ∧ Rps K S xs ds := by
  have key : ∀ {x : V} {o : Ow} {g : List Addr}, Okv K S H x o g → (match o with | .ol os => allFz os | .fz (.lst ds) => some ds | _ => none) = some ds → ∃ a xs, x = .ref a ∧ H a = some (.lst xs) ∧ Rps K S xs ds := by
    intro x o g r q
    cases r with
    | ol h t => exact ⟨_, _, rfl, h, (t.fzs q).1⟩
    | od _ _ _ => cases q
    | fz r =>
      cases r with
      | lst hs ha => cases q; exact ⟨_, _, rfl, e _ _ hs, ha⟩
      | _ => cases q
  cases s with
  | no => cases hd
  | src => cases hd
  | slf => cases hd
  | val o =>
    obtain ⟨x, ex, r⟩ := r
    cases ex
    refine key r ?_
    cases o with
    | ol os => exact hd
    | od _ _ => cases hd
    | fz d => cases d <;> first | exact hd | cases hd
  | view o =>
    obtain ⟨_, x, f', ex, r, _⟩ := r
    cases ex
    refine key r ?_
    cases o with
    | ol os => exact hd
    | od _ _ => cases hd
    | fz d => cases d <;> first | exact hd | cases hd
theorem AtS.seqL {ds : List Da} (h : AtS K b ρ σ S H ps F) (m : (v, s) ∈ ps) (hd : s.lds = some ds) : ∃ a xs, v = .ref a ∧ H a = some (.lst xs) ∧ Rps K S xs ds := by
  obtain ⟨f, r, _⟩ := h.mem m
  exact r.seqL h.sh hd
theorem AtS.seqT {ds : List Da} (h : AtS K b ρ σ S H ps F) (m : (v, s) ∈ ps) (hd : s.tds = some ds) : ∃ a xs, v = .ref a ∧ SqT K H a xs ∧ Rps K S xs ds := by
  have key : ∀ {x : V} {g : List Addr}, Okv K S H x (.fz (.tup ds)) g → ∃ a xs, x = .ref a ∧ SqT K H a xs ∧ Rps K S xs ds := by
    intro x g r
    cases r with
    | fz r =>
      cases r with
      | tup hs ha => exact ⟨_, _, rfl, Ge.seqT h.sh hs, ha⟩
  obtain ⟨f, r, _⟩ := h.mem m
  cases s with
  | no => cases hd
  | src => cases hd
  | slf => cases hd
  | val o =>
    obtain ⟨x, ex, r⟩ := r
    cases ex
    cases o with
    | ol os => cases hd
    | od _ _ => cases hd
    | fz d => cases d <;> first | (cases hd; exact key r) | cases hd
  | view o =>
    obtain ⟨_, x, f', ex, r, _⟩ := r
    cases ex
    cases o with
    | ol os => cases hd
    | od _ _ => cases hd
    | fz d => cases d <;> first | (cases hd; exact key r) | cases hd
/-- a new value of data that rest in it -/
theorem At.newT (h : At K b ρ σ H ps) {p : Addr} {xs : List V} {ds : List Da} (np : H p = none) (r : ∀ S F, AtS K b ρ σ S H ps F → Rps K S xs ds) : At K b ρ σ (upd H p (.tup xs)) ((.ref p, .dat (.tup ds)) :: ps) := by
  obtain ⟨S, F, h⟩ := h
  exact ⟨_, F, (h.new (o := .tup xs) np).pushD (.tup (SqT.of upd_same) (Rps.same (same_new (h.sh.free np)) _ _ (r S F h)))⟩
/-! ### slots -/
def get : List Sl → Nat → Sl
  | [], _ => .no
  | s :: _, 0 => s
  | _ :: r, n + 1 => get r n
theorem get_some : ∀ {ρ : List Sl} {i : Nat}, get ρ i ≠ .no → ρ[i]? = some (get ρ i)
  | [], _, h => absurd rfl h
  | s :: _, 0, _ => rfl
  | _ :: r, n + 1, h => by
    rw [List.getElem?_cons_succ]
    exact get_some (ρ := r) h
theorem Ents.slot : ∀ {ps : List (V × Sl)} {vs : List (Option V)} {ss : List Sl} {F : List Addr} {i : Nat} {s : Sl}, Ents K b S H (ps.map (fun x => some x.1) ++ vs) (ps.map Prod.snd ++ ss) F → ss[i]? = some s →
    ∃ v f, vs[i]? = some v ∧ SlotOk K b S H v f s ∧ (∀ a, f.count a ≤ F.count a) ∧
      ∀ S' H' v' s' f', Same S S' → (∀ a, f.count a < F.count a → ∀ u, H a = some u → H' a = some u) → (∀ t ∈ ps.map Prod.snd ++ ss, t.isView = true → ∀ a, off b.src a → ∀ u, H a = some u → H' a = some u) → SlotOk K b S' H' v' f' s' →
        ∃ F', Ents K b S' H' (ps.map (fun x => some x.1) ++ vs.set i v') (ps.map Prod.snd ++ ss.set i s') F' ∧ ∀ a, F'.count a + f.count a = F.count a + f'.count a
  | [], _, _, _, _, _, e, h => Ents.get e h
  | p :: ps, _, _, _, i, _, e, h => by
    cases e with
    | cons r t =>
      rename_i f0 F0
      obtain ⟨v, f, e1, q, m, k⟩ := Ents.slot (i := i) t h
      refine ⟨v, f, e1, q, fun a => by rw [List.count_append]; have := m a; omega, fun S' H' v' s' f' e h hv r' => ?_⟩
      obtain ⟨F', h1, h2⟩ := k S' H' v' s' f' e (fun a l => h a (by rw [List.count_append]; omega)) (fun t m => hv t (List.mem_cons_of_mem _ m)) r'
      refine ⟨f0 ++ F', .cons (r.tr e (fun a ma => h a ?_) (hv _ List.mem_cons_self)) h1, fun a => by rw [List.count_append, List.count_append]; have := h2 a; omega⟩
      rw [List.count_append]
      have := pos_mem ma
      have := m a
      omega
theorem SlotOk.keepV (r : SlotOk K b S H (some v) f s) (h : ∀ a, 0 < f.count a → off b.src a) : ∀ o, s = .val o → SlotOk K b S H (some v) [] (.view o) := by
  rintro o rfl
  obtain ⟨x, e, r⟩ := r
  exact ⟨rfl, x, f, e, r, fun a m => h a (pos_mem m)⟩
/-- a value that waits is stored -/
theorem At.store {i : Nat} (h : At K b ρ σ H ((v, s) :: ps)) (hv : s.isView = false) : At K b (ρ.set i s) (σ.set i (some v)) H ps := by
  obtain ⟨S, F, h⟩ := h
  obtain ⟨f, F1, rfl, r, h1⟩ := h.hd
  have nv : ∀ t ∈ ρ.set i s, t.isView = false := fun t m => by
    rcases List.mem_or_eq_of_mem_set m with m | e
    · exact h.nv t m
    · rw [e]; exact hv
  cases e : ρ[i]? with
  | none =>
    have l : ρ.length ≤ i := List.getElem?_eq_none_iff.mp e
    have ls : σ.length = ρ.length := by
      have := h1.en.len
      simp only [List.length_append, List.length_map] at this
      omega
    rw [List.set_eq_of_length_le l, List.set_eq_of_length_le (by omega)]
    exact ⟨S, F1, h1⟩
  | some t =>
    obtain ⟨v0, f0, _, _, m0, k⟩ := h1.en.slot e
    obtain ⟨F', e', c⟩ := k S H (some v) s f (Same.refl S) (fun _ _ _ x => x) (fun _ _ _ _ _ _ x => x) r
    refine ⟨S, F', h.st, h.iv, e', fun a m => ?_, nv⟩
    have := c a
    have h2 := h.fr a
    rw [List.count_append] at h2
    obtain ⟨g1, g2⟩ := h2 (by omega)
    exact ⟨by omega, g2⟩
/-- slots forgotten, slots' values changed that are forgotten -/
theorem Ents.reslot : ∀ {ps : List (V × Sl)} {vs vs' : List (Option V)} {ss ss' : List Sl} {F : List Addr}, Ents K b S H (ps.map (fun x => some x.1) ++ vs) (ps.map Prod.snd ++ ss) F → ss'.length = ss.length → vs'.length = vs.length →
    (∀ (i : Nat) s, ss'[i]? = some s → s = .no ∨ (ss[i]? = some s ∧ vs'[i]? = vs[i]?)) → ∃ F', Ents K b S H (ps.map (fun x => some x.1) ++ vs') (ps.map Prod.snd ++ ss') F' ∧ ∀ a, F'.count a ≤ F.count a
  | [], [], vs', [], ss', _, e, l1, l2, _ => by
    rw [List.length_eq_zero_iff.mp l1, List.length_eq_zero_iff.mp l2]
    exact ⟨_, e, fun _ => Nat.le_refl _⟩
  | [], v :: vs, vs', s :: ss, ss', _, e, l1, l2, h => by
    cases ss' with
    | nil => cases l1
    | cons s' ss' =>
      cases vs' with
      | nil => cases l2
      | cons v' vs' =>
        cases e with
        | cons r t =>
          rename_i f F
          obtain ⟨F', h1, h2⟩ := Ents.reslot (ps := []) (vs' := vs') (ss' := ss') t (by simpa using l1) (by simpa using l2) fun i s e => by
            have := h (i + 1) s (by simpa using e)
            simpa using this
          rcases h 0 s' rfl with rfl | ⟨h3, h4⟩
          · exact ⟨[] ++ F', .cons (f := []) rfl h1, fun a => by rw [List.nil_append, List.count_append]; have := h2 a; omega⟩
          · have h3 : s = s' := by simpa using h3
            have h4 : v' = v := by simpa using h4
            subst h3
            subst h4
            exact ⟨f ++ F', .cons r h1, fun a => by rw [List.count_append, List.count_append]; have := h2 a; omega⟩
  | [], [], _, _ :: _, _, _, e, _, _, _ => by cases e
  | [], _ :: _, _, [], _, _, e, _, _, _ => by cases e
  | p :: ps, _, _, _, _, _, e, l1, l2, h => by
    cases e with
    | cons r t =>
      rename_i f F
      obtain ⟨F', h1, h2⟩ := Ents.reslot t l1 l2 h
      exact ⟨f ++ F', .cons r h1, fun a => by rw [List.count_append, List.count_append]; have := h2 a; omega⟩
theorem At.reslot {σ' : L2.St} {ρ' : List Sl} (h : At K b ρ σ H ps) (l1 : ρ'.length = ρ.length) (l2 : σ'.length = σ.length) (k : ∀ (i : Nat) s, ρ'[i]? = some s → s = .no ∨ (ρ[i]? = some s ∧ σ'[i]? = σ[i]?)) : At K b ρ' σ' H ps := by
  obtain ⟨S, F, h⟩ := h
  obtain ⟨F', e, c⟩ := h.en.reslot l1 l2 k
  refine ⟨S, F', h.st, h.iv, e, fun a m => ?_, fun s m => ?_⟩
  · have := c a
    obtain ⟨g1, g2⟩ := h.fr a (by omega)
    exact ⟨by omega, g2⟩
  · obtain ⟨i, hi⟩ := List.mem_iff_getElem?.mp m
    rcases k i s hi with rfl | ⟨q, _⟩
    · rfl
    · exact h.nv s (List.mem_of_getElem? q)
theorem At.len (h : At K b ρ σ H ps) : σ.length = ρ.length := by
  obtain ⟨S, F, h⟩ := h
  have := h.en.len
  simp only [List.length_append, List.length_map] at this
  omega
/-! ### left as it is -/
theorem AtS.freeze1 {o : Ow} (h : AtS K b ρ σ S H ((v, .val o) :: ps) F) : ∃ S' F', AtS K b ρ σ S' H ((v, .dat o.frz) :: ps) F' := by
  obtain ⟨f, F', rfl, ⟨x, ex, r⟩, h1⟩ := h.hd
  cases ex
  let T : Hp := fun a => if a ∈ f then H a else S a
  have inf : ∀ a ∈ f, S a = none ∧ b.H a = none ∧ off b.src a ∧ F'.count a = 0 := fun a m => by
    have := pos_mem m
    obtain ⟨g1, g2, g3, g4⟩ := h.fr a (by rw [List.count_append]; omega)
    rw [List.count_append] at g1
    exact ⟨g2, g3, g4, by omega⟩
  have ss : Same S T := fun a u e => by
    show (if a ∈ f then H a else S a) = _
    by_cases m : a ∈ f
    · rw [(inf a m).1] at e; cases e
    · rw [if_neg m]; exact e
  have sh : Same T H := fun a u e => by
    have e : (if a ∈ f then H a else S a) = some u := e
    by_cases m : a ∈ f
    · rw [if_pos m] at e; exact e
    · rw [if_neg m] at e; exact h.sh a u e
  have out : ∀ a, a ∉ f → S a = none → T a = none := fun a m e => by
    show (if a ∈ f then H a else S a) = _
    rw [if_neg m]; exact e
  have rT : Rp K T v o.frz := r.rp ss fun a m u e => by
    show (if a ∈ f then H a else S a) = _
    rw [if_pos m]; exact e
  have A : AtS K b ρ σ T H ps F' := by
    refine ⟨⟨h1.st.ss.trans ss, sh, h1.st.hh, fun a u e => ?_⟩, ⟨fun p q e => ?_, h1.iv.tb, fun t mt => out t.1 (fun m => (inf t.1 m).2.2.1.2 t mt rfl) (h1.iv.ts t mt)⟩, h1.en.tr ss (fun _ _ _ x => x) (fun _ _ _ _ _ _ x => x), fun a m => ?_, h1.nv⟩
    · by_cases m : a ∈ f
      · exact .inr (inf a m).2.1
      · have e : (if a ∈ f then H a else S a) = some u := e
        rw [if_neg m] at e
        exact h1.st.gr a u e
    · obtain ⟨dr, k1, k2⟩ := h1.iv.dr p q e
      exact ⟨dr, out p (fun m => ((inf p m).2.2.1.1 p q e).1 rfl) k1, out q (fun m => ((inf q m).2.2.1.1 p q e).2 rfl) k2⟩
    · obtain ⟨g1, g2, g3, g4⟩ := h1.fr a m
      exact ⟨g1, out a (fun x => by have := (inf a x).2.2.2; omega) g2, g3, g4⟩
  exact ⟨T, F', A.pushD rT⟩
theorem At.freeze1 {o : Ow} (h : At K b ρ σ H ((v, .val o) :: ps)) : At K b ρ σ H ((v, .dat o.frz) :: ps) := by
  obtain ⟨S, F, h⟩ := h
  obtain ⟨S', F', h⟩ := h.freeze1
  exact ⟨S', F', h⟩
/-- a slot's value taken out -/
theorem At.take {i : Nat} {o : Ow} (h : At K b ρ σ H ps) (e : get ρ i = .val o) : ∃ v, σ[i]? = some (some v) ∧ At K b (ρ.set i .no) σ H ((v, .val o) :: ps) := by
  obtain ⟨S, F, h⟩ := h
  have e0 : ρ[i]? = some (.val o) := by
    rw [get_some (by rw [e]; nofun), e]
  obtain ⟨v, f, ev, ⟨x, rfl, r⟩, m, k⟩ := h.en.slot e0
  obtain ⟨F', e', c⟩ := k S H (some x) .no [] (Same.refl S) (fun _ _ _ x => x) (fun _ _ _ _ _ _ x => x) rfl
  have es : σ.set i (some x) = σ := List.ext_getElem? fun j => by
    by_cases hj : i = j
    · subst hj
      rw [List.getElem?_set_self (List.getElem?_eq_some_iff.mp ev).1, ev]
    · rw [List.getElem?_set_ne hj]
  rw [es] at e'
  refine ⟨x, ev, S, f ++ F', h.st, h.iv, .cons ⟨x, rfl, r⟩ e', fun a ma => ?_, fun t mt => ?_⟩
  · have c := c a
    rw [List.count_nil] at c
    rw [List.count_append] at ma ⊢
    obtain ⟨g1, g2⟩ := h.fr a (by omega)
    exact ⟨by omega, g2⟩
  · rcases List.mem_or_eq_of_mem_set mt with mt | e
    · exact h.nv t mt
    · rw [e]; rfl
theorem set_back {i : Nat} {v : V} (ev : σ[i]? = some (some v)) : σ.set i (some v) = σ := List.ext_getElem? fun j => by
  by_cases hj : i = j
  · subst hj
    rw [List.getElem?_set_self (List.getElem?_eq_some_iff.mp ev).1, ev]
  · rw [List.getElem?_set_ne hj]
def frzSl : Sl → Sl
  | .val o => .dat o.frz | s => s
theorem At.freeze (i : Nat) (h : At K b ρ σ H ps) : At K b (ρ.set i (frzSl (get ρ i))) σ H ps := by
  cases e : get ρ i with
  | val o =>
    obtain ⟨v, ev, h1⟩ := h.take e
    have h2 := h1.freeze1.store (i := i) rfl
    rw [set_back ev, List.set_set] at h2
    exact h2
  | no =>
    refine h.reslot (by rw [List.length_set]) rfl fun j s q => ?_
    by_cases hj : i = j
    · subst hj
      by_cases l : i < ρ.length
      · rw [List.getElem?_set_self l] at q
        exact .inl (Option.some.inj q).symm
      · rw [List.getElem?_eq_none (by rw [List.length_set]; omega)] at q; cases q
    · rw [List.getElem?_set_ne hj] at q
      exact .inr ⟨q, rfl⟩
  | view o =>
    have : ρ.set i (.view o) = ρ := List.ext_getElem? fun j => by
      by_cases hj : i = j
      · subst hj
        have e0 := get_some (ρ := ρ) (i := i) (by rw [e]; nofun)
        rw [List.getElem?_set_self (List.getElem?_eq_some_iff.mp e0).1, e0, e]
      · rw [List.getElem?_set_ne hj]
    show At K b (ρ.set i (.view o)) σ H ps
    rw [this]; exact h
  | src =>
    have : ρ.set i .src = ρ := List.ext_getElem? fun j => by
      by_cases hj : i = j
      · subst hj
        have e0 := get_some (ρ := ρ) (i := i) (by rw [e]; nofun)
        rw [List.getElem?_set_self (List.getElem?_eq_some_iff.mp e0).1, e0, e]
      · rw [List.getElem?_set_ne hj]
    show At K b (ρ.set i .src) σ H ps
    rw [this]; exact h
  | slf =>
    have : ρ.set i .slf = ρ := List.ext_getElem? fun j => by
      by_cases hj : i = j
      · subst hj
        have e0 := get_some (ρ := ρ) (i := i) (by rw [e]; nofun)
        rw [List.getElem?_set_self (List.getElem?_eq_some_iff.mp e0).1, e0, e]
      · rw [List.getElem?_set_ne hj]
    show At K b (ρ.set i .slf) σ H ps
    rw [this]; exact h
end
end Ge

set_option maxHeartbeats 400000
namespace Ge
open PySem PySem.Spec PyProof.Rows L2 Sd
variable [HasT]
/-! ### what a piece of syntax comes to -/
abbrev DE := List Sl → G Sl
abbrev DB := List Sl → G Bool
abbrev DA := List Sl → G (List Sl)
abbrev DO := List Sl → G (Option Int)
inductive Out where
  | nx (ρ : List Sl) | rt (s : Sl) | bk (ρ : List Sl) | ct (ρ : List Sl)
abbrev DS := List Sl → G Out
/-- an error on its way -/
def Thr (K : PySem.W.Frag) (b : Bs) (W : WX) (ps : List (V × Sl)) (e : Exn) : Prop := ∀ ρ σ H dx, At K b ρ σ H ps → H dx = some (.xd e.fs) → W (.ref e.c) (some dx) σ H
/-- nothing that waits is another's -/
def NV (ps : List (V × Sl)) : Prop := ∀ x ∈ ps, x.2.isView = false
section
/- c: a list may grow while it runs: nothing of another's may wait meanwhile -/
variable (K : PySem.W.Frag) (b : Bs) (W : WX) (c : Bool)
def EvG (te : TE) (d : DE) : Prop := ∀ ρ σ H ps (Q : VK), (c = true → NV ps) → At K b ρ σ H ps → (d ρ).good (fun s => ∀ H' v, At K b ρ σ H' ((v, s) :: ps) → Q v H') (Thr K b W ps) → te σ H Q
def EvGB (tt : TT) (d : DB) : Prop := ∀ ρ σ H ps (Q : Bool → Hp → Prop), (c = true → NV ps) → At K b ρ σ H ps → (d ρ).good (fun c => ∀ H', At K b ρ σ H' ps → Q c H') (Thr K b W ps) → tt σ H Q
def EvGA (ta : TA) (d : DA) : Prop := ∀ ρ σ H ps (Q : List V → Hp → Prop), (c = true → NV ps) → At K b ρ σ H ps → (d ρ).good (fun l => ∀ H' us, us.length = l.length → At K b ρ σ H' ((us.zip l).reverse ++ ps) → Q us H') (Thr K b W ps) → ta σ H Q
def EvGO (to : TO) (d : DO) : Prop := ∀ ρ σ H ps (Q : Option Int → Hp → Prop), (c = true → NV ps) → At K b ρ σ H ps → (d ρ).good (fun o => ∀ H', At K b ρ σ H' ps → Q o H') (Thr K b W ps) → to σ H Q
def ExG (t : TS) (d : DS) : Prop := ∀ ρ σ H ps (D : Ends), NV ps → At K b ρ σ H ps → (d ρ).good (fun o => match o with
  | .nx ρ' => ∀ σ' H', At K b ρ' σ' H' ps → D.nx σ' H'
  | .rt s => ∀ ρ' σ' H' v, At K b ρ' σ' H' ((v, s) :: ps) → D.rt v H'
  | .bk ρ' => ∀ σ' H', At K b ρ' σ' H' ps → D.bk σ' H'
  | .ct ρ' => ∀ σ' H', At K b ρ' σ' H' ps → D.ct σ' H') (Thr K b W ps) → t D σ H
end
theorem Thr.drops {K : PySem.W.Frag} {b : Bs} {W : WX} {qs ps : List (V × Sl)} {e : Exn} (h : Thr K b W ps e) : Thr K b W (qs ++ ps) e := fun ρ σ H dx a => h ρ σ H dx a.drops
theorem Thr.drop {K : PySem.W.Frag} {b : Bs} {W : WX} {x : V × Sl} {ps : List (V × Sl)} {e : Exn} (h : Thr K b W ps e) : Thr K b W (x :: ps) e := fun ρ σ H dx a => h ρ σ H dx a.drop
/-- so many values, always -/
def LenIs (n : Nat) (d : DA) : Prop := ∀ ρ N E, (d ρ).good N E → (d ρ).good (fun l => l.length = n ∧ N l) E
structure PD (K : PySem.W.Frag) (X : Cx) (W : WX) (c : Bool) (e : Expr) (te : TE) (d : DE) : Prop where
  pe : PE X e te
  ev : ∀ b, EvG K b W c te d
structure PDT (K : PySem.W.Frag) (X : Cx) (W : WX) (c : Bool) (e : Expr) (tt : TT) (d : DB) : Prop where
  pt : PT X e tt
  ev : ∀ b, EvGB K b W c tt d
structure PDW (K : PySem.W.Frag) (X : Cx) (W : WX) (c : Bool) (e : Expr) (tt : TT) (d : DB) : Prop where
  pw : PW X e tt
  ev : ∀ b, EvGB K b W c tt d
structure PDA (K : PySem.W.Frag) (X : Cx) (W : WX) (c : Bool) (es : List Expr) (ta : TA) (d : DA) : Prop where
  pa : PA X es ta
  ev : ∀ b, EvGA K b W c ta d
  ln : LenIs es.length d
structure PDO (K : PySem.W.Frag) (X : Cx) (W : WX) (c : Bool) (e : Option Expr) (to : TO) (d : DO) : Prop where
  po : PO X e to
  ev : ∀ b, EvGO K b W c to d
structure PDS (K : PySem.W.Frag) (X : Cx) (W : WX) (st : Stmt) (t : TS) (d : DS) : Prop where
  ps : PS X st t
  ev : ∀ b, ExG K b W t d
structure PDSs (K : PySem.W.Frag) (X : Cx) (W : WX) (st : List Stmt) (t : TS) (d : DS) : Prop where
  ps : PSs X st t
  ev : ∀ b, ExG K b W t d
/-! ### names, constants -/
def rd : Sl → G Sl
  | .val (.fz d) => .pure (.dat d) | .val o => .pure (.view o) | .src => .pure .src | _ => .fail
def dVar (i : Nat) : DE := fun ρ => rd (get ρ i)
def dC (d : Da) : DE := fun _ => .pure (.dat d)
/-- a call of an operation on values -/
abbrev Op2 := Sl → Sl → Option Sl
def dOp (f : Op2) (a c : DE) : DE := fun ρ => (a ρ).bind fun x => (c ρ).bind fun y => optG (f x y)
/-- .. where the second one makes lists -/
def dOpC (f : Op2) (a c : DE) : DE := fun ρ => (a ρ).bind fun x => if x.isView = true then .fail else (c ρ).bind fun y => optG (f x y)
def dUn (f : Sl → Option Sl) (a : DE) : DE := fun ρ => (a ρ).bind fun x => optG (f x)
def dNil : DA := fun _ => .pure []
def dCons (a : DE) (r : DA) : DA := fun ρ => (a ρ).bind fun x => (r ρ).bind fun l => .pure (x :: l)
def dConsC (a : DE) (r : DA) : DA := fun ρ => (a ρ).bind fun x => if x.isView = true then .fail else (r ρ).bind fun l => .pure (x :: l)
def dCB (f : List Sl → Option Sl) (a : DA) : DE := fun ρ => (a ρ).bind fun l => optG (f l)
def boolG : Sl → G Bool
  | .val (.fz (.bl c)) => .pure c | _ => .fail
def dTest (a : DE) : DB := fun ρ => (a ρ).bind boolG
def dAnd (a c : DB) : DB := fun ρ => (a ρ).bind fun x => if x = true then c ρ else .pure false
def dOr (a c : DB) : DB := fun ρ => (a ρ).bind fun x => if x = true then .pure true else c ρ
def dNot (a : DB) : DB := fun ρ => (a ρ).bind fun x => .pure (!x)
def dIf (t : DB) (a c : DE) : DE := fun ρ => (t ρ).bind fun x => if x = true then a ρ else c ρ
def dAndV (a c : DE) : DE := fun ρ => (a ρ).bind fun x => (boolG x).bind fun x => if x = true then c ρ else .pure (.dat (.bl false))
def dOrV (a c : DE) : DE := fun ρ => (a ρ).bind fun x => (boolG x).bind fun x => if x = true then .pure (.dat (.bl true)) else c ρ
def dNotV (a : DE) : DE := fun ρ => (a ρ).bind fun x => (boolG x).bind fun x => .pure (.dat (.bl (!x)))
def dChain (f g : Op2) (a c e : DE) : DE := fun ρ => (a ρ).bind fun x => (c ρ).bind fun y => (optG (f x y)).bind fun z => (boolG z).bind fun z =>
  if z = true then (e ρ).bind fun u => optG (g y u) else .pure (.dat (.bl false))
/-- the value as data: a list of one's own is left as it is -/
def Sl.out : Sl → Option Da
  | .val o => some o.frz | _ => none
def small (n : Nat) : Bool := decide (n ≤ 1000000)
/-- the things of one's own that a display holds -/
def ows : List Sl → Option (List Ow)
  | [] => some []
  | .val o :: r => match ows r with | some os => some (o :: os) | none => none
  | _ :: _ => none
def dTup (a : DA) : DE := fun ρ => (a ρ).bind fun l => optG (match ows l with | some os => if small os.length then some (.dat (.tup (frzs os))) else none | none => none)
def dLst (a : DA) : DE := fun ρ => (a ρ).bind fun l => optG (match ows l with | some os => if small os.length then some (.val (.ol os)) else none | none => none)
def Op2Ok (K : PySem.W.Frag) (r : R2) (f : Op2) : Prop := ∀ b s1 s2 s, f s1 s2 = some s → ∀ ρ σ H ps (Q : VK) x y, At K b ρ σ H ((y, s2) :: (x, s1) :: ps) → (∀ H' z, At K b ρ σ H' ((z, s) :: ps) → Q z H') → r x y H Q
def Op1Ok (K : PySem.W.Frag) (r : V → Hp → VK → Prop) (f : Sl → Option Sl) : Prop := ∀ b s1 s, f s1 = some s → ∀ ρ σ H ps (Q : VK) x, At K b ρ σ H ((x, s1) :: ps) → (∀ H' z, At K b ρ σ H' ((z, s) :: ps) → Q z H') → r x H Q
def OpCOk (K : PySem.W.Frag) (r : List V → Hp → VK → Prop) (f : List Sl → Option Sl) : Prop := ∀ b l s, f l = some s → ∀ ρ σ H ps (Q : VK) us, us.length = l.length → At K b ρ σ H ((us.zip l).reverse ++ ps) → (∀ H' z, At K b ρ σ H' ((z, s) :: ps) → Q z H') → r us H Q
section
variable {K : PySem.W.Frag} {b : Bs} {ρ : List Sl} {σ : L2.St} {S H S' H' : Hp} {ps : List (V × Sl)} {v : V} {s : Sl} {F f : List Addr} {d : Da} {X : Cx} {W : WX} {c c1 c2 c3 : Bool}
  {e e1 e2 e3 : Expr} {es : List Expr} {te ta tb tc : TE} {tt tu : TT} {tx : TA} {da db dc : DE} {dt du : DB} {dx : DA} {pos : Pos}
theorem eg_var (i : Nat) : EvG K b W false (tVar i) (dVar i) := fun ρ σ H ps Q nv a h => by
  unfold dVar at h
  cases e : get ρ i with
  | no => rw [e] at h; cases h
  | slf => rw [e] at h; cases h
  | view o => rw [e] at h; cases h
  | src =>
    rw [e] at h
    obtain ⟨S, F, A⟩ := a
    obtain ⟨w, f, ew, r, _, _⟩ := A.en.slot (get_some (by rw [e]; nofun))
    rw [e] at r
    obtain ⟨rfl, p, q, e1, rfl⟩ := r
    exact ⟨_, ew, h H _ ⟨S, F, A.push ⟨rfl, p, q, e1, rfl⟩⟩⟩
  | val o =>
    rw [e] at h
    obtain ⟨S, F, A⟩ := a
    obtain ⟨w, f, ew, r, m, _⟩ := A.en.slot (get_some (by rw [e]; nofun))
    rw [e] at r
    obtain ⟨x, rfl, r⟩ := r
    refine ⟨x, ew, ?_⟩
    have off' : ∀ a ∈ f, off b.src a := fun a ma => by
      have := pos_mem ma
      have := m a
      exact (A.fr a (by omega)).2.2.2
    cases o with
    | fz d =>
      cases r with
      | fz r => exact h H _ ⟨S, F, A.pushD r⟩
    | ol os => exact h H _ ⟨S, F, A.push ⟨rfl, x, f, rfl, r, off'⟩⟩
    | od ks ds => exact h H _ ⟨S, F, A.push ⟨rfl, x, f, rfl, r, off'⟩⟩
theorem eg_c {v : V} {d : Da} (r : ∀ S, Rp K S v d) : EvG K b W false (tC v) (dC d) := fun ρ σ H ps Q nv a h => h H v (a.pushD r)
theorem pd_var {i : Nat} (p : PE X e (tVar i)) : PD K X W false e (tVar i) (dVar i) := ⟨p, fun _ => eg_var i⟩
theorem pd_int {i j} : PD K X W false (.Constant (.int i) j pos) (tC (.int i)) (dC (.int i)) := ⟨pe_int, fun _ => eg_c fun _ => .int i⟩
theorem pd_bl {c j} : PD K X W false (.Constant (.bool c) j pos) (tC (.bl c)) (dC (.bl c)) := ⟨pe_bl, fun _ => eg_c fun _ => .bl c⟩
theorem pd_non {j} : PD K X W false (.Constant .none j pos) (tC .non) (dC .non) := ⟨pe_non, fun _ => eg_c fun _ => .non⟩
theorem pd_str {x j} : PD K X W false (.Constant (.str x) j pos) (tC (.str x)) (dC (.str x)) := ⟨pe_str, fun _ => eg_c fun _ => .str x⟩
theorem pd_raw {v : V} (p : PE X e (tC v)) : PD K X W false e (tC v) (dC (.raw v)) := ⟨p, fun _ => eg_c fun _ => .raw v⟩
theorem pd_cint {i : Int} (p : PE X e (tC (.int i))) : PD K X W false e (tC (.int i)) (dC (.int i)) := ⟨p, fun _ => eg_c fun _ => .int i⟩
theorem pd_cstr {x : Str} (p : PE X e (tC (.str x))) : PD K X W false e (tC (.str x)) (dC (.str x)) := ⟨p, fun _ => eg_c fun _ => .str x⟩
/-! ### operations -/
theorem eg_op {r : R2} {f : Op2} (o : Op2Ok K r f) (h1 : EvG K b W c ta da) (h2 : EvG K b W false tb db) : EvG K b W c (tOp r ta tb) (dOp f da db) := fun ρ σ H ps Q nv a h => by
  refine h1 ρ σ H ps _ nv a (G.good_mono (fun s k H1 x a1 => ?_) (fun _ h => h) (G.good_bind.mp h))
  refine h2 ρ σ H1 _ _ nofun a1 (G.good_mono (fun s2 k2 H2 y a2 => ?_) (fun _ h => h.drop) (G.good_bind.mp k))
  obtain ⟨z, ez, q⟩ := optG_some k2
  exact o b _ _ z ez ρ σ H2 ps Q x y a2 q
theorem NV.cons {x : V × Sl} (h : NV ps) (e : x.2.isView = false) : NV (x :: ps) := fun y m => by
  rcases List.mem_cons.mp m with rfl | m
  · exact e
  · exact h y m
theorem eg_opC {r : R2} {f : Op2} (o : Op2Ok K r f) (h1 : EvG K b W true ta da) (h2 : EvG K b W true tb db) : EvG K b W true (tOp r ta tb) (dOpC f da db) := fun ρ σ H ps Q nv a h => by
  refine h1 ρ σ H ps _ nv a (G.good_mono (fun s k H1 x a1 => ?_) (fun _ h => h) (G.good_bind.mp h))
  cases hv : s.isView with
  | true => rw [if_pos hv] at k; cases k
  | false =>
    rw [if_neg (by rw [hv]; exact Bool.false_ne_true)] at k
    refine h2 ρ σ H1 _ _ (fun _ => (nv rfl).cons hv) a1 (G.good_mono (fun s2 k2 H2 y a2 => ?_) (fun _ h => h.drop) (G.good_bind.mp k))
    obtain ⟨z, ez, q⟩ := optG_some k2
    exact o b _ _ z ez ρ σ H2 ps Q x y a2 q
theorem PD.up (h : PD K X W false e te da) : PD K X W c e te da := ⟨h.pe, fun b ρ σ H ps Q _ a q => h.ev b ρ σ H ps Q nofun a q⟩
theorem PDT.up (h : PDT K X W false e tt dt) : PDT K X W c e tt dt := ⟨h.pt, fun b ρ σ H ps Q _ a q => h.ev b ρ σ H ps Q nofun a q⟩
theorem PDW.up (h : PDW K X W false e tt dt) : PDW K X W c e tt dt := ⟨h.pw, fun b ρ σ H ps Q _ a q => h.ev b ρ σ H ps Q nofun a q⟩
theorem PDA.up (h : PDA K X W false es tx dx) : PDA K X W c es tx dx := ⟨h.pa, fun b ρ σ H ps Q _ a q => h.ev b ρ σ H ps Q nofun a q, h.ln⟩
theorem eg_un {r : V → Hp → VK → Prop} {f : Sl → Option Sl} (o : Op1Ok K r f) (h1 : EvG K b W c ta da) : EvG K b W c (tUn r ta) (dUn f da) := fun ρ σ H ps Q nv a h => by
  refine h1 ρ σ H ps _ nv a (G.good_mono (fun s k H1 x a1 => ?_) (fun _ h => h) (G.good_bind.mp h))
  obtain ⟨z, ez, q⟩ := optG_some k
  exact o b _ z ez ρ σ H1 ps Q x a1 q
theorem pd_op {op : Operator} {r : R2} {f : Op2} (p : OpR X (binaryOp op) r) (o : Op2Ok K r f) (h1 : PD K X W c e1 ta da) (h2 : PD K X W false e2 tb db) : PD K X W c (.BinOp e1 op e2 pos) (tOp r ta tb) (dOp f da db) := ⟨pe_op p h1.pe h2.pe, fun b => eg_op o (h1.ev b) (h2.ev b)⟩
theorem pd_opC {op : Operator} {r : R2} {f : Op2} (p : OpR X (binaryOp op) r) (o : Op2Ok K r f) (h1 : PD K X W true e1 ta da) (h2 : PD K X W true e2 tb db) : PD K X W true (.BinOp e1 op e2 pos) (tOp r ta tb) (dOpC f da db) := ⟨pe_op p h1.pe h2.pe, fun b => eg_opC o (h1.ev b) (h2.ev b)⟩
theorem pd_cmpC {op : CmpOp} {r : R2} {f : Op2} (p : OpR X (compareOp op) r) (o : Op2Ok K r f) (h1 : PD K X W true e1 ta da) (h2 : PD K X W true e2 tb db) (hm : behindInMarks op e2 = false) : PD K X W true (.Compare e1 [op] [e2] pos) (tOp r ta tb) (dOpC f da db) := ⟨pe_cmpR p h1.pe h2.pe hm, fun b => eg_opC o (h1.ev b) (h2.ev b)⟩
theorem pd_un {op : UnaryOp} {r : V → Hp → VK → Prop} {f : Sl → Option Sl} (p : UnR X (unaryOp op) r) (o : Op1Ok K r f) (h1 : PD K X W c e1 ta da) : PD K X W c (.UnaryOp op e1 pos) (tUn r ta) (dUn f da) := ⟨pe_un p h1.pe, fun b => eg_un o (h1.ev b)⟩
theorem pd_cmp {op : CmpOp} {r : R2} {f : Op2} (p : OpR X (compareOp op) r) (o : Op2Ok K r f) (h1 : PD K X W c e1 ta da) (h2 : PD K X W false e2 tb db) (hm : behindInMarks op e2 = false) : PD K X W c (.Compare e1 [op] [e2] pos) (tOp r ta tb) (dOp f da db) := ⟨pe_cmpR p h1.pe h2.pe hm, fun b => eg_op o (h1.ev b) (h2.ev b)⟩
theorem pd_ix {r : R2} {f : Op2} (p : IxR X r) (o : Op2Ok K r f) (h1 : PD K X W c e1 ta da) (h2 : PD K X W false e2 tb db) (hs : PlainIx e2) : PD K X W c (.Subscript e1 e2 pos) (tOp r ta tb) (dOp f da db) := ⟨pe_ix p h1.pe h2.pe hs, fun b => eg_op o (h1.ev b) (h2.ev b)⟩
theorem eg_test (h1 : EvG K b W c ta da) : EvGB K b W c (tTest ta) (dTest da) := fun ρ σ H ps Q nv a h => by
  refine h1 ρ σ H ps _ nv a (G.good_mono (fun s k H1 x a1 => ?_) (fun _ h => h) (G.good_bind.mp h))
  unfold boolG at k
  split at k
  · obtain rfl := a1.vBl
    exact ⟨_, rfl, k H1 a1.drop⟩
  · cases k
theorem eg_testB (h1 : EvG K b W c ta da) : EvGB K b W c (tB ta) (dTest da) := fun ρ σ H ps Q nv a h => by
  refine h1 ρ σ H ps _ nv a (G.good_mono (fun s k H1 x a1 => ?_) (fun _ h => h) (G.good_bind.mp h))
  unfold boolG at k
  split at k
  · obtain rfl := a1.vBl
    exact ⟨_, rfl, k H1 a1.drop⟩
  · cases k
theorem eg_and (h1 : EvGB K b W c tt dt) (h2 : EvGB K b W c tu du) : EvGB K b W c (tAnd tt tu) (dAnd dt du) := fun ρ σ H ps Q nv a h => by
  refine h1 ρ σ H ps _ nv a (G.good_mono (fun c k H1 a1 => ?_) (fun _ h => h) (G.good_bind.mp h))
  cases c with
  | true => exact h2 ρ σ H1 ps Q nv a1 k
  | false => exact k H1 a1
theorem eg_or (h1 : EvGB K b W c tt dt) (h2 : EvGB K b W c tu du) : EvGB K b W c (tOr tt tu) (dOr dt du) := fun ρ σ H ps Q nv a h => by
  refine h1 ρ σ H ps _ nv a (G.good_mono (fun c k H1 a1 => ?_) (fun _ h => h) (G.good_bind.mp h))
  cases c with
  | true => exact k H1 a1
  | false => exact h2 ρ σ H1 ps Q nv a1 k
theorem eg_not (h1 : EvGB K b W c tt dt) : EvGB K b W c (tNot tt) (dNot dt) := fun ρ σ H ps Q nv a h => h1 ρ σ H ps _ nv a (G.good_mono (fun c k H1 a1 => k H1 a1) (fun _ h => h) (G.good_bind.mp h))
theorem pdt_cmp {op : CmpOp} {r : R2} {f : Op2} (p : OpR X (compareOp op) r) (o : Op2Ok K r f) (h1 : PD K X W c e1 ta da) (h2 : PD K X W false e2 tb db) (hm : behindInMarks op e2 = false) : PDT K X W c (.Compare e1 [op] [e2] pos) (tTest (tOp r ta tb)) (dTest (dOp f da db)) :=
  ⟨pt_cmpR p h1.pe h2.pe hm, fun b => eg_test (eg_op o (h1.ev b) (h2.ev b))⟩
theorem pdt_cmpC {op : CmpOp} {r : R2} {f : Op2} (p : OpR X (compareOp op) r) (o : Op2Ok K r f) (h1 : PD K X W true e1 ta da) (h2 : PD K X W true e2 tb db) (hm : behindInMarks op e2 = false) : PDT K X W true (.Compare e1 [op] [e2] pos) (tTest (tOp r ta tb)) (dTest (dOpC f da db)) :=
  ⟨pt_cmpR p h1.pe h2.pe hm, fun b => eg_test (eg_opC o (h1.ev b) (h2.ev b))⟩
theorem pdt_val (h : PD K X W c e ta da) (he : ∀ whole, isTrue e X.env whole = (do let v ← whole; standAt e.pos; holding [v] (truthy v)) := by intro _; rfl) : PDT K X W c e (tB ta) (dTest da) := ⟨pt_val h.pe he, fun b => eg_testB (h.ev b)⟩
theorem pdt_not (h : PDT K X W c e tt dt) : PDT K X W c (.UnaryOp .Not e pos) (tNot tt) (dNot dt) := ⟨pt_not h.pt, fun b => eg_not (h.ev b)⟩
theorem pdw_and1 (h : PDT K X W c e tt dt) : PDW K X W c (.BoolOp .And [e] pos) tt dt := ⟨pw_and1 h.pt, h.ev⟩
theorem pdw_or1 (h : PDT K X W c e tt dt) : PDW K X W c (.BoolOp .Or [e] pos) tt dt := ⟨pw_or1 h.pt, h.ev⟩
theorem pdw_and (h1 : PDT K X W c e1 tt dt) (h2 : PDW K X W c (.BoolOp .And (e2 :: es) pos) tu du) : PDW K X W c (.BoolOp .And (e1 :: e2 :: es) pos) (tAnd tt tu) (dAnd dt du) := ⟨pw_and h1.pt h2.pw, fun b => eg_and (h1.ev b) (h2.ev b)⟩
theorem pdw_or (h1 : PDT K X W c e1 tt dt) (h2 : PDW K X W c (.BoolOp .Or (e2 :: es) pos) tu du) : PDW K X W c (.BoolOp .Or (e1 :: e2 :: es) pos) (tOr tt tu) (dOr dt du) := ⟨pw_or h1.pt h2.pw, fun b => eg_or (h1.ev b) (h2.ev b)⟩
theorem pdt_w (h : PDW K X W c e tt dt) : PDT K X W c e tt dt := ⟨h.pw.pt, h.ev⟩
theorem eg_if (h : EvGB K b W c tt dt) (h1 : EvG K b W c ta da) (h2 : EvG K b W c tb db) : EvG K b W c (tIf tt ta tb) (dIf dt da db) := fun ρ σ H ps Q nv a q => by
  refine h ρ σ H ps _ nv a (G.good_mono (fun c k H1 a1 => ?_) (fun _ h => h) (G.good_bind.mp q))
  cases c with
  | true => exact h1 ρ σ H1 ps Q nv a1 k
  | false => exact h2 ρ σ H1 ps Q nv a1 k
theorem pd_if (h : PDT K X W c e tt dt) (h1 : PD K X W c e1 ta da) (h2 : PD K X W c e2 tb db) : PD K X W c (.IfExp e e1 e2 pos) (tIf tt ta tb) (dIf dt da db) := ⟨pe_ifExp h.pt h1.pe h2.pe, fun b => eg_if (h.ev b) (h1.ev b) (h2.ev b)⟩
theorem boolG_good {s : Sl} {Q : Bool → Prop} {E : Exn → Prop} (k : (boolG s).good Q E) : ∃ c, s = .dat (.bl c) ∧ Q c := by
  unfold boolG at k
  split at k
  · exact ⟨_, rfl, k⟩
  · cases k
theorem eg_andV (h1 : EvG K b W c ta da) (h2 : EvG K b W c tb db) : EvG K b W c (tAndV ta tb) (dAndV da db) := fun ρ σ H ps Q nv a q => by
  refine h1 ρ σ H ps _ nv a (G.good_mono (fun s k H1 x a1 => ?_) (fun _ h => h) (G.good_bind.mp q))
  obtain ⟨c, rfl, k⟩ := boolG_good (G.good_bind.mp k)
  obtain rfl := a1.vBl
  refine ⟨c, rfl, ?_⟩
  cases c with
  | true => exact h2 ρ σ H1 ps Q nv a1.drop k
  | false => exact k H1 _ a1
theorem eg_orV (h1 : EvG K b W c ta da) (h2 : EvG K b W c tb db) : EvG K b W c (tOrV ta tb) (dOrV da db) := fun ρ σ H ps Q nv a q => by
  refine h1 ρ σ H ps _ nv a (G.good_mono (fun s k H1 x a1 => ?_) (fun _ h => h) (G.good_bind.mp q))
  obtain ⟨c, rfl, k⟩ := boolG_good (G.good_bind.mp k)
  obtain rfl := a1.vBl
  refine ⟨c, rfl, ?_⟩
  cases c with
  | true => exact k H1 _ a1
  | false => exact h2 ρ σ H1 ps Q nv a1.drop k
theorem eg_notV (h1 : EvG K b W c ta da) : EvG K b W c (tNotV ta) (dNotV da) := fun ρ σ H ps Q nv a q => by
  refine h1 ρ σ H ps _ nv a (G.good_mono (fun s k H1 x a1 => ?_) (fun _ h => h) (G.good_bind.mp q))
  obtain ⟨c, rfl, k⟩ := boolG_good (G.good_bind.mp k)
  obtain rfl := a1.vBl
  exact ⟨c, rfl, k H1 _ (a1.drop.bl _)⟩
theorem pd_and (h1 : PD K X W c e1 ta da) (h2 : PD K X W c (.BoolOp .And (e2 :: es) pos) tb db) : PD K X W c (.BoolOp .And (e1 :: e2 :: es) pos) (tAndV ta tb) (dAndV da db) := ⟨pe_and h1.pe h2.pe, fun b => eg_andV (h1.ev b) (h2.ev b)⟩
theorem pd_or (h1 : PD K X W c e1 ta da) (h2 : PD K X W c (.BoolOp .Or (e2 :: es) pos) tb db) : PD K X W c (.BoolOp .Or (e1 :: e2 :: es) pos) (tOrV ta tb) (dOrV da db) := ⟨pe_or h1.pe h2.pe, fun b => eg_orV (h1.ev b) (h2.ev b)⟩
theorem pd_one {op} (h1 : PD K X W c e1 ta da) : PD K X W c (.BoolOp op [e1] pos) ta da := ⟨pe_one h1.pe, h1.ev⟩
theorem pd_not (h1 : PD K X W c e1 ta da) : PD K X W c (.UnaryOp .Not e1 pos) (tNotV ta) (dNotV da) := ⟨pe_not h1.pe, fun b => eg_notV (h1.ev b)⟩
theorem At.dup2 {x y : V} {s1 s2 : Sl} (h : At K b ρ σ H ((y, s2) :: (x, s1) :: ps)) (e : s2.lds = none ∨ True) (hd : ∃ d, s2 = .dat d) : At K b ρ σ H ((y, s2) :: (x, s1) :: (y, s2) :: ps) := by
  obtain ⟨d, rfl⟩ := hd
  obtain ⟨S, F, h⟩ := h
  have r := h.rpD List.mem_cons_self
  cases id h.en with
  | cons r1 t =>
    cases t with
    | cons r2 t =>
      have h3 := h.less (qs := ps) t fun a => by simp only [List.count_append]; omega
      have h4 := h3.pushD r
      obtain ⟨z, ez, r1⟩ := r1
      cases r1
      rename_i f2 F2 _
      have h5 : AtS K b ρ σ S H ((x, s1) :: (y, .dat d) :: ps) (f2 ++ ([] ++ F2)) := h.less (qs := (x, s1) :: (y, .dat d) :: ps) (.cons r2 (.cons (f := []) ⟨y, rfl, .fz r⟩ t)) fun a => by simp only [List.count_append, List.nil_append]; omega
      exact ⟨S, _, h5.pushD r⟩
theorem eg_chain {r r' : R2} {f g : Op2} (o : Op2Ok K r f) (o' : Op2Ok K r' g) (hf : ∀ s1 s2 s, f s1 s2 = some s → ∃ d, s2 = .dat d) (h1 : EvG K b W c ta da) (h2 : EvG K b W false tb db) (h3 : EvG K b W false tc dc) : EvG K b W c (tChain r r' ta tb tc) (dChain f g da db dc) := fun ρ σ H ps Q nv a q => by
  refine h1 ρ σ H ps _ nv a (G.good_mono (fun s1 k H1 x a1 => ?_) (fun _ h => h) (G.good_bind.mp q))
  refine h2 ρ σ H1 _ _ nofun a1 (G.good_mono (fun s2 k2 H2 y a2 => ?_) (fun _ h => h.drop) (G.good_bind.mp k))
  obtain ⟨z, ez, k3⟩ := optG_some (G.good_bind.mp k2)
  obtain ⟨c, rfl, k3⟩ := boolG_good (G.good_bind.mp k3)
  refine o b _ _ _ ez ρ σ H2 _ _ x y (a2.dup2 (.inr trivial) (hf _ _ _ ez)) fun H3 w a3 => ?_
  obtain rfl := a3.vBl
  refine ⟨c, rfl, ?_⟩
  cases c with
  | true =>
    refine h3 ρ σ H3 _ _ nofun a3.drop (G.good_mono (fun s4 k4 H4 u a4 => ?_) (fun _ h => h.drop) (G.good_bind.mp k3))
    obtain ⟨z2, e2, k5⟩ := optG_some k4
    exact o' b _ _ _ e2 ρ σ H4 ps Q y u a4 k5
  | false => exact k3 H3 _ a3.snd
theorem pd_chain {op op' : CmpOp} {r r' : R2} {f g : Op2} (p : OpR X (compareOp op) r) (p' : OpR X (compareOp op') r') (o : Op2Ok K r f) (o' : Op2Ok K r' g) (hf : ∀ s1 s2 s, f s1 s2 = some s → ∃ d, s2 = .dat d)
    (h1 : PD K X W c e1 ta da) (h2 : PD K X W false e2 tb db) (h3 : PD K X W false e3 tc dc) (hm : lastMarks [op, op'] [e2, e3] = false := by with_unfolding_all rfl) : PD K X W c (.Compare e1 [op, op'] [e2, e3] pos) (tChain r r' ta tb tc) (dChain f g da db dc) :=
  ⟨pe_chain p p' h1.pe h2.pe h3.pe hm, fun b => eg_chain o o' hf (h1.ev b) (h2.ev b) (h3.ev b)⟩
theorem pdt_chain {op op' : CmpOp} {r r' : R2} {f g : Op2} (p : OpR X (compareOp op) r) (p' : OpR X (compareOp op') r') (o : Op2Ok K r f) (o' : Op2Ok K r' g) (hf : ∀ s1 s2 s, f s1 s2 = some s → ∃ d, s2 = .dat d)
    (h1 : PD K X W c e1 ta da) (h2 : PD K X W false e2 tb db) (h3 : PD K X W false e3 tc dc) (hm : lastMarks [op, op'] [e2, e3] = false := by with_unfolding_all rfl) : PDT K X W c (.Compare e1 [op, op'] [e2, e3] pos) (tTest (tChain r r' ta tb tc)) (dTest (dChain f g da db dc)) :=
  ⟨pt_chain p p' h1.pe h2.pe h3.pe hm, fun b => eg_test (eg_chain o o' hf (h1.ev b) (h2.ev b) (h3.ev b))⟩
/-! ### arguments, displays -/
theorem len_nil : LenIs 0 dNil := fun ρ N E h => ⟨rfl, h⟩
theorem len_cons {n : Nat} (h : LenIs n dx) : LenIs (n + 1) (dCons da dx) := fun ρ N E q => G.good_bind.mpr (G.good_mono (fun s k => G.good_bind.mpr (G.good_mono (fun l ⟨e, k⟩ => ⟨congrArg Nat.succ e, k⟩) (fun _ h => h) (h ρ _ E (G.good_bind.mp k)))) (fun _ h => h) (G.good_bind.mp q))
theorem len_consC {n : Nat} (h : LenIs n dx) : LenIs (n + 1) (dConsC da dx) := fun ρ N E q => G.good_bind.mpr (G.good_mono (fun s k => by
  by_cases hv : s.isView = true
  · rw [if_pos hv] at k; cases k
  · rw [if_neg hv] at k
    rw [if_neg hv]
    exact G.good_bind.mpr (G.good_mono (fun l ⟨e, k⟩ => ⟨congrArg Nat.succ e, k⟩) (fun _ h => h) (h ρ _ E (G.good_bind.mp k)))) (fun _ h => h) (G.good_bind.mp q))
theorem ega_nil : EvGA K b W false tNil dNil := fun ρ σ H ps Q nv a h => h H [] rfl a
theorem ega_cons (h1 : EvG K b W c ta da) (h2 : EvGA K b W false tx dx) : EvGA K b W c (tCons ta tx) (dCons da dx) := fun ρ σ H ps Q nv a h => by
  refine h1 ρ σ H ps _ nv a (G.good_mono (fun s k H1 x a1 => ?_) (fun _ h => h) (G.good_bind.mp h))
  refine h2 ρ σ H1 _ _ nofun a1 (G.good_mono (fun l k2 H2 us hl a2 => ?_) (fun _ h => h.drop) (G.good_bind.mp k))
  refine k2 H2 (x :: us) (by rw [List.length_cons, List.length_cons, hl]) ?_
  rw [List.zip_cons_cons, List.reverse_cons, List.append_assoc]
  exact a2
theorem ega_consC (h1 : EvG K b W true ta da) (h2 : EvGA K b W true tx dx) : EvGA K b W true (tCons ta tx) (dConsC da dx) := fun ρ σ H ps Q nv a h => by
  refine h1 ρ σ H ps _ nv a (G.good_mono (fun s k H1 x a1 => ?_) (fun _ h => h) (G.good_bind.mp h))
  cases hv : s.isView with
  | true => rw [if_pos hv] at k; cases k
  | false =>
    rw [if_neg (by rw [hv]; exact Bool.false_ne_true)] at k
    refine h2 ρ σ H1 _ _ (fun _ => (nv rfl).cons hv) a1 (G.good_mono (fun l k2 H2 us hl a2 => ?_) (fun _ h => h.drop) (G.good_bind.mp k))
    refine k2 H2 (x :: us) (by rw [List.length_cons, List.length_cons, hl]) ?_
    rw [List.zip_cons_cons, List.reverse_cons, List.append_assoc]
    exact a2
theorem pda_consC (h1 : PD K X W true e ta da) (h2 : PDA K X W true es tx dx) (hs : starEach (e :: es) X.env = (false, eval e X.env) :: starEach es X.env := by rfl) : PDA K X W true (e :: es) (tCons ta tx) (dConsC da dx) := ⟨pa_cons h1.pe h2.pa hs, fun b => ega_consC (h1.ev b) (h2.ev b), len_consC h2.ln⟩
theorem pda_nil : PDA K X W false [] tNil dNil := ⟨pa_nil, fun _ => ega_nil, len_nil⟩
theorem pda_cons (h1 : PD K X W c e ta da) (h2 : PDA K X W false es tx dx) (hs : starEach (e :: es) X.env = (false, eval e X.env) :: starEach es X.env := by rfl) : PDA K X W c (e :: es) (tCons ta tx) (dCons da dx) := ⟨pa_cons h1.pe h2.pa hs, fun b => ega_cons (h1.ev b) (h2.ev b), len_cons h2.ln⟩
theorem eg_cb {r : List V → Hp → VK → Prop} {f : List Sl → Option Sl} (o : OpCOk K r f) (h : EvGA K b W c tx dx) : EvG K b W c (tCB r tx) (dCB f dx) := fun ρ σ H ps Q nv a q => by
  refine h ρ σ H ps _ nv a (G.good_mono (fun l k H1 us hl a1 => ?_) (fun _ h => h) (G.good_bind.mp q))
  obtain ⟨z, ez, k⟩ := optG_some k
  exact o b l z ez ρ σ H1 ps Q us hl a1 k
/-- the arguments that wait, gathered -/
theorem AtS.gather : ∀ {l : List Sl} {us : List V} {os : List Ow} {ps : List (V × Sl)} {F : List Addr}, us.length = l.length → ows l = some os → AtS K b ρ σ S H ((us.zip l).reverse ++ ps) F →
    ∃ f F', Okvs K S H us os f ∧ AtS K b ρ σ S H ps F' ∧ ∀ a, F.count a = f.count a + F'.count a := by
  intro l
  induction l with
  | nil =>
    intro us os ps F hl h a
    cases h
    cases us with
    | nil => exact ⟨[], F, .nil, a, fun a => by rw [List.count_nil, Nat.zero_add]⟩
    | cons _ _ => cases hl
  | cons s l ih =>
    intro us os ps F hl h a
    cases us with
    | nil => cases hl
    | cons u us =>
      cases s with
      | val o =>
        cases ho : ows l with
        | none => simp only [ows, ho] at h; cases h
        | some es =>
          simp only [ows, ho] at h
          cases h
          rw [List.zip_cons_cons, List.reverse_cons, List.append_assoc] at a
          obtain ⟨f, F1, h1, h2, h3⟩ := ih (by simpa using hl) ho a
          obtain ⟨g, F2, rfl, ⟨x, ex, r⟩, h4⟩ := AtS.hd (x := (u, .val o)) (ps := ps) h2
          cases ex
          exact ⟨g ++ f, F2, .cons r h1, h4, fun a => by have := h3 a; simp only [List.count_append] at this ⊢; omega⟩
      | no => cases h
      | view _ => cases h
      | src => cases h
      | slf => cases h
/-- .. and left as they are -/
theorem AtS.settle {us : List V} {os : List Ow} {F' : List Addr} (h : AtS K b ρ σ S H ps F') (r : Okvs K S H us os f) (hF : ∀ a, 0 < f.count a → F'.count a = 0 ∧ S a = none ∧ b.H a = none ∧ off b.src a) : ∃ T, AtS K b ρ σ T H ps F' ∧ Rps K T us (frzs os) := by
  let T : Hp := fun a => if a ∈ f then H a else S a
  have ss : Same S T := fun a u e => by
    show (if a ∈ f then H a else S a) = _
    by_cases m : a ∈ f
    · rw [(hF a (pos_mem m)).2.1] at e; cases e
    · rw [if_neg m]; exact e
  have sh : Same T H := fun a u e => by
    have e : (if a ∈ f then H a else S a) = some u := e
    by_cases m : a ∈ f
    · rw [if_pos m] at e; exact e
    · rw [if_neg m] at e; exact h.sh a u e
  have out : ∀ a, a ∉ f → S a = none → T a = none := fun a m e => by
    show (if a ∈ f then H a else S a) = _
    rw [if_neg m]; exact e
  refine ⟨T, ⟨⟨h.st.ss.trans ss, sh, h.st.hh, fun a u e => ?_⟩, ⟨fun p q e => ?_, h.iv.tb, fun t mt => out t.1 (fun m => (hF t.1 (pos_mem m)).2.2.2.2 t mt rfl) (h.iv.ts t mt)⟩, h.en.tr ss (fun _ _ _ x => x) (fun _ _ _ _ _ _ x => x), fun a m => ?_, h.nv⟩, r.rp ss fun a m u e => ?_⟩
  · by_cases m : a ∈ f
    · exact .inr (hF a (pos_mem m)).2.2.1
    · have e : (if a ∈ f then H a else S a) = some u := e
      rw [if_neg m] at e
      exact h.st.gr a u e
  · obtain ⟨dr, k1, k2⟩ := h.iv.dr p q e
    exact ⟨dr, out p (fun m => ((hF p (pos_mem m)).2.2.2.1 p q e).1 rfl) k1, out q (fun m => ((hF q (pos_mem m)).2.2.2.1 p q e).2 rfl) k2⟩
  · obtain ⟨g1, g2, g3, g4⟩ := h.fr a m
    exact ⟨g1, out a (fun x => by have := (hF a (pos_mem x)).1; omega) g2, g3, g4⟩
  · show (if a ∈ f then H a else S a) = _
    rw [if_pos m]; exact e
theorem At.args {l : List Sl} {us : List V} {os : List Ow} (hl : us.length = l.length) (ho : ows l = some os) (a : At K b ρ σ H ((us.zip l).reverse ++ ps)) : ∃ T F, AtS K b ρ σ T H ps F ∧ Rps K T us (frzs os) := by
  obtain ⟨S, F, A⟩ := a
  obtain ⟨f, F', r, A', c⟩ := A.gather hl ho
  obtain ⟨T, A2, rT⟩ := A'.settle r fun a m => by
    have := c a
    obtain ⟨g1, g2⟩ := A.fr a (by omega)
    exact ⟨by omega, g2⟩
  exact ⟨T, F', A2, rT⟩
theorem small_le {n : Nat} (h : small n = true) : n ≤ 1000000 := of_decide_eq_true h
theorem small_line {n : Nat} (h : small n = true) : n ≤ sizeLine := Nat.le_of_lt (Nat.lt_of_le_of_lt (small_le h) (by decide))
theorem frzs_len : ∀ os : List Ow, (frzs os).length = os.length
  | [] => rfl
  | _ :: os => by rw [frzs, List.length_cons, List.length_cons, frzs_len os]
theorem eg_tup (h : EvGA K b W c tx dx) : EvG K b W c (tTup tx) (dTup dx) := fun ρ σ H ps Q nv a q => by
  refine h ρ σ H ps _ nv a (G.good_mono (fun l k H1 us hl a1 => ?_) (fun _ h => h) (G.good_bind.mp q))
  obtain ⟨z, ez, k⟩ := optG_some k
  cases ho : ows l with
  | none => rw [ho] at ez; cases ez
  | some os =>
    simp only [ho] at ez
    split at ez
    · cases ez
      obtain ⟨T, F, A, r⟩ := At.args hl ho a1
      refine ⟨by rw [r.len, frzs_len]; exact small_line (by assumption), fun p np => k _ _ ?_⟩
      exact ⟨_, F, (A.new (o := .tup us) np).pushD (.tup (SqT.of upd_same) (Rps.same (same_new (A.sh.free np)) _ _ r))⟩
    · cases ez
theorem eg_lst (h : EvGA K b W c tx dx) : EvG K b W c (tLst tx) (dLst dx) := fun ρ σ H ps Q nv a q => by
  refine h ρ σ H ps _ nv a (G.good_mono (fun l k H1 us hl a1 => ?_) (fun _ h => h) (G.good_bind.mp q))
  obtain ⟨z, ez, k⟩ := optG_some k
  cases ho : ows l with
  | none => rw [ho] at ez; cases ez
  | some os =>
    simp only [ho] at ez
    split at ez
    · cases ez
      obtain ⟨S, F, A⟩ := a1
      obtain ⟨f, F', r, A', c⟩ := A.gather hl ho
      refine ⟨by rw [r.len]; exact small_line (by assumption), fun p np => k _ _ ?_⟩
      exact ⟨S, _, A'.pushO' np r fun a m => by
          have := c a
          obtain ⟨g1, g2⟩ := A.fr a (by omega)
          exact ⟨by omega, g2⟩⟩
    · cases ez
theorem pd_tup {x1} (h : PDA K X W c es tx dx) : PD K X W c (.Tuple es x1 pos) (tTup tx) (dTup dx) := ⟨pe_tup h.pa, fun b => eg_tup (h.ev b)⟩
theorem pd_lst (h : PDA K X W c es tx dx) : PD K X W c (.List es pos) (tLst tx) (dLst dx) := ⟨pe_lst h.pa, fun b => eg_lst (h.ev b)⟩
end
end Ge

set_option maxHeartbeats 400000
namespace Ge
open PySem PySem.Spec PyProof.Rows L2 Sd
variable [HasT]
/-! ### statements -/
def put (ρ : List Sl) (i : Nat) (s : Sl) : G Out := match s with
  | .view _ => .fail | s => .pure (.nx (ρ.set i s))
def dSeq (a c : DS) : DS := fun ρ => (a ρ).bind fun o => match o with | .nx ρ' => c ρ' | o => .pure o
def dNext : DS := fun ρ => .pure (.nx ρ)
def dBreak : DS := fun ρ => .pure (.bk ρ)
def dCont : DS := fun ρ => .pure (.ct ρ)
def dNever : DS := fun _ => .fail
def dDrop (a : DE) : DS := fun ρ => (a ρ).bind fun _ => .pure (.nx ρ)
def dRet (a : DE) : DS := fun ρ => (a ρ).bind fun s => .pure (.rt s)
def dRetN : DS := fun _ => .pure (.rt (.dat .non))
def dIfS (t : DB) (a c : DS) : DS := fun ρ => (t ρ).bind fun x => if x = true then a ρ else c ρ
/-- ghosts: a slot's list is left as it is; a slot is forgotten -/
def dFz (i : Nat) (a : DS) : DS := fun ρ => a (ρ.set i (frzSl (get ρ i)))
def dGone (i : Nat) (a : DS) : DS := fun ρ => a (ρ.set i .no)
abbrev DT := List Sl → Sl → G (List Sl)
abbrev DTs := List Sl → List Da → G (List Sl)
def tgName (i : Nat) : DT := fun ρ s => match s with
  | .view _ => .fail | s => .pure (ρ.set i s)
def tgNil : DTs := fun ρ l => match l with
  | [] => .pure ρ | _ => .fail
def tgCons (a : DT) (c : DTs) : DTs := fun ρ l => match l with
  | x :: r => (a ρ (.dat x)).bind fun ρ' => c ρ' r | [] => .fail
def tgTup (n : Nat) (c : DTs) : DT := fun ρ s => match s with
  | .val (.fz (.tup xs)) => if xs.length = n then c ρ xs else .fail | _ => .fail
def dAsg (a : DE) (t : DT) : DS := fun ρ => (a ρ).bind fun s => (t ρ s).bind fun ρ' => .pure (.nx ρ')
def dPar (i j : Nat) (a : DA) : DS := fun ρ => (a ρ).bind fun l => match l with
  | [x, y] => (tgName i ρ x).bind fun ρ1 => (tgName j ρ1 y).bind fun ρ2 => .pure (.nx ρ2) | _ => .fail
def dPar3 (i j k : Nat) (a : DA) : DS := fun ρ => (a ρ).bind fun l => match l with
  | [x, y, z] => (tgName i ρ x).bind fun ρ1 => (tgName j ρ1 y).bind fun ρ2 => (tgName k ρ2 z).bind fun ρ3 => .pure (.nx ρ3) | _ => .fail
def forG (t : DT) (body : DS) : List Da → List Sl → G Out
  | [], ρ => .pure (.nx ρ)
  | x :: xs, ρ => (t ρ (.dat x)).bind fun ρ1 => (body ρ1).bind fun o => match o with
    | .nx ρ2 => forG t body xs ρ2 | .ct ρ2 => forG t body xs ρ2 | .bk ρ2 => .pure (.nx ρ2) | .rt s => .pure (.rt s)
abbrev DI := List Sl → G (List Da)
def dFor (it : DI) (t : DT) (body : DS) : DS := fun ρ => (it ρ).bind fun xs => forG t body xs ρ
def whG (t : DB) (body : DS) : Nat → List Sl → G Out
  | 0, _ => .fail
  | n + 1, ρ => (t ρ).bind fun c => if c = true then (body ρ).bind fun o => match o with
    | .nx ρ2 => whG t body n ρ2 | .ct ρ2 => whG t body n ρ2 | .bk ρ2 => .pure (.nx ρ2) | .rt s => .pure (.rt s) else .pure (.nx ρ)
def fuel : Nat := 1000000
def dWhile (t : DB) (body : DS) : DS := fun ρ => whG t body fuel ρ
def lcG (f : Da → G (List Ow)) : List Da → G (List Ow)
  | [] => .pure []
  | x :: xs => (f x).bind fun a => (lcG f xs).bind fun r => .pure (a ++ r)
def noes (ρ : List Sl) : List Nat → Bool
  | [] => true
  | i :: is => (match get ρ i with | .no => true | _ => false) && noes ρ is
def lcE (t : DT) (tt : DB) (el : DE) (ρ : List Sl) (x : Da) : G (List Ow) := (t ρ (.dat x)).calm.bind fun ρ1 => (tt ρ1).calm.bind fun c => if c = true then (el ρ1).calm.bind fun s => match s with
  | .val o => .pure [o] | _ => .fail else .pure []
def dLc (it : DI) (t : DT) (tt : DB) (el : DE) (vs : List Nat) : DE := fun ρ => (it ρ).bind fun xs => if noes ρ vs && small xs.length then (lcG (lcE t tt el ρ) xs).bind fun os => .pure (.val (.ol os)) else .fail
def dYes : DB := fun _ => .pure true
/-- l' is l but at js -/
def Only {α : Type} (js : List Nat) (l l' : List α) : Prop := l'.length = l.length ∧ ∀ j, j ∉ js → l'[j]? = l[j]?
theorem Only.refl {α : Type} (js : List Nat) (l : List α) : Only js l l := ⟨rfl, fun _ _ => rfl⟩
theorem Only.trans {α : Type} {js ks : List Nat} {l l1 l2 : List α} (x : Only js l l1) (y : Only ks l1 l2) : Only (js ++ ks) l l2 := ⟨y.1.trans x.1, fun j m => by
  rw [List.mem_append, not_or] at m
  exact (y.2 j m.2).trans (x.2 j m.1)⟩
theorem Only.set {α : Type} (i : Nat) (l : List α) (x : α) : Only [i] l (l.set i x) := ⟨List.length_set, fun j m => List.getElem?_set_ne fun e => m (by rw [e]; exact List.mem_singleton.mpr rfl)⟩
section
variable (K : PySem.W.Frag) (b : Bs) (W : WX)
/-- a target; m: it writes into the heap -/
def TgG (m : Bool) (g : TG) (js : List Nat) (d : DT) : Prop := ∀ ρ σ H ps v s (Q : L2.St → Hp → Prop), (m = true → NV ps) → At K b ρ σ H ((v, s) :: ps) →
  (d ρ s).good (fun ρ' => ∀ σ' H', At K b ρ' σ' H' ps → Only js σ σ' → Only js ρ ρ' → Q σ' H') (Thr K b W ps) → g v σ H Q
def TgsG (m : Bool) (g : TGs) (js : List Nat) (d : DTs) : Prop := ∀ ρ σ H ps vs xs (Q : L2.St → Hp → Prop), (m = true → NV ps) → vs.length = xs.length → At K b ρ σ H (vs.zip (xs.map Sl.dat) ++ ps) →
  (d ρ xs).good (fun ρ' => ∀ σ' H', At K b ρ' σ' H' ps → Only js σ σ' → Only js ρ ρ' → Q σ' H') (Thr K b W ps) → g vs σ H Q
/-- the slots that are walked -/
def KeepOk (k : Bool) (ρ : List Sl) (is : List Nat) : Prop := (k = false → is = []) ∧ ∀ i ∈ is, get ρ i ≠ .no
/-- a list or tuple of data that stays: as long as sr waits and the slots at is are as they are -/
def Stays (ρ0 : List Sl) (σ0 : L2.St) (is : List Nat) (sr : List (V × Sl)) (v : V) (xs : List Da) : Prop := ∀ ρ σ S H qs F, AtS K b ρ σ S H qs F → (∀ i ∈ is, ρ[i]? = ρ0[i]? ∧ σ[i]? = σ0[i]?) → (∀ x ∈ sr, x ∈ qs) →
  ∃ a ys, v = .ref a ∧ (H a = some (.lst ys) ∨ SqT K H a ys) ∧ Rps K S ys xs
/-- what a loop walks: J tells the items xs -/
def ItOk (ρ0 : List Sl) (σ0 : L2.St) (is : List Nat) (sr : List (V × Sl)) (J : It) (xs : List Da) : Prop := ∀ ρ σ S H qs F i, AtS K b ρ σ S H qs F → (∀ i ∈ is, ρ[i]? = ρ0[i]? ∧ σ[i]? = σ0[i]?) → (∀ x ∈ sr, x ∈ qs) →
  (∀ x, xs[i]? = some x → J.go i H ∧ ∀ u H', J.yld i H u H' → At K b ρ σ H' ((u, .dat x) :: qs)) ∧ (i = xs.length → J.stop i H)
/-- k: a slot of one's own may be walked as it stands -/
def LsG (k c : Bool) (te : TE) (d : DI) : Prop := ∀ ρ σ H ps (Q : VK), (c = true → NV ps) → At K b ρ σ H ps →
  (d ρ).good (fun xs => ∀ H' is sr v, At K b ρ σ H' (sr ++ ps) → NV sr → KeepOk k ρ is → Stays K b ρ σ is sr v xs → Q v H') (Thr K b W ps) → te σ H Q
def WiG (k c : Bool) (wi : TI) (d : DI) : Prop := ∀ ρ σ H ps (R : It → Hp → Prop), (c = true → NV ps) → At K b ρ σ H ps →
  (d ρ).good (fun xs => ∀ H' is sr J, At K b ρ σ H' (sr ++ ps) → NV sr → KeepOk k ρ is → ItOk K b ρ σ is sr J xs → R J H') (Thr K b W ps) → wi σ H R
end
structure PDG (K : PySem.W.Frag) (X : Cx) (W : WX) (m : Bool) (e : Expr) (g : TG) (js : List Nat) (d : DT) : Prop where
  pg : PG X e g
  ev : ∀ b, TgG K b W m g js d
structure PDGs (K : PySem.W.Frag) (X : Cx) (W : WX) (m : Bool) (es : List Expr) (g : TGs) (js : List Nat) (d : DTs) : Prop where
  pgs : PGs X es g
  ev : ∀ b, TgsG K b W m g js d
structure PDI (K : PySem.W.Frag) (X : Cx) (W : WX) (k c : Bool) (tg it : Expr) (wi : TI) (d : DI) : Prop where
  pi : PI X tg it wi
  ev : ∀ b, WiG K b W k c wi d
structure PDL (K : PySem.W.Frag) (X : Cx) (W : WX) (k c : Bool) (e : Expr) (te : TE) (d : DI) : Prop where
  pe : PE X e te
  ev : ∀ b, LsG K b W k c te d
section
variable {K : PySem.W.Frag} {b : Bs} {ρ : List Sl} {σ : L2.St} {S H S' H' : Hp} {ps : List (V × Sl)} {v : V} {s : Sl} {F f : List Addr} {d : Da} {X : Cx} {W : WX} {m k c c1 c2 c3 : Bool}
  {e e1 e2 e3 : Expr} {es : List Expr} {te ta tb tc : TE} {tt tu : TT} {tx : TA} {da db dc : DE} {dt du : DB} {dx : DA} {pos : Pos} {t t1 t2 : TS} {d0 d1 d2 : DS} {st : Stmt} {rest : List Stmt} {g : TG} {gs : TGs} {js ks : List Nat} {dg : DT} {dgs : DTs} {wi : TI} {di : DI}
theorem At.rot3 {x y z : V × Sl} (h : At K b ρ σ H (x :: y :: z :: ps)) : At K b ρ σ H (z :: x :: y :: ps) := by
  obtain ⟨S, F, h⟩ := h
  cases id h.en with
  | cons r t =>
    cases t with
    | cons r2 t =>
      cases t with
      | cons r3 t => exact ⟨S, _, h.less (.cons r3 (.cons r (.cons r2 t))) fun a => by simp only [List.count_append]; omega⟩
theorem ex_seq (h1 : ExG K b W t1 d1) (h2 : ExG K b W t2 d2) : ExG K b W (tSeq t1 t2) (dSeq d1 d2) := fun ρ σ H ps D nv a q => by
  refine h1 ρ σ H ps { D with nx := t2 D } nv a (G.good_mono (fun o k => ?_) (fun _ h => h) (G.good_bind.mp q))
  cases o with
  | nx ρ' => exact fun σ' H' a' => h2 ρ' σ' H' ps D nv a' k
  | rt s => exact k
  | bk ρ' => exact k
  | ct ρ' => exact k
theorem pdss_nil : PDSs K X W [] tNext dNext := ⟨pss_nil, fun b ρ σ H ps D nv a q => q σ H a⟩
theorem pdss_cons (h1 : PDS K X W st t1 d1) (h2 : PDSs K X W rest t2 d2) : PDSs K X W (st :: rest) (tSeq t1 t2) (dSeq d1 d2) := ⟨pss_cons h1.ps h2.ps, fun b => ex_seq (h1.ev b) (h2.ev b)⟩
theorem pdss_one (h1 : PDS K X W st t1 d1) : PDSs K X W [st] t1 d1 := ⟨pss_one h1.ps, h1.ev⟩
theorem pds_never : PDS K X W st tNever dNever := ⟨ps_never, fun b ρ σ H ps D nv a q => q⟩
theorem pdss_never : PDSs K X W rest tNever dNever := ⟨pss_never, fun b ρ σ H ps D nv a q => q⟩
theorem pds_pass : PDS K X W (.Pass pos) tNext dNext := ⟨ps_pass, fun b ρ σ H ps D nv a q => q σ H a⟩
theorem pds_doc {x j pos pos'} : PDS K X W (.Expr (.Constant (.str x) j pos) pos') tNext dNext := ⟨ps_doc, fun b ρ σ H ps D nv a q => q σ H a⟩
theorem pds_break : PDS K X W (.Break pos) tBreak dBreak := ⟨ps_break, fun b ρ σ H ps D nv a q => q σ H a⟩
theorem pds_continue : PDS K X W (.Continue pos) tCont dCont := ⟨ps_continue, fun b ρ σ H ps D nv a q => q σ H a⟩
theorem pds_expr (h : PD K X W c e te da) (hs : swapsWith e none pos.line X.env = pure false := by rfl) : PDS K X W (.Expr e pos) (tDrop te) (dDrop da) := ⟨ps_expr h.pe hs, fun b ρ σ H ps D nv a q =>
  h.ev b ρ σ H ps _ (fun _ => nv) a (G.good_mono (fun s k H1 v a1 => k σ H1 a1.drop) (fun _ h => h) (G.good_bind.mp q))⟩
theorem pds_ret (h : PD K X W c e te da) : PDS K X W (.Return (some e) pos) (tRet te) (dRet da) := ⟨ps_ret h.pe, fun b ρ σ H ps D nv a q =>
  h.ev b ρ σ H ps _ (fun _ => nv) a (G.good_mono (fun s k H1 v a1 => k ρ σ H1 v a1) (fun _ h => h) (G.good_bind.mp q))⟩
theorem pds_retN : PDS K X W (.Return none pos) tRetN dRetN := ⟨ps_retN, fun b ρ σ H ps D nv a q => q ρ σ H .non a.non⟩
theorem pds_if {cc : Expr} {x y : List Stmt} (h : PDT K X W c cc tt dt) (h1 : PDSs K X W x t1 d1) (h2 : PDSs K X W y t2 d2) : PDS K X W (.If cc x y pos) (tIfS tt t1 t2) (dIfS dt d1 d2) := ⟨ps_if h.pt h1.ps h2.ps, fun b ρ σ H ps D nv a q => by
  refine h.ev b ρ σ H ps _ (fun _ => nv) a (G.good_mono (fun c k H1 a1 => ?_) (fun _ h => h) (G.good_bind.mp q))
  cases c with
  | true => exact h1.ev b ρ σ H1 ps D nv a1 k
  | false => exact h2.ev b ρ σ H1 ps D nv a1 k⟩
theorem pds_fz (i : Nat) (h : PDS K X W st t d0) : PDS K X W st t (dFz i d0) := ⟨h.ps, fun b ρ σ H ps D nv a q => h.ev b _ σ H ps D nv (a.freeze i) q⟩
theorem pds_gone (i : Nat) (h : PDS K X W st t d0) : PDS K X W st t (dGone i d0) := ⟨h.ps, fun b ρ σ H ps D nv a q => h.ev b _ σ H ps D nv (a.reslot List.length_set rfl fun j s e => by
  by_cases hj : i = j
  · subst hj
    by_cases l : i < ρ.length
    · rw [List.getElem?_set_self l] at e
      exact .inl (Option.some.inj e).symm
    · rw [List.getElem?_eq_none (by rw [List.length_set]; omega)] at e; cases e
  · rw [List.getElem?_set_ne hj] at e
    exact .inr ⟨e, rfl⟩) q⟩
/-! ### targets -/
theorem tgName_good {i : Nat} {N : List Sl → Prop} {E : Exn → Prop} (q : (tgName i ρ s).good N E) : s.isView = false ∧ N (ρ.set i s) := by
  cases s with
  | view _ => cases q
  | no => exact ⟨rfl, q⟩
  | val _ => exact ⟨rfl, q⟩
  | src => exact ⟨rfl, q⟩
  | slf => exact ⟨rfl, q⟩
theorem tg_name (i : Nat) : TgG K b W m (gName i) [i] (tgName i) := fun ρ σ H ps v s Q nv a q => by
  obtain ⟨h1, h2⟩ := tgName_good q
  exact h2 _ H (a.store h1) (Only.set _ _ _) (Only.set _ _ _)
theorem tgs_nil : TgsG K b W m gNil [] tgNil := fun ρ σ H ps vs xs Q nv hl a q => by
  cases xs with
  | nil =>
    cases vs with
    | nil => exact ⟨rfl, q σ H a (Only.refl _ _) (Only.refl _ _)⟩
    | cons _ _ => cases hl
  | cons _ _ => cases q
theorem Thr.dropsZ {us : List V} {xs : List Da} {x : Exn} (h : Thr K b W ps x) : Thr K b W (us.zip (xs.map Sl.dat) ++ ps) x := h.drops
theorem tgs_cons (h1 : TgG K b W m g js dg) (h2 : TgsG K b W m gs ks dgs) : TgsG K b W m (gCons g gs) (js ++ ks) (tgCons dg dgs) := fun ρ σ H ps vs xs Q nv hl a q => by
  cases xs with
  | nil => cases q
  | cons x xs =>
    cases vs with
    | nil => cases hl
    | cons v vs =>
      refine ⟨v, vs, rfl, h1 ρ σ H (vs.zip (xs.map Sl.dat) ++ ps) v (.dat x) _ (fun hm y my => ?_) a (G.good_mono (fun ρ1 k σ1 H1 a1 o1 o2 => ?_) (fun _ h => h.drops) (G.good_bind.mp q))⟩
      · rcases List.mem_append.mp my with my | my
        · obtain ⟨z1, z2⟩ := y
          have := (List.of_mem_zip my).2
          obtain ⟨dd, _, rfl⟩ := List.mem_map.mp this
          rfl
        · exact nv hm y my
      · refine h2 ρ1 σ1 H1 ps vs xs _ nv (by simpa using hl) a1 (G.good_mono (fun ρ2 k2 σ2 H2 a2 p1 p2 => ?_) (fun _ h => h) k)
        exact k2 σ2 H2 a2 (o1.trans p1) (o2.trans p2)
theorem AtS.pushAll : ∀ {vs : List V} {xs : List Da}, AtS K b ρ σ S H ps F → Rps K S vs xs → AtS K b ρ σ S H (vs.zip (xs.map Sl.dat) ++ ps) F
  | _, _, a, .nil => a
  | _, _, a, .cons r t => (AtS.pushAll a t).pushD r
theorem tg_tup {n : Nat} (h : TgsG K b W m gs js dgs) : TgG K b W m (gTup K n gs) js (tgTup n dgs) := fun ρ σ H ps v s Q nv a q => by
  unfold tgTup at q
  split at q
  · split at q
    · obtain ⟨S, F, A⟩ := a
      obtain ⟨p, xs, ev, hs, r⟩ := A.seqT List.mem_cons_self (show Sl.tds (.val (.fz (.tup _))) = some _ from rfl)
      cases ev
      obtain ⟨f, F', rfl, _, A1⟩ := A.hd
      refine ⟨p, xs, rfl, hs, by rw [r.len]; assumption, h ρ σ H ps xs _ _ nv r.len ⟨S, _, A1.pushAll r⟩ q⟩
    · cases q
  · cases q
theorem pdg_name {i : Nat} (h : PG X e (gName i)) : PDG K X W m e (gName i) [i] (tgName i) := ⟨h, fun _ => tg_name i⟩
theorem pdgs_nil : PDGs K X W m [] gNil [] tgNil := ⟨pgs_nil, fun _ => tgs_nil⟩
theorem pds_set {i : Nat} (h : PD K X W c e te da) (hp : PS X st (tAsg te (gName i))) : PDS K X W st (tAsg te (gName i)) (dAsg da (tgName i)) := ⟨hp, fun b ρ σ H ps D nv a q => by
  refine h.ev b ρ σ H ps _ (fun _ => nv) a (G.good_mono (fun s k H1 v a1 => ?_) (fun _ h => h) (G.good_bind.mp q))
  obtain ⟨h1, h2⟩ := tgName_good (G.good_bind.mp k)
  exact h2 _ H1 (a1.store h1)⟩
theorem pds_asg (h : PD K X W c e te da) (hg : ∀ b, TgG K b W m g js dg) (hp : PS X st (tAsg te g)) : PDS K X W st (tAsg te g) (dAsg da dg) := ⟨hp, fun b ρ σ H ps D nv a q => by
  refine h.ev b ρ σ H ps _ (fun _ => nv) a (G.good_mono (fun s k H1 v a1 => ?_) (fun _ h => h) (G.good_bind.mp q))
  refine hg b ρ σ H1 ps v s _ (fun _ => nv) a1 (G.good_mono (fun ρ' k2 σ' H' a2 _ _ => k2 σ' H' a2) (fun _ h => h) (G.good_bind.mp k))⟩
theorem pds_par {i j : Nat} (hij : i ≠ j) (h : PDA K X W c es tx dx) (hp : PS X st (tPar i j tx)) : PDS K X W st (tPar i j tx) (dPar i j dx) := ⟨hp, fun b ρ σ H ps D nv a q => by
  refine h.ev b ρ σ H ps _ (fun _ => nv) a (G.good_mono (fun l k H1 us hl a1 => ?_) (fun _ h => h) (G.good_bind.mp q))
  match l, us, hl, a1, k with
  | [x, y], [u, w], _, a1, k =>
    obtain ⟨h1, k⟩ := tgName_good (G.good_bind.mp k)
    obtain ⟨h2, k⟩ := tgName_good (G.good_bind.mp k)
    refine ⟨u, w, rfl, k _ _ ?_⟩
    have a2 : At K b ρ σ H1 ((w, y) :: (u, x) :: ps) := a1
    exact (a2.swap.store h1).store h2⟩
theorem pds_par3 {i j l : Nat} (h : PDA K X W c es tx dx) (hp : PS X st (tPar3 i j l tx)) : PDS K X W st (tPar3 i j l tx) (dPar3 i j l dx) := ⟨hp, fun b ρ σ H ps D nv a q => by
  refine h.ev b ρ σ H ps _ (fun _ => nv) a (G.good_mono (fun l k H1 us hl a1 => ?_) (fun _ h => h) (G.good_bind.mp q))
  match l, us, hl, a1, k with
  | [x, y, z], [u, w, r], _, a1, k =>
    obtain ⟨h1, k⟩ := tgName_good (G.good_bind.mp k)
    obtain ⟨h2, k⟩ := tgName_good (G.good_bind.mp k)
    obtain ⟨h3, k⟩ := tgName_good (G.good_bind.mp k)
    refine ⟨u, w, r, rfl, k _ _ ?_⟩
    have a2 : At K b ρ σ H1 ((r, z) :: (w, y) :: (u, x) :: ps) := a1
    exact ((a2.rot3.store h1).swap.store h2).store h3⟩
/-! ### loops -/
theorem At.midOut : ∀ {qs : List (V × Sl)} {x : V × Sl}, At K b ρ σ H (x :: (qs ++ ps)) → At K b ρ σ H (x :: ps)
  | [], _, a => a
  | _ :: qs, _, a => At.midOut (qs := qs) a.snd
theorem ex_for (hi : WiG K b W false c wi di) (hg : TgG K b W m g js dg) (hb : ExG K b W t d0) : ExG K b W (tFor wi g t) (dFor di dg d0) := fun ρ σ H ps D nv a q => by
  refine hi ρ σ H ps _ (fun _ => nv) a (G.good_mono (fun xs k H1 is sr J a1 hv his hJ => ?_) (fun _ h => h) (G.good_bind.mp q))
  have nv' : NV (sr ++ ps) := fun x hx => by
    rcases List.mem_append.mp hx with hx | hx
    · exact hv x hx
    · exact nv x hx
  refine ⟨fun i m σ H => ∃ ρ, At K b ρ σ H (sr ++ ps) ∧ i + m = xs.length ∧ (forG dg d0 (xs.drop i) ρ).good (fun o => match o with
    | .nx ρ' => ∀ σ' H', At K b ρ' σ' H' ps → D.nx σ' H'
    | .rt s => ∀ ρ' σ' H' v, At K b ρ' σ' H' ((v, s) :: ps) → D.rt v H'
    | .bk ρ' => ∀ σ' H', At K b ρ' σ' H' ps → D.bk σ' H'
    | .ct ρ' => ∀ σ' H', At K b ρ' σ' H' ps → D.ct σ' H') (Thr K b W ps), ⟨xs.length, ρ, a1, by omega, k⟩, ?_⟩
  rintro i m σ2 H2 ⟨ρ2, a2, hm, k2⟩
  obtain ⟨S, F, A2⟩ := id a2
  obtain ⟨j1, j2⟩ := hJ ρ2 σ2 S H2 _ F i A2 (by rw [his.1 rfl]; intro _ m; cases m) fun x hx => List.mem_append_left _ hx
  by_cases hi : i < xs.length
  · have hx : xs[i]? = some xs[i] := List.getElem?_eq_getElem hi
    obtain ⟨go, yl⟩ := j1 _ hx
    rw [List.drop_eq_getElem_cons hi] at k2
    refine .inr ⟨go, fun σ' H' => ∃ ρ3, At K b ρ3 σ' H' (sr ++ ps) ∧ (forG dg d0 (xs.drop (i + 1)) ρ3).good (fun o => match o with
      | .nx ρ' => ∀ σ' H', At K b ρ' σ' H' ps → D.nx σ' H'
      | .rt s => ∀ ρ' σ' H' v, At K b ρ' σ' H' ((v, s) :: ps) → D.rt v H'
      | .bk ρ' => ∀ σ' H', At K b ρ' σ' H' ps → D.bk σ' H'
      | .ct ρ' => ∀ σ' H', At K b ρ' σ' H' ps → D.ct σ' H') (Thr K b W ps), fun σ' H' ⟨ρ3, a3, k3⟩ => ⟨m - 1, by omega, ρ3, a3, by omega, k3⟩, fun x H' hy => ?_⟩
    refine hg ρ2 σ2 H' (sr ++ ps) x (.dat xs[i]) _ (fun _ => nv') (yl x H' hy) (G.good_mono (fun ρ3 k3 σ3 H3 a3 _ _ => ?_) (fun _ h => h.drops) (G.good_bind.mp k2))
    refine hb ρ3 σ3 H3 (sr ++ ps) _ nv' a3 (G.good_mono (fun o k4 => ?_) (fun _ h => h.drops) (G.good_bind.mp k3))
    cases o with
    | nx ρ4 => exact fun σ' H' a' => ⟨ρ4, a', k4⟩
    | ct ρ4 => exact fun σ' H' a' => ⟨ρ4, a', k4⟩
    | bk ρ4 => exact fun σ' H' a' => k4 σ' H' a'.drops
    | rt s => exact fun ρ' σ' H' v a' => k4 ρ' σ' H' v a'.midOut
  · have e : i = xs.length := by omega
    subst e
    rw [List.drop_length] at k2
    exact .inl ⟨j2 rfl, k2 σ2 H2 a2.drops⟩
theorem ex_while (hc : EvGB K b W c tt dt) (hb : ExG K b W t d0) : ExG K b W (tWhile tt t) (dWhile dt d0) := fun ρ σ H ps D nv a q => by
  refine ⟨fun n σ H => ∃ ρ, At K b ρ σ H ps ∧ (whG dt d0 n ρ).good (fun o => match o with
    | .nx ρ' => ∀ σ' H', At K b ρ' σ' H' ps → D.nx σ' H'
    | .rt s => ∀ ρ' σ' H' v, At K b ρ' σ' H' ((v, s) :: ps) → D.rt v H'
    | .bk ρ' => ∀ σ' H', At K b ρ' σ' H' ps → D.bk σ' H'
    | .ct ρ' => ∀ σ' H', At K b ρ' σ' H' ps → D.ct σ' H') (Thr K b W ps), ⟨fuel, ρ, a, q⟩, ?_⟩
  rintro n σ2 H2 ⟨ρ2, a2, k2⟩
  cases n with
  | zero => cases k2
  | succ n =>
    refine hc ρ2 σ2 H2 ps _ (fun _ => nv) a2 (G.good_mono (fun c k3 H3 a3 => ?_) (fun _ h => h) (G.good_bind.mp k2))
    cases c with
    | true =>
      refine iteT ⟨fun σ' H' => ∃ ρ, At K b ρ σ' H' ps ∧ (whG dt d0 n ρ).good (fun o => match o with
        | .nx ρ' => ∀ σ' H', At K b ρ' σ' H' ps → D.nx σ' H'
        | .rt s => ∀ ρ' σ' H' v, At K b ρ' σ' H' ((v, s) :: ps) → D.rt v H'
        | .bk ρ' => ∀ σ' H', At K b ρ' σ' H' ps → D.bk σ' H'
        | .ct ρ' => ∀ σ' H', At K b ρ' σ' H' ps → D.ct σ' H') (Thr K b W ps), fun σ' H' h => ⟨n, Nat.lt_succ_self n, h⟩, ?_⟩
      refine hb ρ2 σ2 H3 ps _ nv a3 (G.good_mono (fun o k4 => ?_) (fun _ h => h) (G.good_bind.mp (show G.good (G.bind _ _) _ _ from k3)))
      cases o with
      | nx ρ4 => exact fun σ' H' a' => ⟨ρ4, a', k4⟩
      | ct ρ4 => exact fun σ' H' a' => ⟨ρ4, a', k4⟩
      | bk ρ4 => exact fun σ' H' a' => k4 σ' H' a'
      | rt s => exact fun ρ' σ' H' v a' => k4 ρ' σ' H' v a'
    | false => exact iteF (k3 σ2 H3 a3)
theorem pds_for {tg it : Expr} {body : List Stmt} (hi : PDI K X W false c tg it wi di) (hg : PDG K X W true tg g js dg) (hb : PDSs K X W body t d0) (hp : PassesOwn (model X.prog X.w) X.A X.env X.xe) (hc : X.calm = true)
    (hs : ∀ x, foldedSetIterable it X.env x = pure x := by intro _; rfl) : PDS K X W (.For tg it body [] pos) (tFor wi g t) (dFor di dg d0) := ⟨ps_for hp hc hi.pi hg.pg hb.ps hs, fun b => ex_for (hi.ev b) (hg.ev b) (hb.ev b)⟩
theorem pds_while {cc : Expr} {body : List Stmt} (h : PDT K X W c cc tt dt) (hb : PDSs K X W body t d0) (hp : PassesOwn (model X.prog X.w) X.A X.env X.xe) : PDS K X W (.While cc body [] pos) (tWhile tt t) (dWhile dt d0) := ⟨ps_while hp h.pt hb.ps, fun b => ex_while (h.ev b) (hb.ev b)⟩
/-! ### comprehensions -/
theorem noes_get : ∀ {vs : List Nat} {i : Nat}, noes ρ vs = true → i ∈ vs → get ρ i = .no
  | [], _, _, m => by cases m
  | j :: vs, i, h, m => by
    simp only [noes, Bool.and_eq_true] at h
    rcases List.mem_cons.mp m with rfl | m
    · have h1 := h.1
      split at h1
      · assumption
      · cases h1
    · exact noes_get h.2 m
theorem get_at {i : Nat} {s : Sl} (h : ρ[i]? = some s) : get ρ i = s := by
  induction ρ generalizing i with
  | nil => simp at h
  | cons x r ih =>
    cases i with
    | zero => exact Option.some.inj h
    | succ i => exact ih (by simpa using h)
theorem wipe_same {vs : List Nat} {σ1 σ2 : L2.St} (o : Only js σ1 σ2) (hj : ∀ j ∈ js, j ∈ vs) : L2.wipe σ2 vs = L2.wipe σ1 vs := List.ext_getElem? fun i => by
  by_cases m : i ∈ vs
  · have key : ∀ {vs : List Nat} {σ : L2.St}, i ∈ vs → i < σ.length → (L2.wipe σ vs)[i]? = some none := by
      intro vs
      induction vs with
      | nil => intro σ m _; cases m
      | cons v vs ih =>
        intro σ m l
        unfold L2.wipe
        by_cases e : v = i
        · subst e
          rw [List.getElem?_set_self (by rw [wipe_length]; exact l)]
        · rw [List.getElem?_set_ne e]
          rcases List.mem_cons.mp m with z | z
          · exact absurd z.symm e
          · exact ih z l
    by_cases l : i < σ1.length
    · rw [key m l, key m (by rw [o.1]; exact l)]
    · rw [List.getElem?_eq_none (by rw [wipe_length, o.1]; omega), List.getElem?_eq_none (by rw [wipe_length]; omega)]
  · rw [wipe_out m, wipe_out m]
    exact o.2 i fun z => m (hj i z)
theorem wipe_twice {vs : List Nat} : L2.wipe (L2.wipe σ vs) vs = L2.wipe σ vs := by
  refine (wipe_same (js := vs) ⟨(wipe_length _ _), fun j m => wipe_out m⟩ fun _ h => h).trans rfl
theorem At.wiped {vs : List Nat} (h : noes ρ vs = true) (a : At K b ρ σ H ps) : At K b ρ (L2.wipe σ vs) H ps := a.reslot rfl (wipe_length _ _) fun i s e => by
  by_cases m : i ∈ vs
  · have := noes_get h m
    rw [get_at e] at this
    exact .inl this
  · exact .inr ⟨e, wipe_out m⟩
theorem At.unwiped {vs : List Nat} (h : noes ρ vs = true) (a : At K b ρ (L2.wipe σ vs) H ps) : At K b ρ σ H ps := a.reslot rfl (wipe_length _ _).symm fun i s e => by
  by_cases m : i ∈ vs
  · have := noes_get h m
    rw [get_at e] at this
    exact .inl this
  · exact .inr ⟨e, (wipe_out m).symm⟩
/-- back from the block's slots -/
theorem At.back {ρ' : List Sl} {σ' : L2.St} {vs : List Nat} (h : noes ρ vs = true) (o1 : Only js σ σ') (o2 : Only js ρ ρ') (hj : ∀ j ∈ js, j ∈ vs) (a : At K b ρ' σ' H ps) : At K b ρ σ H ps := a.reslot o2.1.symm o1.1.symm fun i s e => by
  by_cases m : i ∈ js
  · have := noes_get h (hj i m)
    rw [get_at e] at this
    exact .inl this
  · exact .inr ⟨(o2.2 i m).trans e, (o1.2 i m).symm⟩
theorem At.grow {p : Addr} {os : List Ow} {o : Ow} (h : At K b ρ σ H ((v, .val o) :: (.ref p, .val (.ol os)) :: ps)) (nv : NV ps) : ∃ xs, H p = some (.lst xs) ∧ xs.length = os.length ∧ At K b ρ σ (upd H p (.lst (xs ++ [v]))) ((.ref p, .val (.ol (os ++ [o]))) :: ps) := by
  obtain ⟨S, F, h⟩ := h
  obtain ⟨g, F1, rfl, ⟨x, ex, rg⟩, h1⟩ := h.hd
  cases ex
  obtain ⟨f1, F2, rfl, ⟨y, ey, r1⟩, h2⟩ := h1.hd
  cases ey
  cases r1 with
  | ol hp ro =>
    rename_i xs fs
    have cp : ∀ a, (g ++ (p :: fs ++ F2)).count a = g.count a + (fs.count a + (if p = a then 1 else 0)) + F2.count a := fun a => by
      rw [List.count_append, List.count_append, List.count_cons]
      by_cases e : p = a
      · rw [if_pos e, if_pos (by simpa using e)]; omega
      · rw [if_neg e, if_neg (by simpa using e)]; omega
    have hp1 := cp p
    rw [if_pos rfl] at hp1
    obtain ⟨g1, g2, g3, g4⟩ := h.fr p (by omega)
    have other : ∀ {a u}, a ≠ p → H a = some u → upd H p (.lst (xs ++ [v])) a = some u := fun {a u} n e => by rw [upd_ne n]; exact e
    have nin : ∀ {l : List Addr} {a}, l.count p = 0 → a ∈ l → a ≠ p := fun {l a} z m e => by
      subst e
      have := pos_mem m
      omega
    have rn := Okvs.snoc (ro.tr (Same.refl S) fun a m u e => other (nin (by omega) m) e) (rg.tr (Same.refl S) fun a m u e => other (nin (by omega) m) e)
    refine ⟨xs, hp, ro.len, S, (p :: (fs ++ g)) ++ F2, ⟨h.st.ss, fun a u e => ?_, fun a u f e => ?_, h.st.gr⟩, ⟨fun p1 q1 e => ?_, h.iv.lst hp, h.iv.ts⟩, .cons (f := p :: (fs ++ g)) ⟨_, rfl, .ol upd_same rn⟩ (h2.en.tr (Same.refl S) (fun a m u e => other (nin (by omega) m) e) fun t m tv => ?_), fun a m => ?_, h.nv⟩
    · exact other (fun z => by rw [z, g2] at e; cases e) (h.sh a u e)
    · exact other (fun z => by rw [z, g3] at e; cases e) (h.st.hh a u f e)
    · obtain ⟨dr, k1, k2⟩ := h.iv.dr p1 q1 e
      have := g4.1 p1 q1 e
      exact ⟨dr.put this.1 this.2, k1, k2⟩
    · rcases List.mem_append.mp m with m | m
      · obtain ⟨x, hx, rfl⟩ := List.mem_map.mp m
        rw [nv x hx] at tv; cases tv
      · rw [h.nv t m] at tv; cases tv
    · have ca := cp a
      rw [List.cons_append, List.count_cons, List.count_append, List.count_append] at m ⊢
      have h3 := h.fr a
      rw [ca] at h3
      by_cases e : p = a
      · rw [if_pos (by simpa using e)] at m ⊢
        rw [if_pos e] at h3
        obtain ⟨k1, k2⟩ := h3 (by omega)
        exact ⟨by omega, k2⟩
      · rw [if_neg (by simpa using e)] at m ⊢
        rw [if_neg e] at h3
        obtain ⟨k1, k2⟩ := h3 (by omega)
        exact ⟨by omega, k2⟩
theorem lcE_good {x : Da} {el : DE} {N : List Ow → Prop} {E : Exn → Prop} (q : (lcE dg dt el ρ x).good N E) : (dg ρ (.dat x)).good (fun ρ1 => (dt ρ1).good (fun c => if c = true then (el ρ1).good (fun s => ∃ o, s = .val o ∧ N [o]) (fun _ => False) else N []) fun _ => False) fun _ => False := by
  unfold lcE at q
  refine G.good_mono (fun ρ1 k => ?_) (fun _ h => h) (G.good_calm (G.good_bind.mp q))
  refine G.good_mono (fun c k2 => ?_) (fun _ h => h) (G.good_calm (G.good_bind.mp k))
  cases c with
  | true =>
    refine iteT (G.good_mono (fun s k3 => ?_) (fun _ h => h) (G.good_calm (G.good_bind.mp (show G.good (G.bind _ _) _ _ from k2))))
    cases s with
    | val o => exact ⟨o, rfl, k3⟩
    | no => cases k3
    | view _ => cases k3
    | src => cases k3
    | slf => cases k3
  | false => exact iteF k2
theorem eg_lc {el : TE} {de : DE} {vs : List Nat} (hi : WiG K b W k true wi di) (hg : TgG K b (fun _ _ _ _ => False) false g js dg) (hj : ∀ j ∈ js, j ∈ vs) (ht : EvGB K b (fun _ _ _ _ => False) true tt dt) (he : EvG K b (fun _ _ _ _ => False) true el de) :
    EvG K b W true (tLc wi g tt el vs) (dLc di dg dt de vs) := fun ρ σ H ps Q nv a q => by
  have nv := nv rfl
  refine hi ρ σ H ps _ (fun _ => nv) a (G.good_mono (fun xs k H1 is sr J a1 hv his hJ => ?_) (fun _ h => h) (G.good_bind.mp q))
  intro D nD
  cases hc : noes ρ vs && small xs.length with
  | false => rw [if_neg (by rw [hc]; exact Bool.false_ne_true)] at k; cases k
  | true =>
    rw [if_pos hc] at k
    rw [Bool.and_eq_true] at hc
    obtain ⟨hno, hsm⟩ := hc
    have nvs : NV (sr ++ ps) := fun x hx => by
      rcases List.mem_append.mp hx with hx | hx
      · exact hv x hx
      · exact nv x hx
    have k := G.good_bind.mp k
    refine ⟨fun i m H => ∃ acc, At K b ρ (L2.wipe σ vs) H ((.ref D, .val (.ol acc)) :: (sr ++ ps)) ∧ i + m = xs.length ∧ acc.length ≤ i ∧ (lcG (lcE dg dt de ρ) (xs.drop i)).good (fun r => ∀ H' v, At K b ρ σ H' ((v, .val (.ol (acc ++ r))) :: ps) → Q v H') (Thr K b W ps), ⟨xs.length, [], ?_, by omega, Nat.le_refl _, ?_⟩, ?_⟩
    · obtain ⟨S0, F0, A0⟩ := a1.wiped hno
      exact ⟨S0, _, A0.pushF (ds := []) nD .nil⟩
    · exact G.good_mono (fun r h H' v a' => h H' v (by rw [List.nil_append] at a'; exact a')) (fun _ h => h) k
    rintro i m H2 ⟨acc, a2, hm, hl, k2⟩
    obtain ⟨S, F, A2⟩ := id a2
    have kept : ∀ i ∈ is, ρ[i]? = ρ[i]? ∧ (L2.wipe σ vs)[i]? = σ[i]? := fun i mi => ⟨rfl, wipe_out fun m => his.2 i mi (noes_get hno m)⟩
    obtain ⟨j1, j2⟩ := hJ ρ (L2.wipe σ vs) S H2 _ F i A2 kept fun x hx => List.mem_cons_of_mem _ (List.mem_append_left _ hx)
    have nvD : NV ((.ref D, .val (.ol acc)) :: (sr ++ ps)) := nvs.cons rfl
    by_cases hi : i < xs.length
    · have hx : xs[i]? = some xs[i] := List.getElem?_eq_getElem hi
      obtain ⟨go, yl⟩ := j1 _ hx
      rw [List.drop_eq_getElem_cons hi] at k2
      have k3 := lcE_good (G.good_mono (fun _ h => h) (fun _ h => h) (G.good_bind.mp k2))
      refine .inr ⟨go, fun H' => ∃ acc, At K b ρ (L2.wipe σ vs) H' ((.ref D, .val (.ol acc)) :: (sr ++ ps)) ∧ acc.length ≤ i + 1 ∧ (lcG (lcE dg dt de ρ) (xs.drop (i + 1))).good (fun r => ∀ H' v, At K b ρ σ H' ((v, .val (.ol (acc ++ r))) :: ps) → Q v H') (Thr K b W ps), fun H' ⟨acc, b1, b2, b3⟩ => ⟨m - 1, by omega, acc, b1, by omega, b2, b3⟩, fun x H' hy => ?_⟩
      refine hg ρ (L2.wipe σ vs) H' _ x (.dat xs[i]) _ nofun (yl x H' hy) (G.good_mono (fun ρ3 k4 σ3 H3 a3 o1 o2 => ?_) (fun _ h => h.elim) k3)
      refine ⟨(wipe_same o1 hj).trans wipe_twice, ht ρ3 σ3 H3 _ _ (fun _ => nvD) a3 (G.good_mono (fun c k5 H4 a4 => ?_) (fun _ h => h.elim) k4)⟩
      cases c with
      | true =>
        refine iteT (he ρ3 σ3 H4 _ _ (fun _ => nvD) a4 (G.good_mono (fun s k6 H5 w a5 => ?_) (fun _ h => h.elim) (show G.good _ _ _ from k5)))
        obtain ⟨o, rfl, k7⟩ := k6
        obtain ⟨ys, hD, ly, a6⟩ := At.grow (a5.back hno o1 o2 hj) nvs
        refine ⟨ys, hD, Nat.lt_of_le_of_lt (show _ ≤ 1000000 by have := small_le hsm; omega) (by decide), acc ++ [o], a6, by rw [List.length_append]; show _ + 1 ≤ _; omega, ?_⟩
        exact G.good_mono (fun r h H' v a' => h H' v (by rw [← List.append_assoc]; exact a')) (fun _ h => h) (G.good_bind.mp k7)
      | false =>
        refine iteF ⟨acc, a4.back hno o1 o2 hj, by omega, ?_⟩
        exact G.good_mono (fun r h H' v a' => h H' v a') (fun _ h => h) (G.good_bind.mp (show G.good (G.bind _ _) _ _ from k5))
    · have e : i = xs.length := by omega
      subst e
      rw [List.drop_length] at k2
      refine .inl ⟨j2 rfl, k2 H2 _ ?_⟩
      rw [List.append_nil]
      exact (At.unwiped hno a2).midOut
theorem egb_yes : EvGB K b W c tYes dYes := fun ρ σ H ps Q nv a q => q H a
theorem pd_lc {elt tg it : Expr} {ifs : List Expr} {scope : Scope} {own : List (Str × Nat)} {el : TE} {de : DE} (hi : PDI K X W k true tg it wi di) (hj : (js.all fun j => (own.map (·.2)).contains j) = true) (p : PE X (.ListComp elt [⟨tg, it, ifs, 0⟩] scope pos) (tLc wi g tt el (own.map (·.2))))
    (hg : ∀ b, TgG K b (fun _ _ _ _ => False) false g js dg) (ht : ∀ b, EvGB K b (fun _ _ _ _ => False) true tt dt) (he : ∀ b, EvG K b (fun _ _ _ _ => False) true el de) :
    PD K X W true (.ListComp elt [⟨tg, it, ifs, 0⟩] scope pos) (tLc wi g tt el (own.map (·.2))) (dLc di dg dt de (own.map (·.2))) := ⟨p, fun b => eg_lc (hi.ev b) (hg b) (fun j m => by have := List.all_eq_true.mp hj j m; simpa using this) (ht b) (he b)⟩
end
end Ge

set_option maxHeartbeats 400000
namespace Ge
open PySem PySem.Spec PyProof.Rows L2 Sd
variable [HasT]
/-! ### what loops walk -/
/-- a list (false) or a tuple (true) of data -/
def sqD (s : Sl) : Option (Bool × List Da) := match s with
  | .val (.fz (.tup ds)) => some (true, ds) | .val (.fz (.lst ds)) => some (false, ds)
  | .val (.ol os) => match allFz os with | some ds => some (false, ds) | none => none
  | _ => none
abbrev DL := List Sl → G (Bool × List Da)
def dSrcV (i : Nat) : DL := fun ρ => optG (sqD (get ρ i))
def dSrc (a : DE) : DL := fun ρ => (a ρ).bind fun s => optG (sqD s)
def dItA (a : DL) : DI := fun ρ => (a ρ).bind fun p => .pure p.2
def enuD (xs : List Da) : List Da := xs.mapIdx fun i x => .tup [.int (i : Nat), x]
def dItEnu (a : DL) : DI := fun ρ => (a ρ).bind fun p => .pure (enuD p.2)
def zipD (xs ys : List Da) : List Da := List.zipWith (fun x y => .tup [x, y]) xs ys
def dItZip (a c : DL) : DI := fun ρ => (a ρ).bind fun p => (c ρ).bind fun q => if p.1 = q.1 then .pure (zipD p.2 q.2) else .fail
def dItRev (a : DL) : DI := fun ρ => (a ρ).bind fun p => .pure p.2.reverse
def smallI (i : Int) : Bool := decide (-1000000 ≤ i) && decide (i ≤ 1000000)
def rngD (lo hi : Int) : List Da := (List.range (hi - lo).toNat).map fun (i : Nat) => .int (lo + (i : Int))
def dItR1 (a : DE) : DI := fun ρ => (a ρ).bind fun s => match s with
  | .val (.fz (.int j)) => if smallI j = true then .pure (rngD 0 j) else .fail | _ => .fail
def dItR2 (a c : DE) : DI := fun ρ => (a ρ).bind fun s => (c ρ).bind fun t => match s, t with
  | .val (.fz (.int i)), .val (.fz (.int j)) => if (smallI i && smallI j) = true then .pure (rngD i j) else .fail | _, _ => .fail
def rngDn (hi lo : Int) : List Da := (List.range (hi - lo).toNat).map fun (i : Nat) => .int (hi + (i : Int) * -1)
/-- range(i, j, -1) -/
def dItRD (a c : DE) : DI := fun ρ => (a ρ).bind fun s => (c ρ).bind fun t => match s, t with
  | .val (.fz (.int i)), .val (.fz (.int j)) => if (smallI i && smallI j) = true then .pure (rngDn i j) else .fail | _, _ => .fail
def signsD (z : Str) : List Da := z.cps.toList.map fun c => .str ⟨#[c]⟩
def dItS (a : DE) : DI := fun ρ => (a ρ).bind fun s => match s with
  | .val (.fz (.str z)) => .pure (signsD z) | _ => .fail
def isSq (K : PySem.W.Frag) (H : Hp) (k : Bool) (a : Addr) (ys : List V) : Prop := if k = true then SqT K H a ys else SqL K H a ys
/-- the value is worth a list or tuple of data that stays -/
def Stays2 (K : PySem.W.Frag) (b : Bs) (ρ0 : List Sl) (σ0 : L2.St) (is : List Nat) (sr : List (V × Sl)) (a : Addr) (p : Bool × List Da) : Prop := ∀ ρ σ S H qs F, AtS K b ρ σ S H qs F → (∀ i ∈ is, ρ[i]? = ρ0[i]? ∧ σ[i]? = σ0[i]?) → (∀ x ∈ sr, x ∈ qs) →
  ∃ ys, isSq K H p.1 a ys ∧ Rps K S ys p.2
def LsG2 (K : PySem.W.Frag) (b : Bs) (W : WX) (k c : Bool) (te : TE) (d : DL) : Prop := ∀ ρ σ H ps (Q : VK), (c = true → NV ps) → At K b ρ σ H ps →
  (d ρ).good (fun p => ∀ H' is sr a, At K b ρ σ H' (sr ++ ps) → NV sr → KeepOk k ρ is → Stays2 K b ρ σ is sr a p → Q (.ref a) H') (Thr K b W ps) → te σ H Q
structure PL (K : PySem.W.Frag) (X : Cx) (W : WX) (k c : Bool) (e : Expr) (te : TE) (d : DL) : Prop where
  pe : PE X e te
  ev : ∀ b, LsG2 K b W k c te d
section
variable {K : PySem.W.Frag} {b : Bs} {ρ : List Sl} {σ : L2.St} {S H S' H' : Hp} {ps : List (V × Sl)} {v : V} {s : Sl} {F f : List Addr} {d : Da} {X : Cx} {W : WX} {m k c c1 c2 c3 : Bool}
  {e e1 e2 e3 tg : Expr} {es : List Expr} {te ta tb tc : TE} {tt tu : TT} {tx : TA} {da db dc : DE} {dt du : DB} {dx : DA} {pos : Pos} {t t1 t2 : TS} {d0 d1 d2 : DS} {st : Stmt} {dl dl2 : DL} {wi : TI} {di : DI}
theorem SlotOk.seq {p : Bool × List Da} (r : SlotOk K b S H (some v) f s) (e : Same S H) (h : sqD s = some p) : ∃ a, v = .ref a ∧ ∃ ys, isSq K H p.1 a ys ∧ Rps K S ys p.2 := by
  unfold sqD at h
  split at h
  · cases h
    obtain ⟨x, ex, r⟩ := r
    cases ex
    cases r with
    | fz r =>
      cases r with
      | tup hs ha => exact ⟨_, rfl, _, Ge.seqT e hs, ha⟩
  · cases h
    obtain ⟨x, ex, r⟩ := r
    cases ex
    cases r with
    | fz r =>
      cases r with
      | lst hs ha => exact ⟨_, rfl, _, SqL.of (e _ _ hs), ha⟩
  · split at h
    · cases h
      rename_i os ds q
      obtain ⟨x, ex, r⟩ := r
      cases ex
      cases r with
      | ol hs t => exact ⟨_, rfl, _, SqL.of hs, (t.fzs q).1⟩
    · cases h
  · cases h
theorem ls_var (i : Nat) : LsG2 K b W true c (tVar i) (dSrcV i) := fun ρ σ H ps Q _ a q => by
  obtain ⟨p, ep, k⟩ := optG_some q
  obtain ⟨S, F, A⟩ := id a
  have nn : get ρ i ≠ .no := fun z => by rw [z] at ep; cases ep
  have e0 := get_some nn
  obtain ⟨w, f, ew, r, m, _⟩ := A.en.slot e0
  obtain ⟨o, eo⟩ : ∃ o, get ρ i = .val o := by
    cases e : get ρ i with
    | val o => exact ⟨o, rfl⟩
    | no => rw [e] at ep; cases ep
    | view _ => rw [e] at ep; cases ep
    | src => rw [e] at ep; cases ep
    | slf => rw [e] at ep; cases ep
  obtain ⟨x, rfl⟩ : ∃ x, w = some x := by
    rw [eo] at r
    obtain ⟨x, ex, _⟩ := r
    exact ⟨x, ex⟩
  obtain ⟨ad, rfl, _⟩ := r.seq A.sh ep
  refine ⟨_, ew, k H [i] [] ad a (fun x m => by cases m) ⟨nofun, fun j mj => by rw [List.mem_singleton.mp mj]; exact nn⟩ fun ρ' σ' S' H' qs F' A' hk _ => ?_⟩
  obtain ⟨h1, h2⟩ := hk i (List.mem_singleton.mpr rfl)
  obtain ⟨w', f', ew', r', _, _⟩ := A'.en.slot (h1.trans e0)
  rw [h2, ew] at ew'
  cases ew'
  obtain ⟨ad', ea, ys, h3, h4⟩ := r'.seq A'.sh ep
  cases ea
  exact ⟨ys, h3, h4⟩
theorem ls_val (h : EvG K b W c ta da) : LsG2 K b W k c ta (dSrc da) := fun ρ σ H ps Q nv a q => by
  refine h ρ σ H ps _ nv a (G.good_mono (fun s k1 H1 x a1 => ?_) (fun _ h => h) (G.good_bind.mp q))
  obtain ⟨p, ep, k1⟩ := optG_some k1
  obtain ⟨S, F, A⟩ := id a1
  obtain ⟨f, r, _⟩ := A.mem List.mem_cons_self
  obtain ⟨ad, ev, _⟩ := r.seq A.sh ep
  have ev : x = .ref ad := ev
  subst ev
  have nvs : s.isView = false := by
    cases s with
    | view _ => cases ep
    | _ => rfl
  refine k1 H1 [] [(.ref ad, s)] ad a1 (fun x m => by rw [List.mem_singleton.mp m]; exact nvs) ⟨fun _ => rfl, fun i m => by cases m⟩ fun ρ' σ' S' H' qs F' A' _ hs => ?_
  obtain ⟨f', r', _⟩ := A'.mem (hs _ (List.mem_singleton.mpr rfl))
  obtain ⟨ad', ea, ys, h3, h4⟩ := r'.seq A'.sh ep
  cases ea
  exact ⟨ys, h3, h4⟩
theorem pl_var {i : Nat} (p : PE X e (tVar i)) : PL K X W true c e (tVar i) (dSrcV i) := ⟨p, fun _ => ls_var i⟩
theorem pl_val (h : PD K X W c e ta da) : PL K X W k c e ta (dSrc da) := ⟨h.pe, fun b => ls_val (h.ev b)⟩
end
end Ge
namespace Sd
open PySem PySem.Spec PyProof.Rows L2
/-! ### a list or a tuple, walked; its items with their numbers -/
def iSeq (K : PySem.W.Frag) (tl : TE) : TI := fun σ H R => tl σ H fun x H1 => ∃ a, x = .ref a ∧ (((∃ xs, SqL K H1 a xs) ∧ R (Itl K a) H1) ∨ ((∃ xs, SqT K H1 a xs) ∧ R (Itt K a) H1))
theorem pi_seq {X : Cx} {tg l : Expr} {tl : TE} (hl : PE X l tl) : PI X tg l (iSeq X.K tl) := by
  constructor
  intro pins s σ H R I h
  refine thn (hl.run pins s σ H _ I h) ?_
  rintro v s1 ⟨x, H1, I1, r1, a, rfl, q1⟩
  cases r1
  have fp : ∀ c ∈ [s1.heap.objs.size], FpOk X pins H1 c := fun c m => by
    rw [List.mem_singleton.mp m]
    exact I1.fpOk (Nat.le_refl _) (I1.hok.fresh (Nat.le_refl _))
  rcases q1 with ⟨⟨xs, hq⟩, q⟩ | ⟨⟨xs, hq⟩, q⟩
  · obtain ⟨its, rv, p, _⟩ := I1.list hq
    exact wpAny_pyIter_list p.isList ⟨_, _, _, _, H1, rfl, Inv.kept (t' := s1.toks) I1 fun _ _ e => Heap.get?_push_of_some _ e, turn_list a _, ⟨_, Heap.get?_push_size _ rfl, rfl, rfl⟩, fp, q⟩
  · obtain ⟨its, rv, p, _⟩ := I1.tuple hq
    exact wpAny_pyIter_tuple p ⟨_, _, _, _, H1, rfl, Inv.kept (t' := s1.toks) I1 fun _ _ e => Heap.get?_push_of_some _ e, turn_tuple a _, ⟨_, Heap.get?_push_size _ rfl, rfl, rfl⟩, fp, q⟩
def iNum (K : PySem.W.Frag) (ta : TA) : TI := fun σ H R => ta σ H fun vs H1 => ∃ a, vs = [.ref a] ∧ (((∃ xs, SqL K H1 a xs) ∧ R (Ite K a) H1) ∨ ((∃ xs, SqT K H1 a xs) ∧ R (ItT K a) H1))
theorem pi_num {X : Cx} {e : Expr} {ta : TA} {p pos tp : Pos} {elts : List Expr} {kk : Nat} (hg : Gl X "enumerate") (hm : X.mg "enumerate" = none) (ha : PA X [e] ta)
    (hs : starEach [e] X.env = [(false, eval e X.env)] := by rfl) : PI X (.Tuple elts kk tp) (.Call (.Name "enumerate" p) [e] [] pos) (iNum X.K ta) := by
  constructor
  intro pins s σ H R I h
  refine Call_ (ld_blt I hg hm boot_enumerate (PyProof.Rows.callWith_type1 (thn (ha.run pos pins s σ H _ I h) ?_) hs rfl))
  rintro us s1 ⟨vs, H1, I1, r1, a, rfl, q⟩
  match us, r1 with
  | [_], .cons rfl .nil =>
    have fp : ∀ c ∈ [s1.heap.objs.size + 1, s1.heap.objs.size], FpOk X pins H1 c := fun c m => by
      have lc : s1.heap.objs.size ≤ c := by
        simp only [List.mem_cons, List.not_mem_nil, or_false] at m
        omega
      exact I1.fpOk lc (I1.hok.fresh lc)
    rcases q with ⟨⟨xs, hq⟩, q⟩ | ⟨⟨xs, hq⟩, q⟩
    · obtain ⟨its, rv, p', _⟩ := I1.list hq
      exact call_enumerate_list p'.isList fun h' g hit _ hk => wpAny_pyIter_enum g ⟨_, _, _, _, H1, rfl, Inv.kept (t' := s1.toks) I1 hk, turn_enum a _ _, ⟨⟨.none, g⟩, hit, Nat.succ_ne_self _⟩, fp, q⟩
    · obtain ⟨its, rv, p', _⟩ := I1.tuple hq
      exact call_enuT p' fun h' g hit hk => wpAny_pyIter_enum g ⟨_, _, _, _, H1, rfl, Inv.kept (t' := s1.toks) I1 hk, turn_enuT a _ _, ⟨⟨.none, g⟩, hit, Nat.succ_ne_self _⟩, fp, q⟩
end Sd
namespace Ge
open PySem PySem.Spec PyProof.Rows L2 Sd
variable [HasT]
section
variable {K : PySem.W.Frag} {b : Bs} {ρ : List Sl} {σ : L2.St} {S H S' H' : Hp} {ps : List (V × Sl)} {v : V} {s : Sl} {F f : List Addr} {d : Da} {X : Cx} {W : WX} {m k c c1 c2 c3 : Bool}
  {e e1 e2 e3 tg : Expr} {es : List Expr} {te ta tb tc : TE} {tt tu : TT} {tx : TA} {da db dc : DE} {dt du : DB} {dx : DA} {pos : Pos} {t t1 t2 : TS} {d0 d1 d2 : DS} {st : Stmt} {dl dl2 : DL} {wi : TI} {di : DI}
theorem Stays2.here {is sr a} {p : Bool × List Da} (hst : Stays2 K b ρ σ is sr a p) (a1 : At K b ρ σ H (sr ++ ps)) : ∃ ys, isSq K H p.1 a ys := by
  obtain ⟨S, F, A⟩ := a1
  obtain ⟨ys, h1, _⟩ := hst ρ σ S H _ F A (fun _ _ => ⟨rfl, rfl⟩) fun x m => List.mem_append_left _ m
  exact ⟨ys, h1⟩
theorem itl_ok {is sr ad} {p : Bool × List Da} (hst : Stays2 K b ρ σ is sr ad p) : ItOk K b ρ σ is sr (if p.1 = true then Itt K ad else Itl K ad) p.2 := by
  intro ρ' σ' S' H' qs F' i A' hk hs
  obtain ⟨ys, h1, h2⟩ := hst ρ' σ' S' H' qs F' A' hk hs
  unfold isSq at h1
  cases e : p.1 with
  | false =>
    rw [e, if_neg Bool.false_ne_true] at h1
    refine ⟨fun x hx => ?_, fun hi => ⟨_, h1, by rw [h2.len, hi]; exact Nat.le_refl _⟩⟩
    obtain ⟨w, hw, rw'⟩ := Rps.get h2 hx
    refine ⟨⟨_, _, h1, hw⟩, fun u H2 ⟨e1, hu⟩ => ?_⟩
    subst e1
    rw [Option.some.inj ((hu _ h1).symm.trans hw)]
    exact ⟨S', F', A'.pushD rw'⟩
  | true =>
    rw [e, if_pos rfl] at h1
    refine ⟨fun x hx => ?_, fun hi => ⟨_, h1, by rw [h2.len, hi]; exact Nat.le_refl _⟩⟩
    obtain ⟨w, hw, rw'⟩ := Rps.get h2 hx
    refine ⟨⟨_, _, h1, hw⟩, fun u H2 ⟨e1, hu⟩ => ?_⟩
    subst e1
    rw [Option.some.inj ((hu _ h1).symm.trans hw)]
    exact ⟨S', F', A'.pushD rw'⟩
theorem wi_any (h : LsG2 K b W k c ta dl) : WiG K b W k c (Sd.iSeq K ta) (dItA dl) := fun ρ σ H ps R nv a q => by
  refine h ρ σ H ps _ nv a (G.good_mono (fun p k1 H1 is sr ad a1 ns hk hst => ⟨ad, rfl, ?_⟩) (fun _ h => h) (G.good_bind.mp q))
  obtain ⟨ys, hq⟩ := hst.here a1
  have ok := itl_ok hst
  unfold isSq at hq
  cases e : p.1 with
  | false =>
    rw [e, if_neg Bool.false_ne_true] at hq ok
    exact .inl ⟨⟨ys, hq⟩, k1 H1 is sr _ a1 ns hk ok⟩
  | true =>
    rw [e, if_pos rfl] at hq ok
    exact .inr ⟨⟨ys, hq⟩, k1 H1 is sr _ a1 ns hk ok⟩
theorem ite_ok {is sr ad} {p : Bool × List Da} (hst : Stays2 K b ρ σ is sr ad p) : ItOk K b ρ σ is sr (if p.1 = true then ItT K ad else Ite K ad) (enuD p.2) := by
  intro ρ' σ' S' H' qs F' i A' hk hs
  obtain ⟨ys, h1, h2⟩ := hst ρ' σ' S' H' qs F' A' hk hs
  have len : (enuD p.2).length = p.2.length := List.length_mapIdx
  have item : ∀ {x}, (enuD p.2)[i]? = some x → ∃ y, p.2[i]? = some y ∧ x = .tup [.int (i : Nat), y] := fun {x} hx => by
    unfold enuD at hx
    rw [List.getElem?_mapIdx] at hx
    cases e : p.2[i]? with
    | none => rw [e] at hx; cases hx
    | some y => rw [e] at hx; cases hx; exact ⟨y, rfl, rfl⟩
  have new : ∀ {T y w}, H' T = none → Rp K S' w y → At K b ρ' σ' (upd H' T (.tup [.int (i : Nat), w])) ((.ref T, .dat (.tup [.int (i : Nat), y])) :: qs) := fun {T y w} nT r =>
    ⟨_, F', (A'.new (o := .tup [.int (i : Nat), w]) nT).pushD (.tup (SqT.of upd_same) (Rps.same (same_new (A'.sh.free nT)) _ _ (.cons (.int _) (.cons r .nil))))⟩
  unfold isSq at h1
  cases e : p.1 with
  | false =>
    rw [e, if_neg Bool.false_ne_true] at h1
    refine ⟨fun x hx => ?_, fun hi => ⟨_, h1, by rw [h2.len, hi, len]; exact Nat.le_refl _⟩⟩
    obtain ⟨y, hy, rfl⟩ := item hx
    obtain ⟨w, hw, rw'⟩ := Rps.get h2 hy
    refine ⟨⟨_, _, h1, hw⟩, ?_⟩
    rintro u H2 ⟨T, z, rfl, nT, rfl, hu⟩
    rw [Option.some.inj ((hu _ h1).symm.trans hw)]
    exact new nT rw'
  | true =>
    rw [e, if_pos rfl] at h1
    refine ⟨fun x hx => ?_, fun hi => ⟨_, h1, by rw [h2.len, hi, len]⟩⟩
    obtain ⟨y, hy, rfl⟩ := item hx
    obtain ⟨w, hw, rw'⟩ := Rps.get h2 hy
    refine ⟨⟨_, _, h1, hw⟩, ?_⟩
    rintro u H2 ⟨T, z, rfl, nT, rfl, hu⟩
    rw [Option.some.inj ((hu _ h1).symm.trans hw)]
    exact new nT rw'
theorem wi_num (h : LsG2 K b W k c ta dl) : WiG K b W k c (iNum K (tCons ta tNil)) (dItEnu dl) := fun ρ σ H ps R nv a q => by
  refine h ρ σ H ps _ nv a (G.good_mono (fun p k1 H1 is sr ad a1 ns hk hst => ⟨ad, rfl, ?_⟩) (fun _ h => h) (G.good_bind.mp q))
  obtain ⟨ys, hq⟩ := hst.here a1
  have ok := ite_ok hst
  unfold isSq at hq
  cases e : p.1 with
  | false =>
    rw [e, if_neg Bool.false_ne_true] at hq ok
    exact .inl ⟨⟨ys, hq⟩, k1 H1 is sr _ a1 ns hk ok⟩
  | true =>
    rw [e, if_pos rfl] at hq ok
    exact .inr ⟨⟨ys, hq⟩, k1 H1 is sr _ a1 ns hk ok⟩
theorem KeepOk.app {is js : List Nat} (h1 : KeepOk k ρ is) (h2 : KeepOk k ρ js) : KeepOk k ρ (is ++ js) := ⟨fun e => by rw [h1.1 e, h2.1 e]; rfl, fun i m => by
  rcases List.mem_append.mp m with m | m
  · exact h1.2 i m
  · exact h2.2 i m⟩
theorem NV.app {qs : List (V × Sl)} (h1 : NV qs) (h2 : NV ps) : NV (qs ++ ps) := fun x m => by
  rcases List.mem_append.mp m with m | m
  · exact h1 x m
  · exact h2 x m
theorem itz_ok {is js sr qr a1 a2} {p q : Bool × List Da} (h : p.1 = q.1) (hp : Stays2 K b ρ σ is sr a1 p) (hq : Stays2 K b ρ σ js qr a2 q) : ItOk K b ρ σ (is ++ js) (qr ++ sr) (if p.1 = true then RZ.ItzT K a1 a2 else Itz K a1 a2) (zipD p.2 q.2) := by
  intro ρ' σ' S' H' qs F' i A' hk hs
  obtain ⟨ys, h1, h2⟩ := hp ρ' σ' S' H' qs F' A' (fun i m => hk i (List.mem_append_left _ m)) fun x m => hs x (List.mem_append_right _ m)
  obtain ⟨zs, g1, g2⟩ := hq ρ' σ' S' H' qs F' A' (fun i m => hk i (List.mem_append_right _ m)) fun x m => hs x (List.mem_append_left _ m)
  have item : ∀ {x}, (zipD p.2 q.2)[i]? = some x → ∃ y z, p.2[i]? = some y ∧ q.2[i]? = some z ∧ x = .tup [y, z] := fun {x} hx => by
    unfold zipD at hx
    rw [List.getElem?_zipWith] at hx
    cases e1 : p.2[i]? with
    | none => rw [e1] at hx; cases hx
    | some y =>
      cases e2 : q.2[i]? with
      | none => rw [e1, e2] at hx; cases hx
      | some z => rw [e1, e2] at hx; cases hx; exact ⟨y, z, rfl, rfl, rfl⟩
  have new : ∀ {T y w y' w'}, H' T = none → Rp K S' w y → Rp K S' w' y' → At K b ρ' σ' (upd H' T (.tup [w, w'])) ((.ref T, .dat (.tup [y, y'])) :: qs) := fun {T y w y' w'} nT r r' =>
    ⟨_, F', (A'.new (o := .tup [w, w']) nT).pushD (.tup (SqT.of upd_same) (Rps.same (same_new (A'.sh.free nT)) _ _ (.cons r (.cons r' .nil))))⟩
  have stop : i = (zipD p.2 q.2).length → ys.length ≤ i ∨ zs.length ≤ i := fun hi => by
    unfold zipD at hi
    rw [List.length_zipWith] at hi
    rw [h2.len, g2.len]
    omega
  unfold isSq at h1 g1
  rw [← h] at g1
  cases e : p.1 with
  | false =>
    rw [e, if_neg Bool.false_ne_true] at h1 g1
    refine ⟨fun x hx => ?_, fun hi => ⟨_, _, h1, g1, stop hi⟩⟩
    obtain ⟨y, z, hy, hz, rfl⟩ := item hx
    obtain ⟨w, hw, rw1⟩ := Rps.get h2 hy
    obtain ⟨w', hw', rw2⟩ := Rps.get g2 hz
    refine ⟨⟨_, _, _, _, h1, g1, hw, hw'⟩, ?_⟩
    rintro u H2 ⟨T, x1, x2, rfl, nT, rfl, hu, hu'⟩
    rw [Option.some.inj ((hu _ h1).symm.trans hw), Option.some.inj ((hu' _ g1).symm.trans hw')]
    exact new nT rw1 rw2
  | true =>
    rw [e, if_pos rfl] at h1 g1
    refine ⟨fun x hx => ?_, fun hi => ⟨_, _, h1, g1, stop hi⟩⟩
    obtain ⟨y, z, hy, hz, rfl⟩ := item hx
    obtain ⟨w, hw, rw1⟩ := Rps.get h2 hy
    obtain ⟨w', hw', rw2⟩ := Rps.get g2 hz
    refine ⟨⟨_, _, _, _, h1, g1, hw, hw'⟩, ?_⟩
    rintro u H2 ⟨T, x1, x2, rfl, nT, rfl, hu, hu'⟩
    rw [Option.some.inj ((hu _ h1).symm.trans hw), Option.some.inj ((hu' _ g1).symm.trans hw')]
    exact new nT rw1 rw2
theorem wi_zip (h : LsG2 K b W k c ta dl) (h' : LsG2 K b W k c tb dl2) : WiG K b W k c (RZ.iZipA K (tCons ta (tCons tb tNil))) (dItZip dl dl2) := fun ρ σ H ps R nv a q => by
  refine h ρ σ H ps _ nv a (G.good_mono (fun p k1 H1 is sr ad a1 ns hk hst => ?_) (fun _ h => h) (G.good_bind.mp q))
  refine h' ρ σ H1 (sr ++ ps) _ (fun e => ns.app (nv e)) a1 (G.good_mono (fun p2 k2 H2 js qr ad2 a2 ns2 hk2 hst2 => ?_) (fun _ h => h.drops) (G.good_bind.mp k1))
  by_cases e : p.1 = p2.1
  · rw [if_pos e] at k2
    rw [← List.append_assoc] at a2
    have ok := itz_ok e hst hst2
    obtain ⟨S, F, A⟩ := id a2
    obtain ⟨ys, hq, _⟩ := hst ρ σ S H2 _ F A (fun _ _ => ⟨rfl, rfl⟩) fun x m => List.mem_append_left _ (List.mem_append_right _ m)
    obtain ⟨zs, hq2, _⟩ := hst2 ρ σ S H2 _ F A (fun _ _ => ⟨rfl, rfl⟩) fun x m => List.mem_append_left _ (List.mem_append_left _ m)
    have fin := k2 H2 (is ++ js) (qr ++ sr) _ a2 (ns2.app ns) (hk.app hk2) ok
    unfold isSq at hq hq2
    rw [← e] at hq2
    refine ⟨ad, ad2, ys, zs, rfl, ?_⟩
    cases e1 : p.1 with
    | false =>
      rw [e1, if_neg Bool.false_ne_true] at hq hq2 fin
      exact .inl ⟨hq, hq2, fin⟩
    | true =>
      rw [e1, if_pos rfl] at hq hq2 fin
      exact .inr ⟨hq, hq2, fin⟩
  · rw [if_neg e] at k2; cases k2
theorem rng_ok {i j : Int} : ItOk K b ρ σ [] [] (Itr i (j - i).toNat) (rngD i j) := by
  intro ρ' σ' S' H' qs F' n A' _ _
  unfold rngD
  refine ⟨fun x hx => ?_, fun hi => by rw [List.length_map, List.length_range] at hi; exact Nat.le_of_eq hi.symm⟩
  rw [List.getElem?_map] at hx
  by_cases hn : n < (j - i).toNat
  · rw [List.getElem?_range hn] at hx
    cases hx
    refine ⟨hn, ?_⟩
    rintro u H2 ⟨rfl, rfl⟩
    exact ⟨S', F', A'.pushD (.int _)⟩
  · rw [List.getElem?_eq_none (by rw [List.length_range]; omega)] at hx
    cases hx
theorem smallI_le {i : Int} (h : smallI i = true) : -1000000 ≤ i ∧ i ≤ 1000000 := by
  unfold smallI at h
  rw [Bool.and_eq_true] at h
  exact ⟨of_decide_eq_true h.1, of_decide_eq_true h.2⟩
theorem nv_nil : NV [] := fun x m => by cases m
theorem keep_nil : KeepOk k ρ [] := ⟨fun _ => rfl, fun i m => by cases m⟩
theorem wi_r1 (h : EvG K b W c ta da) : WiG K b W k c (iRng1 (tCons ta tNil)) (dItR1 da) := fun ρ σ H ps R nv a q => by
  refine h ρ σ H ps _ nv a (G.good_mono (fun s k1 H1 x a1 => ?_) (fun _ h => h) (G.good_bind.mp q))
  split at k1
  · split at k1
    · rename_i hs
      obtain rfl := a1.vInt
      obtain ⟨b1, b2⟩ := smallI_le hs
      exact ⟨_, rfl, by omega, by omega, by
        have := k1 H1 [] [] _ a1.drop nv_nil keep_nil rng_ok
        rwa [Int.sub_zero] at this⟩
    · cases k1
  · cases k1
theorem wi_r2 (h : EvG K b W c ta da) (h' : EvG K b W false tb db) : WiG K b W k c (iRng2 (tCons ta (tCons tb tNil))) (dItR2 da db) := fun ρ σ H ps R nv a q => by
  refine h ρ σ H ps _ nv a (G.good_mono (fun s k1 H1 x a1 => ?_) (fun _ h => h) (G.good_bind.mp q))
  refine h' ρ σ H1 _ _ nofun a1 (G.good_mono (fun s2 k2 H2 y a2 => ?_) (fun _ h => h.drop) (G.good_bind.mp k1))
  split at k2
  · split at k2
    · rename_i hs
      rw [Bool.and_eq_true] at hs
      obtain rfl := a2.vInt
      obtain rfl := a2.drop.vInt
      obtain ⟨b1, b2⟩ := smallI_le hs.1
      obtain ⟨b3, b4⟩ := smallI_le hs.2
      exact ⟨_, _, rfl, ⟨by omega, by omega, by omega, by omega⟩, k2 H2 [] [] _ a2.drop2 nv_nil keep_nil rng_ok⟩
    · cases k2
  · cases k2
theorem rngd_ok {i j : Int} : ItOk K b ρ σ [] [] (Itc i (-1) (i - j).toNat) (rngDn i j) := by
  intro ρ' σ' S' H' qs F' n A' _ _
  unfold rngDn
  refine ⟨fun x hx => ?_, fun hi => by rw [List.length_map, List.length_range] at hi; exact Nat.le_of_eq hi.symm⟩
  rw [List.getElem?_map] at hx
  by_cases hn : n < (i - j).toNat
  · rw [List.getElem?_range hn] at hx
    cases hx
    refine ⟨hn, ?_⟩
    rintro u H2 ⟨rfl, rfl⟩
    exact ⟨S', F', A'.pushD (.int _)⟩
  · rw [List.getElem?_eq_none (by rw [List.length_range]; omega)] at hx
    cases hx
theorem wi_rd (h : EvG K b W c ta da) (h' : EvG K b W false tb db) : WiG K b W k c (iRng3 (tCons ta (tCons tb (tCons (tUn (rU fun i => .int (-i)) (tC (.int 1))) tNil)))) (dItRD da db) := fun ρ σ H ps R nv a q => by
  refine h ρ σ H ps _ nv a (G.good_mono (fun s k1 H1 x a1 => ?_) (fun _ h => h) (G.good_bind.mp q))
  refine h' ρ σ H1 _ _ nofun a1 (G.good_mono (fun s2 k2 H2 y a2 => ?_) (fun _ h => h.drop) (G.good_bind.mp k1))
  split at k2
  · split at k2
    · rename_i hs
      rw [Bool.and_eq_true] at hs
      obtain rfl := a2.vInt
      obtain rfl := a2.drop.vInt
      obtain ⟨b1, b2⟩ := smallI_le hs.1
      obtain ⟨b3, b4⟩ := smallI_le hs.2
      rename_i i j hs0
      refine ⟨1, rfl, _, _, -1, _, rfl, RgC.neg (by omega) (by omega) (by omega) (by omega), k2 H2 [] [] _ a2.drop2 nv_nil keep_nil ?_⟩
      exact rngd_ok
    · cases k2
  · cases k2
theorem wi_str (h : EvG K b W c ta da) : WiG K b W k c (iStr ta) (dItS da) := fun ρ σ H ps R nv a q => by
  refine h ρ σ H ps _ nv a (G.good_mono (fun s k1 H1 x a1 => ?_) (fun _ h => h) (G.good_bind.mp q))
  split at k1
  · obtain rfl := a1.vStr
    rename_i z
    refine ⟨z, rfl, k1 H1 [] [] _ a1.drop nv_nil keep_nil ?_⟩
    intro ρ' σ' S' H' qs F' n A' _ _
    unfold signsD
    refine ⟨fun x hx => ?_, fun hi => by rw [List.length_map, Array.length_toList] at hi; exact Nat.le_of_eq hi.symm⟩
    rw [List.getElem?_map, Array.getElem?_toList] at hx
    cases e : z.cps[n]? with
    | none => rw [e] at hx; cases hx
    | some cc =>
      rw [e] at hx
      cases hx
      refine ⟨(Array.getElem?_eq_some_iff.mp e).1, ?_⟩
      rintro u H2 ⟨rfl, c', hc', rfl⟩
      rw [e] at hc'
      cases hc'
      exact ⟨S', F', A'.pushD (.str _)⟩
  · cases k1
theorem pdi_any (hK : X.K = K) (h : PL K X W k c e ta dl) : PDI K X W k c tg e (Sd.iSeq K ta) (dItA dl) := ⟨by subst hK; exact pi_seq h.pe, fun b => wi_any (h.ev b)⟩
theorem pdi_str (h : PD K X W c e ta da) : PDI K X W k c tg e (iStr ta) (dItS da) := ⟨pi_str h.pe, fun b => wi_str (h.ev b)⟩
theorem pdi_num {p : Pos} {elts : List Expr} {kk : Nat} {tp : Pos} (hK : X.K = K) (h : PL K X W k c e ta dl) (hg : Gl X "enumerate") (hm : X.mg "enumerate" = none) (h0 : starEach [e] X.env = (false, eval e X.env) :: starEach [] X.env := by rfl) (hs : starEach [e] X.env = [(false, eval e X.env)] := by rfl) :
    PDI K X W k c (.Tuple elts kk tp) (.Call (.Name "enumerate" p) [e] [] pos) (iNum K (tCons ta tNil)) (dItEnu dl) := ⟨by subst hK; exact pi_num hg hm (pa_cons h.pe pa_nil h0) hs, fun b => wi_num (h.ev b)⟩
theorem pdi_zip {p : Pos} {elts : List Expr} {kk : Nat} {tp : Pos} (hK : X.K = K) (h : PL K X W k c e ta dl) (h' : PL K X W k c e2 tb dl2) (hg : Gl X "zip") (hm : X.mg "zip" = none) (h0 : starEach [e2] X.env = (false, eval e2 X.env) :: starEach [] X.env := by rfl)
    (hs : starEach [e, e2] X.env = (false, eval e X.env) :: starEach [e2] X.env := by rfl) (hpl : (backTo pos (starEach [e2] X.env)).any (·.1) = false := by rfl) :
    PDI K X W k c (.Tuple elts kk tp) (.Call (.Name "zip" p) [e, e2] [] pos) (RZ.iZipA K (tCons ta (tCons tb tNil))) (dItZip dl dl2) := ⟨by subst hK; exact RZ.pi_zipA hg hm (pa_cons h.pe (pa_cons h'.pe pa_nil h0) hs) hs hpl, fun b => wi_zip (h.ev b) (h'.ev b)⟩
theorem pdi_r1 {p : Pos} (h : PD K X W c e ta da) (hg : Gl X "range") (hm : X.mg "range" = none) (h0 : starEach [e] X.env = (false, eval e X.env) :: starEach [] X.env := by rfl) (hs : starEach [e] X.env = [(false, eval e X.env)] := by rfl) :
    PDI K X W k c tg (.Call (.Name "range" p) [e] [] pos) (iRng1 (tCons ta tNil)) (dItR1 da) := ⟨pi_range1 hg hm (pa_cons h.pe pa_nil h0) hs, fun b => wi_r1 (h.ev b)⟩
theorem pdi_r2 {p : Pos} (h : PD K X W c e ta da) (h' : PD K X W false e2 tb db) (hg : Gl X "range") (hm : X.mg "range" = none) (h0 : starEach [e, e2] X.env = (false, eval e X.env) :: starEach [e2] X.env := by rfl) (h1 : starEach [e2] X.env = (false, eval e2 X.env) :: starEach [] X.env := by rfl)
    (hs : starEach [e, e2] X.env = [(false, eval e X.env), (false, eval e2 X.env)] := by rfl) (hs2 : starEach [e2] X.env = [(false, eval e2 X.env)] := by rfl) :
    PDI K X W k c tg (.Call (.Name "range" p) [e, e2] [] pos) (iRng2 (tCons ta (tCons tb tNil))) (dItR2 da db) := ⟨pi_range2 hg hm (pa_cons h.pe (pa_cons h'.pe pa_nil h1) h0) hs hs2, fun b => wi_r2 (h.ev b) (h'.ev b)⟩
end
end Ge

set_option maxHeartbeats 400000
namespace Ge
open PySem PySem.Spec PyProof.Rows L2 Sd
variable [HasT]
/-! ### lists of one's own change -/
abbrev DX := List Sl → G (Sl × List Sl)
def EvGX (K : PySem.W.Frag) (b : Bs) (W : WX) (te : TE) (d : DX) : Prop := ∀ ρ σ H ps (Q : VK), NV ps → At K b ρ σ H ps → (d ρ).good (fun p => ∀ H' v, At K b p.2 σ H' ((v, p.1) :: ps) → Q v H') (Thr K b W ps) → te σ H Q
structure PDX (K : PySem.W.Frag) (X : Cx) (W : WX) (e : Expr) (te : TE) (d : DX) : Prop where
  pe : PE X e te
  ev : ∀ b, EvGX K b W te d
def dX (a : DE) : DX := fun ρ => (a ρ).bind fun s => .pure (s, ρ)
/-- x.append(e) -/
def isOl : Sl → Bool
  | .val (.ol _) => true | _ => false
def appG (i : Nat) (p : Sl × List Sl) : G (Sl × List Sl) := match p.1, get p.2 i with
  | .val o, .val (.ol os) => if small (os.length + 1) = true then .pure (.dat .non, p.2.set i (.val (.ol (os ++ [o])))) else .fail
  | _, _ => .fail
def popG (i : Nat) (ρ : List Sl) (k : Sl) : G (Sl × List Sl) := match k, get ρ i with
  | .val (.fz (.int n)), .val (.ol os) => if 0 ≤ n then (match os[n.toNat]? with | some o => if small os.length = true then .pure (.val o, ρ.set i (.val (.ol (os.eraseIdx n.toNat)))) else .fail | none => .fail) else .fail
  | _, _ => .fail
def dPopAt (i : Nat) (a : DE) : DX := fun ρ => if isOl (get ρ i) = true then (a ρ).bind (popG i ρ) else .fail
def subG (i : Nat) (ρ : List Sl) (s k : Sl) : G (List Sl) := match s, k, get ρ i with
  | .val o, .val (.fz (.int n)), .val (.ol os) => (match ixN os.length n with | some j => .pure (ρ.set i (.val (.ol (os.set j o)))) | none => .fail)
  | _, _, _ => .fail
/-- x[i] = e -/
def tgSub (i : Nat) (a : DE) : DT := fun ρ s => if isOl (get ρ i) = true then (a ρ).bind (subG i ρ s) else .fail
def sub2G (i : Nat) (ρ : List Sl) (s k l : Sl) : G (List Sl) := match s, k, l, get ρ i with
  | .val o, .val (.fz (.int n)), .val (.fz (.int m)), .val (.ol os) => (match ixN os.length n with
    | some j => (match os[j]? with | some (.ol qs) => (match ixN qs.length m with | some z => .pure (ρ.set i (.val (.ol (os.set j (.ol (qs.set z o)))))) | none => .fail) | _ => .fail)
    | none => .fail)
  | _, _, _, _ => .fail
/-- x[i][j] = e -/
def tgSub2 (i : Nat) (a c : DE) : DT := fun ρ s => if isOl (get ρ i) = true then (a ρ).bind fun k => (c ρ).bind fun l => sub2G i ρ s k l else .fail
def dApp (i : Nat) (a : DX) : DX := fun ρ => if isOl (get ρ i) = true then (a ρ).bind (appG i) else .fail
/-- x.pop(), x.pop(e) -/
def dPop (i : Nat) : DX := fun ρ => match get ρ i with
  | .val (.ol os) => (match os.getLast? with | some o => .pure (.val o, ρ.set i (.val (.ol os.dropLast))) | none => .fail)
  | _ => .fail
def dSetX (a : DX) (i : Nat) : DS := fun ρ => (a ρ).bind fun p => (tgName i p.2 p.1).bind fun ρ' => .pure (.nx ρ')
def dDropX (a : DX) : DS := fun ρ => (a ρ).bind fun p => .pure (.nx p.2)
/-- return x: the list goes with it -/
def dRetV (i : Nat) : DS := fun ρ => match get ρ i with
  | .val o => .pure (.rt (.val o)) | _ => .fail
section
variable {K : PySem.W.Frag} {b : Bs} {ρ : List Sl} {σ : L2.St} {S H S' H' : Hp} {ps : List (V × Sl)} {v : V} {s : Sl} {F f : List Addr} {d : Da} {X : Cx} {W : WX} {m k c c1 c2 c3 : Bool}
  {e e1 e2 e3 tg : Expr} {es : List Expr} {te ta tb tc : TE} {tt tu : TT} {tx : TA} {da db dc : DE} {dt du : DB} {dx : DA} {pos : Pos} {t t1 t2 : TS} {d0 d1 d2 : DS} {st : Stmt} {g : TG} {dg : DT} {js : List Nat} {d3 : DX}
theorem AtS.write {i : Nat} {os : List Ow} (h : AtS K b ρ σ S H ps F) (nv : NV ps) (e : get ρ i = .val (.ol os)) :
    ∃ a xs fs, σ[i]? = some (some (.ref a)) ∧ H a = some (.lst xs) ∧ Okvs K S H xs os fs ∧ (∀ c, fs.count c ≤ F.count c) ∧ fs.count a = 0 ∧ F.count a = 1 ∧
      ∀ ys os' gs, Okvs K S H ys os' gs → (∀ c, 0 < gs.count c → F.count c + gs.count c ≤ 1 + fs.count c ∧ S c = none ∧ b.H c = none ∧ off b.src c) →
        ∃ F', AtS K b (ρ.set i (.val (.ol os'))) σ S (upd H a (.lst ys)) ps F' ∧ ∀ c, F'.count c + fs.count c = F.count c + gs.count c := by
  have e0 : ρ[i]? = some (.val (.ol os)) := by rw [get_some (by rw [e]; nofun), e]
  obtain ⟨w, f0, ew, ⟨x, rfl, r⟩, m, k⟩ := h.en.slot e0
  cases r with
  | ol ha ro =>
    rename_i a xs fs
    have ca := m a
    have one : ∀ c, (a :: fs).count c = fs.count c + (if a = c then 1 else 0) := fun c => by
      rw [List.count_cons]
      by_cases e : a = c
      · rw [if_pos e, if_pos (by simpa using e)]
      · rw [if_neg e, if_neg (by simpa using e)]
    rw [one, if_pos rfl] at ca
    obtain ⟨g1, g2, g3, g4⟩ := h.fr a (by omega)
    refine ⟨a, xs, fs, ew, ha, ro, fun c => by have := m c; rw [one] at this; omega, by omega, by omega, fun ys os' gs rg hg => ?_⟩
    have other : ∀ {c u}, c ≠ a → H c = some u → upd H a (.lst ys) c = some u := fun {c u} n e => by rw [upd_ne n]; exact e
    have ga : gs.count a = 0 := by
      by_cases z : 0 < gs.count a
      · have := (hg a z).1
        omega
      · omega
    have nin : ∀ {l : List Addr} {c}, l.count a = 0 → c ∈ l → c ≠ a := fun {l c} z mm e => by
      have := pos_mem mm
      rw [e] at this
      omega
    obtain ⟨F', e', cF⟩ := k S (upd H a (.lst ys)) (some (.ref a)) (.val (.ol os')) (a :: gs) (Same.refl S) (fun c l u hu => other (fun z => by subst z; rw [one, if_pos rfl] at l; omega) hu)
      (fun t mt tv => by
        rcases List.mem_append.mp mt with mt | mt
        · obtain ⟨y, hy, rfl⟩ := List.mem_map.mp mt
          rw [nv y hy] at tv; cases tv
        · rw [h.nv t mt] at tv; cases tv) ⟨_, rfl, .ol upd_same (rg.tr (Same.refl S) fun c mc u hu => other (nin ga mc) hu)⟩
    rw [set_back ew] at e'
    have cc : ∀ c, F'.count c + fs.count c = F.count c + gs.count c := fun c => by
      have := cF c
      rw [one, List.count_cons] at this
      by_cases z : a = c
      · rw [if_pos z, if_pos (by simpa using z)] at this; omega
      · rw [if_neg z, if_neg (by simpa using z)] at this; omega
    refine ⟨F', ⟨⟨h.st.ss, fun c u hc => other (fun z => by rw [z, g2] at hc; cases hc) (h.sh c u hc), fun c u fo hc => other (fun z => by rw [z, g3] at hc; cases hc) (h.st.hh c u fo hc), h.st.gr⟩, ⟨fun p1 q1 he => ?_, h.iv.lst ha, h.iv.ts⟩, e', fun c mc => ?_, fun t mt => ?_⟩, cc⟩
    · obtain ⟨dr, k1, k2⟩ := h.iv.dr p1 q1 he
      have := g4.1 p1 q1 he
      exact ⟨dr.put this.1 this.2, k1, k2⟩
    · have c1 := cc c
      have mm := m c
      rw [one] at mm
      by_cases z : 0 < gs.count c
      · obtain ⟨k1, k2⟩ := hg c z
        exact ⟨by omega, k2⟩
      · obtain ⟨k1, k2⟩ := h.fr c (by omega)
        exact ⟨by omega, k2⟩
    · rcases List.mem_or_eq_of_mem_set mt with mt | e
      · exact h.nv t mt
      · rw [e]; rfl
theorem evx_x (h : EvG K b W c ta da) : EvGX K b W ta (dX da) := fun ρ σ H ps Q nv a q => h ρ σ H ps _ (fun _ => nv) a (G.good_mono (fun s k => k) (fun _ h => h) (G.good_bind.mp q))
theorem small_lt {n : Nat} (h : small (n + 1) = true) : n < sizeLine := Nat.lt_of_lt_of_le (Nat.lt_succ_self n) (small_line h)
theorem AtS.olAt {i : Nat} (h : At K b ρ σ H ps) (e : isOl (get ρ i) = true) : ∃ a xs, σ[i]? = some (some (.ref a)) ∧ H a = some (.lst xs) := by
  obtain ⟨S, F, h⟩ := h
  cases g : get ρ i with
  | no => rw [g] at e; cases e
  | src => rw [g] at e; cases e
  | slf => rw [g] at e; cases e
  | view _ => rw [g] at e; cases e
  | val o =>
    cases o with
    | fz _ => rw [g] at e; cases e
    | od _ _ => rw [g] at e; cases e
    | ol os =>
      obtain ⟨w, f0, ew, r, _, _⟩ := h.en.slot (get_some (by rw [g]; nofun))
      rw [g] at r
      obtain ⟨x, rfl, r⟩ := r
      cases r with
      | ol ha _ => exact ⟨_, _, ew, ha⟩
theorem pushAfter {F' : List Addr} {v : V} {s : Sl} (h : AtS K b ρ σ S H ps F') (r : SlotOk K b S H (some v) f s) (hc : ∀ c, 0 < f.count c → f.count c + F'.count c ≤ 1 ∧ S c = none ∧ b.H c = none ∧ off b.src c) : AtS K b ρ σ S H ((v, s) :: ps) (f ++ F') :=
  ⟨h.st, h.iv, .cons r h.en, fun c m => by
    rw [List.count_append] at m ⊢
    by_cases z : 0 < f.count c
    · obtain ⟨k1, k2⟩ := hc c z
      exact ⟨by omega, k2⟩
    · obtain ⟨k1, k2⟩ := h.fr c (by omega)
      exact ⟨by omega, k2⟩, h.nv⟩
theorem evx_app {i : Nat} (h : EvGX K b W ta d3) : EvGX K b W (tBM K "list" rAppend (tVar i) (tCons ta tNil)) (dApp i d3) := fun ρ σ H ps Q nv a q => by
  unfold dApp at q
  split at q
  · rename_i hol
    obtain ⟨a0, xs0, ev, hx0⟩ := AtS.olAt a hol
    refine ⟨_, ev, .inl ⟨rfl, _, SqL.of hx0⟩, ?_⟩
    refine h ρ σ H ps _ nv a (G.good_mono (fun p k H1 v a1 => ?_) (fun _ h => h) (G.good_bind.mp q))
    unfold appG at k
    split at k
    · split at k
      · rename_i o os e1 e2 hs
        obtain ⟨S, F, A⟩ := a1
        rw [e1] at A
        obtain ⟨g0, F1, rfl, ⟨x, ex, ro⟩, A1⟩ := A.hd
        cases ex
        obtain ⟨ad, xs, fs, ew, ha, rl, mf, za, oa, wr⟩ := A1.write nv e2
        rw [ev] at ew
        cases ew
        refine ⟨_, xs, v, rfl, rfl, ha, by rw [rl.len]; exact small_lt hs, ?_⟩
        obtain ⟨F', A2, _⟩ := wr (xs ++ [v]) (os ++ [o]) (fs ++ g0) (rl.snoc ro) fun c mc => by
          rw [List.count_append] at mc ⊢
          have := A.fr c
          rw [List.count_append] at this
          have := mf c
          obtain ⟨k1, k2⟩ := A.fr c (by rw [List.count_append]; omega)
          rw [List.count_append] at k1
          exact ⟨by omega, k2⟩
        exact k _ _ ⟨S, F', A2.pushD .non⟩
      · cases k
    · cases k
  · cases q
theorem evx_pop {i : Nat} : EvGX K b W (tBM0 K "list" rPop (tVar i)) (dPop i) := fun ρ σ H ps Q nv a q => by
  unfold dPop at q
  split at q
  · rename_i os e
    split at q
    · rename_i o eo
      obtain ⟨S, F, A⟩ := id a
      obtain ⟨ad, xs, fs, ew, ha, rl, mf, za, oa, wr⟩ := A.write nv e
      have eo' : os[os.length - 1]? = some o := by rw [← List.getLast?_eq_getElem?]; exact eo
      obtain ⟨v, f, fs', ev, rv, rr, cf⟩ := rl.erase eo'
      have er : os.eraseIdx (os.length - 1) = os.dropLast := List.eraseIdx_length_sub_one
      have exs : xs.eraseIdx (os.length - 1) = xs.dropLast := by rw [← rl.len]; exact List.eraseIdx_length_sub_one
      rw [er, exs] at rr
      refine ⟨_, ew, .inl ⟨rfl, _, SqL.of ha⟩, ad, xs, v, rfl, rfl, ha, by rw [rl.len]; exact ev, ?_⟩
      obtain ⟨F', A2, cF⟩ := wr xs.dropLast os.dropLast fs' rr fun c mc => by
        have := cf c
        have := mf c
        obtain ⟨k1, k2⟩ := A.fr c (by omega)
        exact ⟨by omega, k2⟩
      have fa : f.count ad = 0 := by have := cf ad; omega
      refine q _ v ⟨S, _, pushAfter A2 ⟨v, rfl, rv.tr (Same.refl S) fun c mc u hu => ?_⟩ fun c mc => ?_⟩
      · rw [upd_ne fun z => by rw [z] at mc; have := pos_mem mc; omega]
        exact hu
      · have := cf c
        have := mf c
        have := cF c
        obtain ⟨k1, k2⟩ := A.fr c (by omega)
        exact ⟨by omega, k2⟩
    · cases q
  · cases q
theorem evx_popAt {i : Nat} (h : EvG K b W c ta da) : EvGX K b W (tBM K "list" rPopAt (tVar i) (tCons ta tNil)) (dPopAt i da) := fun ρ σ H ps Q nv a q => by
  unfold dPopAt at q
  split at q
  · rename_i hol
    obtain ⟨a0, xs0, ev0, hx0⟩ := AtS.olAt a hol
    refine ⟨_, ev0, .inl ⟨rfl, _, SqL.of hx0⟩, ?_⟩
    refine h ρ σ H ps _ (fun _ => nv) a (G.good_mono (fun s k H1 w a1 => ?_) (fun _ h => h) (G.good_bind.mp q))
    clear q
    unfold popG at k
    split at k
    · rename_i n os e
      split at k
      · rename_i hn
        split at k
        · rename_i o eo
          split at k
          · rename_i hs
            obtain rfl := a1.vInt
            obtain ⟨S, F, A⟩ := a1.drop
            obtain ⟨ad, xs, fs, ew, ha, rl, mf, za, oa, wr⟩ := A.write nv e
            rw [ev0] at ew
            cases ew
            obtain ⟨v, f, fs', ev, rv, rr, cf⟩ := rl.erase eo
            have lt : n.toNat < os.length := (List.getElem?_eq_some_iff.mp eo).1
            have sm := small_le hs
            refine ⟨_, xs, n, n.toNat, v, rfl, rfl, ha, by omega, by omega, ?_, ev, ?_⟩
            · rw [rl.len]
              exact (ixN_seq (show ixN os.length n = some n.toNat by unfold ixN; rw [if_pos hn, if_pos (by omega)])).1
            obtain ⟨F', A2, cF⟩ := wr _ _ fs' rr fun c mc => by
              have := cf c
              have := mf c
              obtain ⟨k1, k2⟩ := A.fr c (by omega)
              exact ⟨by omega, k2⟩
            have fa : f.count a0 = 0 := by have := cf a0; omega
            refine k _ v ⟨S, _, pushAfter A2 ⟨v, rfl, rv.tr (Same.refl S) fun c mc u hu => ?_⟩ fun c mc => ?_⟩
            · rw [upd_ne fun z => by rw [z] at mc; have := pos_mem mc; omega]
              exact hu
            · have := cf c
              have := mf c
              have := cF c
              obtain ⟨k1, k2⟩ := A.fr c (by omega)
              exact ⟨by omega, k2⟩
          · cases k
        · cases k
      · cases k
    · cases k
  · cases q
theorem tg_sub {i : Nat} (h : EvG K b W false ta da) : TgG K b W true (gSub (tVar i) ta rSetL) [i] (tgSub i da) := fun ρ σ H ps v s Q nv a q => by
  have nv := nv rfl
  unfold tgSub at q
  split at q
  · rename_i hol
    obtain ⟨a0, xs0, ev0, hx0⟩ := AtS.olAt a hol
    refine ⟨_, ev0, h ρ σ H _ _ nofun a (G.good_mono (fun s2 k H1 w a1 => ?_) (fun _ h => h.drop) (G.good_bind.mp q))⟩
    clear q
    unfold subG at k
    split at k
    · rename_i o n os e
      split at k
      · rename_i j ej
        obtain rfl := a1.vInt
        obtain ⟨S, F, A⟩ := a1.drop
        obtain ⟨g0, F1, rfl, ⟨x, ex, ro⟩, A1⟩ := A.hd
        cases ex
        obtain ⟨ad, xs, fs, ew, ha, rl, mf, za, oa, wr⟩ := A1.write nv e
        rw [ev0] at ew
        cases ew
        obtain ⟨hj1, hj2, _⟩ := ixN_seq ej
        obtain ⟨v1, f1, ev1, _, mf1, set1⟩ := rl.get (List.getElem?_eq_getElem hj2)
        obtain ⟨fs', rs, cs⟩ := set1 v o g0 ro
        refine ⟨_, xs, n, j, rfl, rfl, ha, by rw [rl.len]; exact ej, ?_⟩
        obtain ⟨F', A2, _⟩ := wr _ _ fs' rs fun c mc => by
          have := cs c
          have := mf c
          obtain ⟨k1, k2⟩ := A.fr c (by rw [List.count_append]; omega)
          rw [List.count_append] at k1
          exact ⟨by omega, k2⟩
        exact k _ _ ⟨S, F', A2⟩ (Only.refl _ _) (Only.set _ _ _)
      · cases k
    · cases k
  · cases q
theorem pds_retV {i : Nat} (h : PE X e (tVar i)) : PDS K X W (.Return (some e) pos) (tRet (tVar i)) (dRetV i) := ⟨ps_ret h, fun b ρ σ H ps D nv a q => by
  unfold dRetV at q
  split at q
  · rename_i o eo
    obtain ⟨v, ev, a1⟩ := a.take eo
    exact ⟨v, ev, q _ _ _ v a1⟩
  · cases q⟩
theorem pds_setX {i : Nat} (h : PDX K X W e te d3) (hp : PS X st (tAsg te (gName i))) : PDS K X W st (tAsg te (gName i)) (dSetX d3 i) := ⟨hp, fun b ρ σ H ps D nv a q => by
  refine h.ev b ρ σ H ps _ nv a (G.good_mono (fun s k H1 v a1 => ?_) (fun _ h => h) (G.good_bind.mp q))
  obtain ⟨h1, h2⟩ := tgName_good (G.good_bind.mp k)
  exact h2 _ H1 (a1.store h1)⟩
theorem pds_exprX (h : PDX K X W e te d3) (hs : swapsWith e none pos.line X.env = pure false := by rfl) : PDS K X W (.Expr e pos) (tDrop te) (dDropX d3) := ⟨ps_expr h.pe hs, fun b ρ σ H ps D nv a q =>
  h.ev b ρ σ H ps _ nv a (G.good_mono (fun s k H1 v a1 => k σ H1 a1.drop) (fun _ h => h) (G.good_bind.mp q))⟩
theorem pdx_x (h : PD K X W c e te da) : PDX K X W e te (dX da) := ⟨h.pe, fun b => evx_x (h.ev b)⟩
end
end Ge

set_option maxHeartbeats 400000
namespace Ge
open PySem PySem.Spec PyProof.Rows L2 Sd
variable [HasT]
/-! ### defs -/
abbrev Fn := List Sl → G Sl
/-- what a def comes to; n: its slots -/
def dDef (n : Nat) (body : DS) : Fn := fun ss => (body (ss ++ List.replicate (n - ss.length) .no)).bind fun o => match o with
  | .rt (.val o) => .pure (.val o) | .nx _ => .pure (.dat .non) | _ => .fail
def dCall (F : Fn) (a : DA) : DE := fun ρ => (a ρ).bind fun l => match ows l with
  | some os => F ((frzs os).map Sl.dat) | none => .fail
/-- the first argument is the source of draws, in slot i -/
def isSrc : Sl → Bool
  | .src => true | _ => false
def dCallD (F : Fn) (i : Nat) (a : DA) : DE := fun ρ => if isSrc (get ρ i) = true then (a ρ).bind fun l => match ows l with
  | some os => F (.src :: (frzs os).map Sl.dat) | none => .fail else .fail
/-- arguments are looked at alone, the answer is flat -/
def das : List Sl → Option (List Da)
  | [] => some []
  | s :: r => match s.da, das r with | some d, some ds => some (d :: ds) | _, _ => none
def flat : Sl → Bool
  | .val (.fz .non) => true | .val (.fz (.bl _)) => true | .val (.fz (.int _)) => true | .val (.fz (.str _)) => true | _ => false
def dCallV (F : Fn) (a : DA) : DE := fun ρ => (a ρ).bind fun l => match das l with
  | some ds => (F (ds.map Sl.dat)).bind fun s => if flat s = true then .pure s else .fail | none => .fail
/-- the promise of a def -/
def spG (K : PySem.W.Frag) (n : Nat) (F : Fn) : Sp := fun vs H Q E => vs.length = n ∧ ∃ (src : Srx) (S : Hp) (ss : List Sl), Same S H ∧ Inv0 (bs0 src S H) S H ∧ Paired (fun v s => SlotOk K (bs0 src S H) S H (some v) [] s ∧ s.isView = false) vs ss ∧
  (F ss).good (fun s => ∀ S' H' v o f, Step src S H S' H' → Inv0 (bs0 src S H) S' H' → s = .val o → Okv K S' H' v o f → (∀ a, 0 < f.count a → f.count a ≤ 1 ∧ S' a = none ∧ H a = none ∧ off src a) → Q v H')
    fun e => ∀ S' H' dx, Step src S H S' H' → Inv0 (bs0 src S H) S' H' → H' dx = some (.xd e.fs) → E (.ref e.c) (some dx) H'
structure FnE (P : Program) (w : World) (K : PySem.W.Frag) (mg : Str → Option Value) (base : Heap) (k : Nat) (f : Addr) (fd : FuncData) (ps : List Str) (sp : Sp) : Prop where
  len : ∀ vs H Q E, sp vs H Q E → vs.length = ps.length
  go : ∀ (A : Around) (outer : List Env) (s : Shared) (H : Hp) (args : Args) (us : List Value) (vs : List V) (Q : VK) (E : XK), A.guards = some [] → Room k A → Env0 P w K mg base A outer s H →
    BindsTo s fd args (ps.zip us) → Vals vs us → sp vs H Q E → codeAny (model P w) A (.call (.ref f) args) (CR (L2.CX P w) outer P w H s Q E) s
theorem FnE.mono {P : Program} {w : World} {K : PySem.W.Frag} {mg : Str → Option Value} {base : Heap} {j k : Nat} {f : Addr} {fd : FuncData} {ps : List Str} {sp : Sp} (F : FnE P w K mg base j f fd ps sp) (h : j ≤ k) : FnE P w K mg base k f fd ps sp :=
  ⟨F.len, fun A outer s H args us vs Q E hg hr => F.go A outer s H args us vs Q E hg (hr.mono h)⟩
abbrev WW (E : XK) : WX := fun cls d _ H => E cls d H
section
variable {P : Program} {w : World} {K : PySem.W.Frag} {mg : Str → Option Value} {base : Heap}
theorem fn_e {x qual : Str} {st : Stmt} {f : Addr} {fd : FuncData} {N ps : List Str} {k : Nat} {sp : Sp}
    (F : Fun K x qual st f fd) (S : FnScope N ps (defScope st)) (len : ∀ vs H Q E, sp vs H Q E → vs.length = ps.length)
    (hbody : ∀ (cdv : Value), fd.code = cdv → ∀ (A : Around) (outer : List Env) (s : Shared) (H : Hp) (vs : List V) (Q : VK) (E : XK),
      A.guards = some [] → Room k (A.deeper (envOfC qual (defScope st) s.heap.objs.size f cdv)) → sp vs H Q E →
      ∃ t, PSs (cxOf (L2.CX P w) P w K mg base N qual (defScope st) f cdv A outer s H E) (defBody st) t ∧
        t { nx := fun _ H' => Q .non H', rt := Q } (start N vs) H) :
    FnE P w K mg base (k + 1) f fd ps sp := by
  obtain ⟨oc, od, kV, doc, pm, an, cdv, ct, osl, rfl, lk, hcd⟩ := F.ex
  refine ⟨len, ?_⟩
  intro A outer s H args us vs Q E hg hr e0 hb rv hsp
  have keepB : ∀ b o, base.get? b = some o → s.heap.get? b = some o := fun b o e => (e0.bs b o e).1
  have inS : K.In s.heap := e0.mod.kin.keeps keepB
  have nolim : s.heap.NoLimit := e0.mod.nolimit.keeps keepB
  refine codeAny_call_function hr.depth (inS _ _ lk) rfl S.co S.gen rfl (PySem.W.codeRec_of inS hcd) (hb _ _ _ _ ?_)
  have kinds : ∀ y ∈ ps.zip us, (defScope st).names.lookup y.1 = some .local ∨ ((defScope st).names.lookup y.1 = some .cell ∧
      ((cellsFrom (s.heap.objs.size + 1) (defScope st).names []).lookup y.1).isSome = true) := by
    rintro ⟨n, v⟩ hy
    cases S.par n (List.of_mem_zip hy).1 with
    | inl q => exact Or.inl q
    | inr q => exact Or.inr ⟨q, PySem.W.cellsFrom_some _ _ _ (Or.inl q)⟩
  refine wpAny_newFunctionEnv_cells S.kind kinds ?_
  rintro env rfl s1 ic
  obtain ⟨t, ht, hq⟩ := hbody cdv rfl A outer s H vs Q E hg (hr.deeper _) hsp
  have J0 := inv_start (CX := L2.CX P w) (E := E) (P := P) (w := w) (mg := mg) (cd := cdv) (f := f) S hr.hd e0 (len _ _ _ _ hsp) rv ic
  refine ⟨nolim.keeps ic.toInCall.keep, codeAny_func (wpAny_mono (ht.run [] s1 (start N vs) H _ J0 hq) ?_ fun e s' z => z)⟩
  intro fl s' hs
  cases fl with
  | next =>
    obtain ⟨σ', H', J, q⟩ := hs
    exact ⟨V.non, H', J.os, J.bare, J.base, J.hok, rfl, q⟩
  | ret u =>
    obtain ⟨v, σ', H', J, rv', q⟩ := hs
    exact ⟨v, H', J.os, J.bare, J.base, J.hok, rv', q⟩
  | brk =>
    obtain ⟨_, _, _, q⟩ := hs
    cases q
  | cont =>
    obtain ⟨_, _, _, q⟩ := hs
    cases q
theorem paired_len {α β : Type} {R : α → β → Prop} : ∀ {l : List α} {l' : List β}, Paired R l l' → l.length = l'.length
  | _, _, .nil => rfl
  | _, _, .cons _ t => by rw [List.length_cons, List.length_cons, paired_len t]
theorem ents_start {b : Bs} {S H : Hp} {n : Nat} : ∀ {vs : List V} {ss : List Sl}, Paired (fun v s => SlotOk K b S H (some v) [] s ∧ s.isView = false) vs ss →
    Ents K b S H (vs.map some ++ List.replicate n none) (ss ++ List.replicate n .no) []
  | _, _, .nil => by
    induction n with
    | zero => exact .nil
    | succ n ih => exact .cons (f := []) (F := []) rfl ih
  | _, _, .cons r t => .cons (f := []) (F := []) r.1 (ents_start t)
/-- a def's promise, by its body's meaning -/
theorem fn_den {x qual : Str} {st : Stmt} {f : Addr} {fd : FuncData} {N ps : List Str} {k : Nat} {d : DS} {n : Nat}
    (F : Fun K x qual st f fd) (S : FnScope N ps (defScope st)) (hn : n = N.length)
    (hbody : ∀ (cdv : Value), fd.code = cdv → ∀ (A : Around) (outer : List Env) (s : Shared) (H : Hp) (E : XK),
      A.guards = some [] → Room k (A.deeper (envOfC qual (defScope st) s.heap.objs.size f cdv)) →
      ∃ t, PDSs K (cxOf (L2.CX P w) P w K mg base N qual (defScope st) f cdv A outer s H E) (WW E) (defBody st) t d) :
    FnE P w K mg base (k + 1) f fd ps (spG K ps.length (dDef n d)) := by
  refine fn_e F S (fun vs H Q E h => h.1) fun cdv hcv A outer s H vs Q E hg hr hsp => ?_
  obtain ⟨t, ht⟩ := hbody cdv hcv A outer s H E hg hr
  refine ⟨t, ht.ps, ?_⟩
  obtain ⟨hl, src, S0, ss, sh, iv, hp, hq⟩ := hsp
  have len : vs.length = ss.length := paired_len hp
  have a0 : At K (bs0 src S0 H) (ss ++ List.replicate (n - ss.length) .no) (start N vs) H [] := by
    refine ⟨S0, [], Step.refl sh, iv, ?_, fun a m => by rw [List.count_nil] at m; omega, fun s m => ?_⟩
    · unfold L2.start
      rw [← hn, len]
      exact ents_start hp
    · rcases List.mem_append.mp m with m | m
      · have : ∀ {vs : List V} {ss : List Sl}, Paired (fun v s => SlotOk K (bs0 src S0 H) S0 H (some v) [] s ∧ s.isView = false) vs ss → ∀ s ∈ ss, s.isView = false := by
          intro vs ss h
          induction h with
          | nil => intro s m; cases m
          | cons r t ih =>
            intro s m
            rcases List.mem_cons.mp m with rfl | m
            · exact r.2
            · exact ih s m
        exact this hp s m
      · rw [(List.mem_replicate.mp m).2]; rfl
  refine ht.ev _ _ _ H [] _ nv_nil a0 (G.good_mono (fun o h => ?_) (fun e h => ?_) (G.good_bind.mp (show ((d _).bind _).good _ _ from hq)))
  · cases o with
    | nx ρ' =>
      intro σ' H' a'
      obtain ⟨S', F', A⟩ := a'
      exact h S' H' .non (.fz .non) [] A.st A.iv rfl (.fz .non) fun a m => by rw [List.count_nil] at m; omega
    | rt s =>
      intro ρ' σ' H' v a'
      obtain ⟨S', F', A⟩ := a'
      obtain ⟨f, F1, rfl, r, A1⟩ := A.hd
      cases s with
      | val o =>
        obtain ⟨x, ex, r⟩ := r
        cases ex
        exact h S' H' v o f A.st A.iv rfl r fun a m => by
          obtain ⟨k1, k2, k3, k4⟩ := A.fr a (by rw [List.count_append]; omega)
          rw [List.count_append] at k1
          exact ⟨by omega, k2, k3, k4⟩
      | no => cases h
      | view _ => cases h
      | src => cases h
      | slf => cases h
    | bk _ => cases h
    | ct _ => cases h
  · intro ρ σ H' dx a' hx
    obtain ⟨S', F', A⟩ := a'
    exact h S' H' dx A.st A.iv hx
end
/-! ### calls -/
def tCallE (sp : Sp) (E : L2.St → XK) (t : TA) : TE := fun σ H Q => t σ H fun vs H1 => sp vs H1 Q (E σ)
section
variable {X : Cx} {k n : Nat} {f : Addr} {fd : FuncData} {ps : List Str} {sp : Sp} {E : L2.St → XK} {x : Str} {p pos : Pos} {e : Expr} {es : List Expr} {t : TA} {W : WX}
theorem pe_callE (F : FnE X.prog X.w X.K X.mg X.base k f fd ps sp) (hg : X.A.guards = some []) (hr : Room k X.A) (hgl : Gl X x)
    (hm : X.mg x = some (.ref f)) (hk : PySem.W.keepIn X.K (.ref f) = true) (hb : Binds X.K fd ps []) (tk : Takes X W) (ha : PA X (e :: es) t)
    (hdb : (x == ("__debug__" : Str)) = false := by decide) (he : starEach (e :: es) X.env = (false, eval e X.env) :: starEach es X.env := by rfl)
    (hpl : (backTo pos (starEach es X.env)).any (·.1) = false := by rfl) :
    PE X (.Call (.Name x p) (e :: es) [] pos) (tCallE sp (WE W) t) := by
  constructor
  intro pins s σ H Q I h
  refine wpAny_Call_Name_kw (ld_glob I hgl hm (PySem.W.callWith_K (h₀ := X.base) I.ok.mod.kin hk ?_ he hpl) hdb)
  refine thn (ha.run pos pins s σ H _ I h) ?_
  rintro us s1 ⟨vs, H1, I1, r, q⟩
  have hl : us.length = ps.length := by rw [← r.length]; exact F.len _ _ _ _ q
  have bd := hb s1 us I1.kIn (by rw [List.append_nil]; exact hl)
  rw [List.append_nil] at bd
  refine ⟨I1.kIn, wpAny_call (codeAny_mono (F.go X.A X.stack s1 H1 ⟨us, []⟩ us vs Q (WE W σ) hg hr I1.env0 bd r q) ?_)⟩
  intro res s' hq
  cases res with
  | error e => exact passAt tk σ _ _ _ e s' I1 hq
  | ok fl => cases fl with
    | ret u => exact I1.after hq
    | next => cases hq
    | brk => cases hq
    | cont => cases hq
def tCallKE (sp : Sp) (n : Nat) (gV : List V → List V) (E : L2.St → XK) (tk : TA) : TE := fun σ H Q => tk σ H fun zs H1 => zs.length = n ∧ sp (gV zs) H1 Q (E σ)
theorem pe_callKE {ks : List Str} {g : List Value → List Value} {gV : List V → List V} {kws : List Keyword} {tk0 : TA} (F : FnE X.prog X.w X.K X.mg X.base k f fd ps sp) (hg : X.A.guards = some []) (hr : Room k X.A) (hgl : Gl X x) (hm : X.mg x = some (.ref f))
    (hk : PySem.W.keepIn X.K (.ref f) = true) (hb : KW0 X.K fd ps ks g gV) (tk : Takes X W) (hkw : PK X kws tk0)
    (hall : (backToKw pos (keywordEach kws X.env)).all (·.1.isSome) = true := by rfl)
    (hks : (backToKw pos (keywordEach kws X.env)).filterMap (·.1) = ks := by rfl) (hdb : (x == ("__debug__" : Str)) = false := by decide)
    (hpl : ((backTo pos (starEach [] X.env)).any (·.1) || (backToKw pos (keywordEach kws X.env)).any (·.1.isNone)) = false := by rfl) :
    PE X (.Call (.Name x p) [] kws pos) (tCallKE sp ks.length gV (WE W) tk0) := by
  constructor
  intro pins s σ H Q I h
  refine wpAny_Call_Name_kw (ld_glob I hgl hm (PySem.W.callWith_KW0 (h₀ := X.base) I.ok.mod.kin hk hall ?_ hpl) hdb)
  refine thn (hkw.run pos pins s σ H _ I h) ?_
  rintro ws s1 ⟨zs, H1, I1, rz, lz, q⟩
  refine ⟨I1.kIn, ?_⟩
  rw [hks]
  have rg := hb.rel rz
  have bd := hb.to s1 ws I1.kIn (by rw [← rz.length]; exact lz)
  refine wpAny_call (codeAny_mono (F.go X.A X.stack s1 H1 ⟨[] ++ [], ks.zip ws⟩ (g ws) (gV zs) Q (WE W σ) hg hr I1.env0 bd rg q) ?_)
  intro res s' hq
  cases res with
  | error e => exact passAt tk σ _ _ _ e s' I1 hq
  | ok fl => cases fl with
    | ret u => exact I1.after hq
    | next => cases hq
    | brk => cases hq
    | cont => cases hq
end
section
variable {K : PySem.W.Frag} {b : Bs} {ρ : List Sl} {σ : L2.St} {S H S' H' : Hp} {ps : List (V × Sl)} {v : V} {s : Sl} {F f : List Addr} {d : Da} {X : Cx} {W : WX} {m c c1 c2 c3 : Bool}
  {e e1 e2 e3 tg : Expr} {es : List Expr} {te ta tb tc : TE} {tt tu : TT} {tx : TA} {da db dc : DE} {dt du : DB} {dx : DA} {pos : Pos} {Fn0 : Fn} {n : Nat}
theorem paired_dat {us : List V} {ds : List Da} {b : Bs} (r : Rps K S us ds) : Paired (fun v s => SlotOk K b S H (some v) [] s ∧ s.isView = false) us (ds.map Sl.dat) := by
  induction us generalizing ds with
  | nil => cases r; exact .nil
  | cons u us ih =>
    cases r with
    | cons r t => exact .cons ⟨⟨_, rfl, .fz r⟩, rfl⟩ (ih t)
/-- behind a call: what came back waits -/
theorem AtS.came {T : Hp} {o : Ow} {v : V} (A : AtS K b ρ σ T H ps F) (st : Step b.src T H S' H') (iv : Inv0 (bs0 b.src T H) S' H') (r : Okv K S' H' v o f) (hf : ∀ a, 0 < f.count a → f.count a ≤ 1 ∧ S' a = none ∧ H a = none ∧ off b.src a) : At K b ρ σ H' ((v, .val o) :: ps) := by
  have A2 := A.step st iv
  refine ⟨S', _, pushAfter A2 ⟨v, rfl, r⟩ fun a m => ?_⟩
  obtain ⟨h1, h2, h3, h4⟩ := hf a m
  have z := A.notIn h3
  exact ⟨by omega, h2, A.freeB h3 h4, h4⟩
theorem call_go {T : Hp} {us : List V} {ss : List Sl} {Q : VK} {E : XK} (A : AtS K b ρ σ T H ps F) (hl : us.length = n) (hp : Paired (fun v s => SlotOk K (bs0 b.src T H) T H (some v) [] s ∧ s.isView = false) us ss)
    (q : (Fn0 ss).good (fun s => ∀ H' v, At K b ρ σ H' ((v, s) :: ps) → Q v H') fun e => ∀ H' dx, At K b ρ σ H' ps → H' dx = some (.xd e.fs) → E (.ref e.c) (some dx) H') : spG K n Fn0 us H Q E := by
  refine ⟨hl, b.src, T, ss, A.sh, A.iv, hp, G.good_mono (fun s k => ?_) (fun e k => ?_) q⟩
  · intro S' H' v o f st iv es r hf
    subst es
    exact k H' v (A.came st iv r hf)
  · intro S' H' dx st iv hx
    exact k H' dx ⟨S', F, A.step st iv⟩ hx
theorem thr_at {e : Exn} (h : Thr K b W ps e) {H' dx} (a : At K b ρ σ H' ps) (hx : H' dx = some (.xd e.fs)) : WE W σ (.ref e.c) (some dx) H' := h ρ σ H' dx a hx
theorem eg_call (h : EvGA K b W c tx dx) (ln : LenIs n dx) : EvG K b W c (tCallE (spG K n Fn0) (WE W) tx) (dCall Fn0 dx) := fun ρ σ H ps Q nv a q => by
  refine h ρ σ H ps _ nv a (G.good_mono (fun l ⟨hn, k⟩ H1 us hl a1 => ?_) (fun _ h => h) (ln ρ _ _ (G.good_bind.mp q)))
  clear q
  split at k
  · rename_i os ho
    obtain ⟨T, F, A, r⟩ := At.args hl ho a1
    exact call_go A (by rw [hl, hn]) (paired_dat r) (G.good_mono (fun s k => k) (fun e k H' dx a' hx => thr_at k a' hx) k)
  · cases k
theorem eg_callD {i : Nat} (h : EvGA K b W c tx dx) (ln : LenIs n dx) : EvG K b W c (tCallE (spG K (n + 1) Fn0) (WE W) (tCons (tVar i) tx)) (dCallD Fn0 i dx) := fun ρ σ H ps Q nv a q => by
  unfold dCallD at q
  split at q
  · rename_i hs
    have e0 : get ρ i = .src := by
      cases e : get ρ i with
      | src => rfl
      | slf => rw [e] at hs; cases hs
      | no => rw [e] at hs; cases hs
      | val _ => rw [e] at hs; cases hs
      | view _ => rw [e] at hs; cases hs
    obtain ⟨S, F, A⟩ := id a
    obtain ⟨w, f, ew, r, _, _⟩ := A.en.slot (get_some (by rw [e0]; nofun))
    rw [e0] at r
    obtain ⟨rfl, p, q0, e1, rfl⟩ := r
    refine ⟨_, ew, h ρ σ H ps _ nv a (G.good_mono (fun l ⟨hn, k⟩ H1 us hl a1 => ?_) (fun _ h => h) (ln ρ _ _ (G.good_bind.mp q)))⟩
    clear q
    split at k
    · rename_i os ho
      obtain ⟨T, F, A, r⟩ := At.args hl ho a1
      exact call_go (ss := .src :: (frzs os).map Sl.dat) A (by rw [List.length_cons, hl, hn]) (.cons ⟨⟨rfl, p, q0, e1, rfl⟩, rfl⟩ (paired_dat r)) (G.good_mono (fun s k => k) (fun e k H' dx a' hx => thr_at k a' hx) k)
    · cases k
  · cases q
/-- the arguments are looked at alone -/
theorem AtS.looked : ∀ {l : List Sl} {us : List V} {ds : List Da}, us.length = l.length → das l = some ds → AtS K b ρ σ S H ((us.zip l).reverse ++ ps) F → Rps K H us ds := by
  intro l
  induction l generalizing ps F with
  | nil =>
    intro us ds hl h a
    cases h
    cases us with
    | nil => exact .nil
    | cons _ _ => cases hl
  | cons s l ih =>
    intro us ds hl h a
    cases us with
    | nil => cases hl
    | cons u us =>
      cases hs : s.da with
      | none => simp only [das, hs] at h; cases h
      | some d =>
        cases ho : das l with
        | none => simp only [das, hs, ho] at h; cases h
        | some es =>
          simp only [das, hs, ho] at h
          cases h
          have m : (u, s) ∈ ((u :: us).zip (s :: l)).reverse ++ ps := by simp
          refine .cons (a.rpH m hs) ?_
          rw [List.zip_cons_cons, List.reverse_cons, List.append_assoc] at a
          exact ih (by simpa using hl) ho a
theorem eg_callV (h : EvGA K b W c tx dx) (ln : LenIs n dx) : EvG K b W c (tCallE (spG K n Fn0) (WE W) tx) (dCallV Fn0 dx) := fun ρ σ H ps Q nv a q => by
  refine h ρ σ H ps _ nv a (G.good_mono (fun l ⟨hn, k⟩ H1 us hl a1 => ?_) (fun _ h => h) (ln ρ _ _ (G.good_bind.mp q)))
  clear q
  split at k
  · rename_i ds ho
    obtain ⟨S, F, A⟩ := id a1
    have r : Rps K H1 us ds := A.looked hl ho
    obtain ⟨S1, F1, A1⟩ := a1.drops
    have r := Rps.keepX (keepX_noT A1.iv.tb) _ _ r
    have up : ∀ {S' H'}, Step ⟨none⟩ (noT H1) H1 S' H' → KeepX H1 H' := fun st c o e n => st.hh c o ⟨fun p q z => (by cases z), tabs_ne A1.iv.tb e n⟩ e
    have back : ∀ {S' H'}, Step ⟨none⟩ (noT H1) H1 S' H' → Inv0 (bs0 ⟨none⟩ (noT H1) H1) S' H' → AtS K b ρ σ S1 H' ps F1 := fun {S' H'} st iv => A1.step ⟨Same.refl S1, fun c o e => st.hh c o ⟨fun p q z => (by cases z), fun t m z => by
        rw [z, A1.iv.ts t m] at e
        cases e⟩ (A1.sh c o e), fun c o f e => st.hh c o ⟨fun p q z => (by cases z), f.2⟩ e, fun c o e => .inl e⟩ ⟨fun p q e => by
      obtain ⟨dr, h1, h2⟩ := A1.iv.dr p q e
      exact ⟨Dr.keepX dr (up st), h1, h2⟩, iv.tb, A1.iv.ts⟩
    have iv0 : Inv0 (bs0 ⟨none⟩ (noT H1) H1) (noT H1) H1 := ⟨fun p q e => (by cases e), A1.iv.tb, fun t m => noT_at m⟩
    refine ⟨by rw [hl, hn], ⟨none⟩, noT H1, ds.map Sl.dat, noT_same, iv0, paired_dat r, G.good_mono (fun s k2 => ?_) (fun e k2 => ?_) (G.good_bind.mp k)⟩
    · intro S' H' v o f st iv es r hf
      subst es
      split at k2
      · rename_i hfl
        have fin : ∀ d, (∀ T, Rp K T v d) → At K b ρ σ H' ((v, .dat d) :: ps) := fun d r => ⟨S1, F1, (back st iv).pushD (r S1)⟩
        cases o with
        | ol _ => cases hfl
        | od _ _ => cases hfl
        | fz d =>
          cases r with
          | fz r =>
            refine k2 H' v (fin d fun T => ?_)
            cases d <;> first | (exact absurd hfl Bool.false_ne_true) | (cases r; first | exact .non | exact .bl _ | exact .int _ | exact .str _)
      · cases k2
    · intro S' H' dx st iv hx
      exact thr_at k2 ⟨S1, F1, back st iv⟩ hx
  · cases k
/-- the arguments by keywords -/
def dCallK (F : Fn) (g : List Da → List Da) (a : DA) : DE := fun ρ => (a ρ).bind fun l => match ows l with | some os => F ((g (frzs os)).map Sl.dat) | none => .fail
theorem eg_callK {gV : List V → List V} {gD : List Da → List Da} {m0 : Nat} (h : EvGA K b W c tx dx) (ln : LenIs m0 dx) (hg : ∀ S us ds, us.length = m0 → Rps K S us ds → (gV us).length = n ∧ Rps K S (gV us) (gD ds)) :
    EvG K b W c (tCallKE (spG K n Fn0) m0 gV (WE W) tx) (dCallK Fn0 gD dx) := fun ρ σ H ps Q nv a q => by
  refine h ρ σ H ps _ nv a (G.good_mono (fun l ⟨hn, k⟩ H1 us hl a1 => ?_) (fun _ h => h) (ln ρ _ _ (G.good_bind.mp q)))
  clear q
  split at k
  · rename_i os ho
    obtain ⟨T, F, A, r⟩ := At.args hl ho a1
    obtain ⟨g1, g2⟩ := hg T us _ (by rw [hl, hn]) r
    exact ⟨by rw [hl, hn], call_go A g1 (paired_dat g2) (G.good_mono (fun s k => k) (fun e k H' dx a' hx => thr_at k a' hx) k)⟩
  · cases k
structure PDK (K : PySem.W.Frag) (X : Cx) (W : WX) (c : Bool) (kws : List Keyword) (ta : TA) (d : DA) : Prop where
  pk : PK X kws ta
  ev : ∀ b, EvGA K b W c ta d
  ln : LenIs kws.length d
theorem pdk_nil : PDK K X W false [] tNil dNil := ⟨pk_nil, fun _ => ega_nil, len_nil⟩
theorem pdk_cons {nm : Option Str} {kpos : Pos} {kws : List Keyword} (h1 : PD K X W c e ta da) (h2 : PDK K X W false kws tx dx) : PDK K X W c (⟨nm, e, kpos⟩ :: kws) (tCons ta tx) (dCons da dx) := ⟨pk_cons h1.pe h2.pk, fun b => ega_cons (h1.ev b) (h2.ev b), len_cons h2.ln⟩
theorem pdk_consC {nm : Option Str} {kpos : Pos} {kws : List Keyword} (h1 : PD K X W true e ta da) (h2 : PDK K X W true kws tx dx) : PDK K X W true (⟨nm, e, kpos⟩ :: kws) (tCons ta tx) (dConsC da dx) := ⟨pk_cons h1.pe h2.pk, fun b => ega_consC (h1.ev b) (h2.ev b), len_consC h2.ln⟩
section
variable {P : Program} {w : World} {mg : Str → Option Value} {base : Heap} {k : Nat} {f0 : Addr} {fd : FuncData} {prm : List Str} {x : Str} {p : Pos}
/-- f(e, ..) -/
theorem pd_call (G : FnE P w K mg base k f0 fd prm (spG K n Fn0)) (hP : X.prog = P) (hw : X.w = w) (hK : X.K = K) (hmg : X.mg = mg) (hB : X.base = base) (hg : X.A.guards = some []) (hr : Room k X.A) (hgl : Gl X x)
    (hm : mg x = some (.ref f0)) (hk : PySem.W.keepIn K (.ref f0) = true) (hb : Binds K fd prm []) (tk : Takes X W) (ha : PDA K X W c (e :: es) tx dx) (hn : n = (e :: es).length)
    (hdb : (x == ("__debug__" : Str)) = false := by decide) (he : starEach (e :: es) X.env = (false, eval e X.env) :: starEach es X.env := by rfl) (hpl : (backTo pos (starEach es X.env)).any (·.1) = false := by rfl) :
    PD K X W c (.Call (.Name x p) (e :: es) [] pos) (tCallE (spG K n Fn0) (WE W) tx) (dCall Fn0 dx) := by
  subst hP hw hK hmg hB hn
  exact ⟨pe_callE G hg hr hgl hm hk hb tk ha.pa hdb he hpl, fun b => eg_call (ha.ev b) ha.ln⟩
theorem pd_callK {ks : List Str} {g : List Value → List Value} {gV : List V → List V} {gD : List Da → List Da} {kws : List Keyword} (G : FnE P w K mg base k f0 fd prm (spG K n Fn0)) (hP : X.prog = P) (hw : X.w = w) (hK : X.K = K) (hmg : X.mg = mg) (hB : X.base = base) (hg : X.A.guards = some []) (hr : Room k X.A) (hgl : Gl X x)
    (hm : mg x = some (.ref f0)) (hk : PySem.W.keepIn K (.ref f0) = true) (hb : KW0 K fd prm ks g gV) (hD : ∀ S us ds, us.length = kws.length → Rps K S us ds → (gV us).length = n ∧ Rps K S (gV us) (gD ds)) (tk : Takes X W) (ha : PDK K X W c kws tx dx) (hl : kws.length = ks.length)
    (hall : (backToKw pos (keywordEach kws X.env)).all (·.1.isSome) = true := by rfl) (hks : (backToKw pos (keywordEach kws X.env)).filterMap (·.1) = ks := by rfl) (hdb : (x == ("__debug__" : Str)) = false := by decide)
    (hpl : ((backTo pos (starEach [] X.env)).any (·.1) || (backToKw pos (keywordEach kws X.env)).any (·.1.isNone)) = false := by rfl) :
    PD K X W c (.Call (.Name x p) [] kws pos) (tCallKE (spG K n Fn0) ks.length gV (WE W) tx) (dCallK Fn0 gD dx) := by
  subst hP hw hK hmg hB
  exact ⟨pe_callKE G hg hr hgl hm hk hb tk ha.pk hall hks hdb hpl, fun b => by rw [← hl]; exact eg_callK (ha.ev b) ha.ln hD⟩
theorem pd_callV (G : FnE P w K mg base k f0 fd prm (spG K n Fn0)) (hP : X.prog = P) (hw : X.w = w) (hK : X.K = K) (hmg : X.mg = mg) (hB : X.base = base) (hg : X.A.guards = some []) (hr : Room k X.A) (hgl : Gl X x)
    (hm : mg x = some (.ref f0)) (hk : PySem.W.keepIn K (.ref f0) = true) (hb : Binds K fd prm []) (tk : Takes X W) (ha : PDA K X W c (e :: es) tx dx) (hn : n = (e :: es).length)
    (hdb : (x == ("__debug__" : Str)) = false := by decide) (he : starEach (e :: es) X.env = (false, eval e X.env) :: starEach es X.env := by rfl) (hpl : (backTo pos (starEach es X.env)).any (·.1) = false := by rfl) :
    PD K X W c (.Call (.Name x p) (e :: es) [] pos) (tCallE (spG K n Fn0) (WE W) tx) (dCallV Fn0 dx) := by
  subst hP hw hK hmg hB hn
  exact ⟨pe_callE G hg hr hgl hm hk hb tk ha.pa hdb he hpl, fun b => eg_callV (ha.ev b) ha.ln⟩
theorem pd_callD {i : Nat} (G : FnE P w K mg base k f0 fd prm (spG K n Fn0)) (hP : X.prog = P) (hw : X.w = w) (hK : X.K = K) (hmg : X.mg = mg) (hB : X.base = base) (hg : X.A.guards = some []) (hr : Room k X.A) (hgl : Gl X x)
    (hm : mg x = some (.ref f0)) (hk : PySem.W.keepIn K (.ref f0) = true) (hb : Binds K fd prm []) (tk : Takes X W) (h1 : PD K X W false e (tVar i) (dVar i)) (ha : PDA K X W c es tx dx) (hn : n = es.length + 1) (hs : starEach (e :: es) X.env = (false, eval e X.env) :: starEach es X.env := by rfl)
    (hdb : (x == ("__debug__" : Str)) = false := by decide) (hpl : (backTo pos (starEach es X.env)).any (·.1) = false := by rfl) :
    PD K X W c (.Call (.Name x p) (e :: es) [] pos) (tCallE (spG K n Fn0) (WE W) (tCons (tVar i) tx)) (dCallD Fn0 i dx) := by
  subst hP hw hK hmg hB hn
  exact ⟨pe_callE G hg hr hgl hm hk hb tk (pa_cons h1.pe ha.pa hs) hdb hs hpl, fun b => eg_callD (ha.ev b) ha.ln⟩
end
end
end Ge

namespace Sd
open PySem PySem.Spec PyProof.Rows L2
/-! ### a tuple, so many times -/
theorem tuple_mul1 (l : Addr) (items : Array Value) (n : Nat) (dd : Option Addr) (sl : Array (Option Value)) (k : Int) (u : Tok) (c0 : (decide (k < -(2 ^ 63)) || decide (k ≥ 2 ^ 63)) = false) (c1 : (items.isEmpty || k == 1) = true) :
    Meets (Builtin.«tuple.__mul__» ⟨[.ref l, .int k u], []⟩) (fun _ R s => s.heap.get? l = some { cls := .type "tuple", dict := dd, data := .seq items n, slots := sl } ∧ R (.ok (.ret (Value.ref l))) s) :=
  .of_wp fun prog w A R s h => by
    obtain ⟨hp, g, d, tk, os⟩ := s
    obtain ⟨hl, h⟩ := h
    have f1 := AutoSeq1.idx_int
    wp_walk using wpAny_loadPart' hl
    repeat (first
      | (refine wpAny_ite_false (decide_eq_false (by rw [c0]; exact Bool.false_ne_true)) ?_; wp_walk using wpAny_loadPart' hl)
      | (refine wpAny_ite_true (decide_eq_true (by rw [c1])) ?_; wp_walk using wpAny_loadPart' hl))
    exact ⟨_, rfl, h⟩
theorem tuple_mul0 (l : Addr) (items : Array Value) (n : Nat) (dd : Option Addr) (sl : Array (Option Value)) (k : Int) (u : Tok) (c0 : (decide (k < -(2 ^ 63)) || decide (k ≥ 2 ^ 63)) = false) (c1 : (items.isEmpty || k == 1) = false) (c2 : (decide (k ≤ 0) || items.isEmpty) = true) :
    Meets (Builtin.«tuple.__mul__» ⟨[.ref l, .int k u], []⟩) (fun _ R s => s.heap.get? l = some { cls := .type "tuple", dict := dd, data := .seq items n, slots := sl } ∧
      R (.ok (.ret (Value.ref s.heap.objs.size))) { s with heap := s.heap.push { cls := Value.type "tuple", data := Data.seq #[] }, toks := s.toks }) :=
  .of_wp fun prog w A R s h => by
    obtain ⟨hp, g, d, tk, os⟩ := s
    obtain ⟨hl, h⟩ := h
    have f1 := AutoSeq1.idx_int
    wp_walk using wpAny_loadPart' hl
    repeat (first
      | (refine wpAny_ite_false (decide_eq_false (by rw [c0]; exact Bool.false_ne_true)) ?_; wp_walk using wpAny_loadPart' hl)
      | (refine wpAny_ite_false (decide_eq_false (by rw [c1]; exact Bool.false_ne_true)) ?_; wp_walk using wpAny_loadPart' hl)
      | (refine wpAny_ite_true (decide_eq_true (by rw [c2])) ?_; wp_walk using wpAny_loadPart' hl))
    exact ⟨_, rfl, h⟩
def rRepA (K : PySem.W.Frag) : R2 := fun x y H Q => ∃ l k xs, x = .ref l ∧ y = .int k ∧ SqT K H l xs ∧ -1000000 ≤ k ∧ k ≤ 1000000 ∧ xs.length * k.toNat ≤ 1000000 ∧
  ((xs = [] ∨ k = 1) → Q (.ref l) H) ∧ (¬ (xs = [] ∨ k = 1) → ∀ p, H p = none → Q (.ref p) (upd H p (.tup (List.replicate k.toNat xs).flatten)))
theorem op_repA {X : Cx} : OpR X (binaryOp .Mult) (rRepA X.K) := by
  intro pins s σ H x y v u Q I rx ry h
  obtain ⟨l, k, xs, rfl, rfl, hT, h1, h2, hz, qs, qn⟩ := h
  cases rx
  obtain ⟨t, rfl⟩ := ry
  obtain ⟨its, r, ⟨⟨cls, dd, data, sl⟩, ho, hc, n, hd⟩, hs⟩ := I.tuple hT
  simp only at hc hd
  subst hc hd
  have hle : its.length = xs.length := r.length.symm
  have c0 : (decide (k < -(2 ^ 63)) || decide (k ≥ 2 ^ 63)) = false := by
    rw [decide_eq_false (by omega), decide_eq_false (by omega)] <;> rfl
  have he : its.toArray.isEmpty = true ↔ xs = [] := by
    cases its with
    | nil => simpa using List.eq_nil_of_length_eq_zero hle.symm
    | cons a b =>
      constructor
      · intro z; cases z
      · rintro rfl; cases hle
  by_cases g : xs = [] ∨ k = 1
  · have c1 : (its.toArray.isEmpty || k == 1) = true := by
      rw [Bool.or_eq_true, he, beq_iff_eq]
      exact g
    refine wpAny_binaryOp_repeat_ref (T := "tuple") (U := "int") (by decide) ⟨_, ho, rfl⟩ (fun s' => typeIs_int s' k t) noFill_tuple_mul F.fills_int_mul F.slot_int_rmul repeat_tuple F.slot_int_index.lookup
      (call_meets F.slot_int_rmul (typeIs_int s k t) F.entry_int_rmul (F.args_int_rmul_2 _ _) (int_rmul_tuple k t l its.toArray n dd sl)
        ⟨ho, rfl, ⟨_, ho, rfl⟩, call_meets F.slot_tuple_mul ⟨_, ho, rfl⟩ F.entry_tuple_mul (F.args_tuple_mul_2 _ _) (tuple_mul1 l its.toArray n dd sl k t c0 c1) ⟨ho, ?_⟩⟩)
    exact ⟨.ref l, H, I, rfl, qs g⟩
  · have c1 : (its.toArray.isEmpty || k == 1) = false := by
      cases z : (its.toArray.isEmpty || k == 1) with
      | false => rfl
      | true =>
        rw [Bool.or_eq_true, he, beq_iff_eq] at z
        exact absurd z g
    have hne : xs ≠ [] := fun e => g (.inl e)
    have hi : its.toArray.isEmpty = false := by
      cases z : its.toArray.isEmpty with
      | false => rfl
      | true => exact absurd (he.mp z) hne
    have hp : 1 ≤ xs.length := List.length_pos_iff.mpr hne
    by_cases k0 : k ≤ 0
    · have c2 : (decide (k ≤ 0) || its.toArray.isEmpty) = true := by rw [decide_eq_true k0]; rfl
      refine wpAny_binaryOp_repeat_ref (T := "tuple") (U := "int") (by decide) ⟨_, ho, rfl⟩ (fun s' => typeIs_int s' k t) noFill_tuple_mul F.fills_int_mul F.slot_int_rmul repeat_tuple F.slot_int_index.lookup
        (call_meets F.slot_int_rmul (typeIs_int s k t) F.entry_int_rmul (F.args_int_rmul_2 _ _) (int_rmul_tuple k t l its.toArray n dd sl)
          ⟨ho, rfl, ⟨_, ho, rfl⟩, call_meets F.slot_tuple_mul ⟨_, ho, rfl⟩ F.entry_tuple_mul (F.args_tuple_mul_2 _ _) (tuple_mul0 l its.toArray n dd sl k t c0 c1 c2) ⟨ho, ?_⟩⟩)
      have q := qn g _ (I.hok.fresh (Nat.le_refl _))
      have e : (List.replicate k.toNat xs).flatten = [] := by rw [show k.toNat = 0 by omega]; rfl
      rw [e] at q
      refine ⟨.ref s.heap.objs.size, _, I.laid (t' := s.toks) (o := .tup []) (fun b ob q => Heap.get?_push_of_some _ q) (Nat.le_refl _) ?_, rfl, q⟩
      exact ⟨Nat.zero_le _, [], .nil, IsTup.new _ _⟩
    · have c2 : (decide (k ≤ 0) || its.toArray.isEmpty) = false := by
        rw [hi, Bool.or_false]
        exact decide_eq_false (by omega)
      have kn : ((k.toNat : Nat) : Int) = k := by omega
      have hsz0 : its.toArray.size = xs.length := by rw [List.size_toArray, hle]
      have hm : ((its.toArray.size : Nat) : Int) * k ≤ 1000000 := by
        rw [hsz0, ← kn, ← Int.natCast_mul]
        omega
      have flen : (List.replicate k.toNat its).flatten.length ≤ sizeLine := by
        rw [PyProof.Rows.lm_len_rep_flat, hle, sizeLine_eq, Nat.mul_comm]
        omega
      have c4 : Builtin.Tuple.tupleTooMany (((its.toArray.size : Nat) : Int) * k) = false := by
        unfold Builtin.Tuple.tupleTooMany
        rw [sizeLine_eq]
        exact decide_eq_false (by omega)
      refine wpAny_binaryOp_repeat_ref (T := "tuple") (U := "int") (by decide) ⟨_, ho, rfl⟩ (fun s' => typeIs_int s' k t) noFill_tuple_mul F.fills_int_mul F.slot_int_rmul repeat_tuple F.slot_int_index.lookup
        (call_meets F.slot_int_rmul (typeIs_int s k t) F.entry_int_rmul (F.args_int_rmul_2 _ _) (int_rmul_tuple k t l its.toArray n dd sl)
          ⟨ho, rfl, ⟨_, ho, rfl⟩, call_meets F.slot_tuple_mul ⟨_, ho, rfl⟩ F.entry_tuple_mul (F.args_tuple_mul_2 _ _) (tuple_mulW l its.toArray n dd sl k t c0 c1 c2 (by omega) c4 (by rw [size_rep, List.size_toArray]; exact flen)) ⟨ho, ?_⟩⟩)
      rw [size_rep]
      refine ⟨.ref s.heap.objs.size, _, I.laid (t' := s.toks) (o := .tup (List.replicate k.toNat xs).flatten) (fun b ob q => Heap.get?_push_of_some _ q) (Nat.le_refl _) ?_, rfl, qn g _ (I.hok.fresh (Nat.le_refl _))⟩
      exact ⟨by rw [PyProof.Rows.lm_len_rep_flat, sizeLine_eq, Nat.mul_comm]; omega, _, r.rep k.toNat, IsTup.new _ _⟩
end Sd

set_option maxHeartbeats 400000
namespace Sd
open PySem PySem.Spec PyProof.Rows L2
/-! ### one rule or another -/
def rOr (r r' : R2) : R2 := fun x y H Q => r x y H Q ∨ r' x y H Q
theorem op_or {X : Cx} {f : Value → Value → Sem Value} {r r' : R2} (h : OpR X f r) (h' : OpR X f r') : OpR X f (rOr r r') := by
  intro pins s σ H x y v u Q I rx ry q
  rcases q with q | q
  · exact h pins s σ H x y v u Q I rx ry q
  · exact h' pins s σ H x y v u Q I rx ry q
def cOr (r r' : List V → Hp → VK → Prop) : List V → Hp → VK → Prop := fun xs H Q => r xs H Q ∨ r' xs H Q
theorem call_or {X : Cx} {f : Value} {r r' : List V → Hp → VK → Prop} (h : CallR X f r) (h' : CallR X f r') : CallR X f (cOr r r') := by
  intro pins s σ H xs us Q I rv q
  rcases q with q | q
  · exact h pins s σ H xs us Q I rv q
  · exact h' pins s σ H xs us Q I rv q
end Sd
namespace Ge
open PySem PySem.Spec PyProof.Rows L2 Sd
variable [HasT]
/-! ### operations -/
def iiF (g : Int → Int → Da) : Op2 := fun s t => match s, t with
  | .val (.fz (.int i)), .val (.fz (.int j)) => some (.dat (g i j)) | _, _ => none
def iiCF (C : Int → Int → Bool) (g : Int → Int → Int) : Op2 := fun s t => match s, t with
  | .val (.fz (.int i)), .val (.fz (.int j)) => if C i j = true then some (.dat (.int (g i j))) else none | _, _ => none
def ssF (s t : Sl) : Option Sl := match s, t with
  | .val (.fz (.str x)), .val (.fz (.str y)) => if small (x.length + y.length) = true then some (.dat (.str (x ++ y))) else none | _, _ => none
def ttF (s t : Sl) : Option Sl := match s, t with
  | .val (.fz (.tup x)), .val (.fz (.tup y)) => if small (x.length + y.length) = true then some (.dat (.tup (x ++ y))) else none | _, _ => none
def llF (s t : Sl) : Option Sl := match s.lds, t.lds with
  | some x, some y => if small (x.length + y.length) = true then some (.fresh (x ++ y)) else none | _, _ => none
def orF (f g : Op2) : Op2 := fun s t => match f s t with
  | some r => some r | none => g s t
def addF : Op2 := orF (iiF fun i j => .int (i + j)) (orF ssF (orF ttF llF))
def subF : Op2 := iiF fun i j => .int (i - j)
def mulC (i j : Int) : Bool := (decide (-(2 ^ 64) < i) && decide (i < 2 ^ 64)) || (decide (-(2 ^ 64) < j) && decide (j < 2 ^ 64))
def repF (s t : Sl) : Option Sl := match s.lds, t with
  | some ds, .val (.fz (.int k)) => if (smallI k && small (ds.length * k.toNat)) = true then some (.fresh (List.replicate k.toNat ds).flatten) else none | _, _ => none
def repTF (s t : Sl) : Option Sl := match s, t with
  | .val (.fz (.tup ds)), .val (.fz (.int k)) => if (smallI k && small (ds.length * k.toNat)) = true then some (.dat (.tup (List.replicate k.toNat ds).flatten)) else none | _, _ => none
def mulF : Op2 := orF (iiCF mulC fun i j => i * j) (orF repF repTF)
def fdivF : Op2 := iiCF (fun _ j => decide (0 < j) && decide (j < 1073741824)) fun i j => i / j
def modF : Op2 := iiCF (fun _ j => decide (0 < j)) fun i j => i % j
def powF : Op2 := iiCF (fun i j => decide (0 ≤ j) && decide (j ≤ 1000000) && decide (i.natAbs < 2 ^ 64)) fun i j => i ^ j.toNat
def negF (s : Sl) : Option Sl := match s with
  | .val (.fz (.int i)) => some (.dat (.int (-i))) | _ => none
def ssB (g : List Nat → List Nat → Bool) : Op2 := fun s t => match s, t with
  | .val (.fz (.str x)), .val (.fz (.str y)) => some (.dat (.bl (g x.cps.toList y.cps.toList))) | _, _ => none
def ltF : Op2 := orF (iiF fun i j => .bl (decide (i < j))) (ssB fun x y => decide (x < y))
def leF : Op2 := iiF fun i j => .bl (decide (i ≤ j))
def gtF : Op2 := iiF fun i j => .bl (decide (j < i))
def geF : Op2 := iiF fun i j => .bl (decide (j ≤ i))
/-- == of data -/
def flV : Da → Option V
  | .non => some .non | .bl c => some (.bl c) | .int i => some (.int i) | .str x => some (.str x) | _ => none
def eqB (d e : Da) : Option Bool := match flV d, flV e with
  | some x, some y => if scal x y = true then some (decide (x = y)) else none
  | _, _ => if (d.lays 60 && e.lays 60) = true then some (PyData.eqv d.py e.py) else none
def eqF : Op2 := fun s t => match s.da, t.da with
  | some d, some e => (match eqB d e with | some c => some (.dat (.bl c)) | none => none) | _, _ => none
def neF : Op2 := fun s t => match s.da, t.da with
  | some d, some e => (match eqB d e with | some c => some (.dat (.bl (!c))) | none => none) | _, _ => none
def noneB : Da → Option Bool
  | .non => some true | .raw _ => none | _ => some false
def isNF : Op2 := fun s t => match s.da, t with
  | some d, .val (.fz .non) => (match noneB d with | some c => some (.dat (.bl c)) | none => none) | _, _ => none
def notNF : Op2 := fun s t => match s.da, t with
  | some d, .val (.fz .non) => (match noneB d with | some c => some (.dat (.bl (!c))) | none => none) | _, _ => none
/-- the items of a list or tuple, whoever's -/
def Sl.items (s : Sl) : Option (List Da) := match s.tds with
  | some ds => some ds | none => s.lds
def flVs : List Da → Option (List V)
  | [] => some []
  | d :: r => match flV d, flVs r with | some v, some vs => some (v :: vs) | _, _ => none
/-- x in xs: flat data; any data, in a list -/
def inB (s t : Sl) : Option Bool := match s with
  | .val (.fz d) => (match flV d, t.items with
    | some v, some ds => (match flVs ds with | some vs => some (inV v vs) | none => (if (d.lays 60 && layss 59 ds) = true then (match t.lds with | some es => some (es.any fun z => PyData.eqv z.py d.py) | none => none) else none))
    | none, _ => (match t.lds with | some es => if (d.lays 60 && layss 59 es) = true then some (es.any fun z => PyData.eqv z.py d.py) else none | none => none)
    | _, none => (match d, t with | .str x, .val (.fz (.str z)) => (match x.cps.toList with | [c] => some (decide (c ∈ z.cps.toList)) | _ => none) | _, _ => none))
  | _ => none
def inF : Op2 := fun s t => match inB s t with | some c => some (.dat (.bl c)) | none => none
def ninF : Op2 := fun s t => match inB s t with | some c => some (.dat (.bl (!c))) | none => none
def mkView : Ow → Sl
  | .fz d => .dat d | o => .view o
def ixF : Op2 := fun s t => match t with
  | .val (.fz (.int i)) => (match s with
    | .val (.fz (.tup ds)) => (match atI ds i with | some d => some (.dat d) | none => none)
    | .val (.fz (.lst ds)) => (match atI ds i with | some d => some (.dat d) | none => none)
    | .view (.ol os) => (match atI os i with | some o => some (mkView o) | none => none)
    | .val (.ol os) => (match atI os i with | some (.fz d) => some (.dat d) | _ => none)
    | .val (.fz (.str z)) => if small z.length = true then (match atI z.cps.toList i with | some c => some (.dat (.str ⟨#[c]⟩)) | none => none) else none
    | _ => none)
  | _ => none
section
variable {K : PySem.W.Frag} {b : Bs} {ρ : List Sl} {σ : L2.St} {S H S' H' : Hp} {ps : List (V × Sl)} {v : V} {s : Sl} {F f : List Addr} {d : Da} {X : Cx} {W : WX} {m c c1 c2 c3 : Bool}
theorem ok_or {r r' : R2} {f g : Op2} (h : Op2Ok K r f) (h' : Op2Ok K r' g) : Op2Ok K (rOr r r') (orF f g) := fun b s1 s2 s e ρ σ H ps Q x y a q => by
  unfold orF at e
  split at e
  · rename_i r0 e0
    cases e
    exact .inl (h b s1 s2 _ e0 ρ σ H ps Q x y a q)
  · exact .inr (h' b s1 s2 s e ρ σ H ps Q x y a q)
theorem ok_ii {g : Int → Int → Int} : Op2Ok K (rI0 fun i j => .int (g i j)) (iiF fun i j => .int (g i j)) := fun b s1 s2 s e ρ σ H ps Q x y a q => by
  unfold iiF at e
  split at e
  · cases e
    obtain rfl := a.vInt
    obtain rfl := a.drop.vInt
    exact ⟨_, _, rfl, rfl, q H _ (a.drop2.int _)⟩
  · cases e
theorem ok_iib {g : Int → Int → Bool} : Op2Ok K (rI0 fun i j => .bl (g i j)) (iiF fun i j => .bl (g i j)) := fun b s1 s2 s e ρ σ H ps Q x y a q => by
  unfold iiF at e
  split at e
  · cases e
    obtain rfl := a.vInt
    obtain rfl := a.drop.vInt
    exact ⟨_, _, rfl, rfl, q H _ (a.drop2.bl _)⟩
  · cases e
theorem ok_iiC {C : Int → Int → Bool} {P : Int → Int → Prop} {g : Int → Int → Int} (h : ∀ i j, C i j = true → P i j) : Op2Ok K (rI P fun i j => .int (g i j)) (iiCF C g) := fun b s1 s2 s e ρ σ H ps Q x y a q => by
  unfold iiCF at e
  split at e
  · split at e
    · cases e
      obtain rfl := a.vInt
      obtain rfl := a.drop.vInt
      exact ⟨_, _, rfl, rfl, h _ _ (by assumption), q H _ (a.drop2.int _)⟩
    · cases e
  · cases e
theorem ok_ss : Op2Ok K (fun x y H Q => ∃ i j, x = .str i ∧ y = .str j ∧ i.length + j.length ≤ sizeLine ∧ Q (.str (i ++ j)) H) ssF := fun b s1 s2 s e ρ σ H ps Q x y a q => by
  unfold ssF at e
  split at e
  · split at e
    · cases e
      obtain rfl := a.vStr
      obtain rfl := a.drop.vStr
      exact ⟨_, _, rfl, rfl, small_line (by assumption), q H _ (a.drop2.str _)⟩
    · cases e
  · cases e
theorem ok_tt : Op2Ok K (rCatA K) ttF := fun b s1 s2 s e ρ σ H ps Q x y a q => by
  unfold ttF at e
  split at e
  · split at e
    · cases e
      rename_i ds es hs
      obtain ⟨S, F, A⟩ := id a
      obtain ⟨p2, ys, ey, h2, r2⟩ := A.seqT List.mem_cons_self (show Sl.tds (.val (.fz (.tup _))) = some _ from rfl)
      obtain ⟨p1, xs, ex, h1, r1⟩ := A.seqT (List.mem_cons_of_mem _ List.mem_cons_self) (show Sl.tds (.val (.fz (.tup _))) = some _ from rfl)
      cases ey
      cases ex
      refine ⟨p1, p2, xs, ys, rfl, rfl, h1, h2, by rw [r1.len, r2.len]; exact small_line hs, fun z => ?_, fun _ z => ?_, fun _ _ t nt => ?_⟩
      · subst z
        cases r1
        exact q _ _ a.snd
      · subst z
        cases r2
        rw [List.append_nil] at q
        exact q _ _ a.drop
      · obtain ⟨f1, F1, rfl, _, A1⟩ := A.hd
        obtain ⟨f2, F2, rfl, _, A2⟩ := A1.hd
        exact q _ _ ⟨_, _, (A2.new (o := .tup (xs ++ ys)) nt).pushD (.tup (SqT.of upd_same) (Rps.same (same_new (A2.sh.free nt)) _ _ (r1.app r2)))⟩
    · cases e
  · cases e
theorem AtS.tl {x : V × Sl} (h : AtS K b ρ σ S H (x :: ps) F) : ∃ F', AtS K b ρ σ S H ps F' := by
  obtain ⟨f, F', _, _, h1⟩ := h.hd
  exact ⟨F', h1⟩
theorem ok_ll : Op2Ok K rCat llF := fun b s1 s2 s e ρ σ H ps Q x y a q => by
  unfold llF at e
  split at e
  · split at e
    · cases e
      rename_i ds es h1 h2 hs
      obtain ⟨S, F, A⟩ := id a
      obtain ⟨p2, ys, ey, g2, r2⟩ := A.seqL List.mem_cons_self h2
      obtain ⟨p1, xs, ex, g1, r1⟩ := A.seqL (List.mem_cons_of_mem _ List.mem_cons_self) h1
      cases ey
      cases ex
      obtain ⟨F1, A1⟩ := A.tl
      obtain ⟨F2, A2⟩ := A1.tl
      exact ⟨p1, p2, xs, ys, rfl, rfl, g1, g2, by rw [r1.len, r2.len]; exact small_line hs, fun t nt => q _ _ ⟨_, _, A2.pushF nt (r1.app r2)⟩⟩
    · cases e
  · cases e
theorem mulC_ok {i j : Int} (h : mulC i j = true) : CMul i j := by
  unfold mulC at h
  simp only [Bool.or_eq_true, Bool.and_eq_true, decide_eq_true_eq] at h
  exact h
theorem rps_rep {xs : List V} {ds : List Da} (r : Rps K S xs ds) : ∀ n : Nat, Rps K S (List.replicate n xs).flatten (List.replicate n ds).flatten
  | 0 => .nil
  | n + 1 => by
    rw [List.replicate_succ, List.replicate_succ, List.flatten_cons, List.flatten_cons]
    exact r.app (rps_rep r n)
theorem ok_rep : Op2Ok K rRep repF := fun b s1 s2 s e ρ σ H ps Q x y a q => by
  unfold repF at e
  split at e
  · split at e
    · cases e
      rename_i ds k h1 hs
      rw [Bool.and_eq_true] at hs
      obtain ⟨b1, b2⟩ := smallI_le hs.1
      obtain rfl := a.vInt
      obtain ⟨S, F, A⟩ := id a
      obtain ⟨p1, xs, ex, g1, r1⟩ := A.seqL (List.mem_cons_of_mem _ List.mem_cons_self) h1
      cases ex
      obtain ⟨F1, A1⟩ := A.tl
      obtain ⟨F2, A2⟩ := A1.tl
      exact ⟨p1, _, xs, rfl, rfl, g1, by omega, by omega, by rw [r1.len]; exact small_line hs.2, fun t nt => q _ _ ⟨_, _, A2.pushF nt (rps_rep r1 _)⟩⟩
    · cases e
  · cases e
theorem ok_repT : Op2Ok K (rRepA K) repTF := fun b s1 s2 s e ρ σ H ps Q x y a q => by
  unfold repTF at e
  split at e
  · split at e
    · cases e
      rename_i ds k hs
      rw [Bool.and_eq_true] at hs
      obtain ⟨b1, b2⟩ := smallI_le hs.1
      obtain rfl := a.vInt
      obtain ⟨S, F, A⟩ := id a
      obtain ⟨p1, xs, ex, g1, r1⟩ := A.seqT (List.mem_cons_of_mem _ List.mem_cons_self) (show Sl.tds (.val (.fz (.tup _))) = some _ from rfl)
      cases ex
      refine ⟨p1, _, xs, rfl, rfl, g1, by omega, by omega, by rw [r1.len]; exact small_le hs.2, fun z => ?_, fun _ t nt => ?_⟩
      · have e : (List.replicate k.toNat ds).flatten = ds := by
          rcases z with z | z
          · subst z
            cases r1
            simp
          · rw [z]
            simp
        rw [e] at q
        exact q _ _ a.drop
      · obtain ⟨F1, A1⟩ := A.tl
        obtain ⟨F2, A2⟩ := A1.tl
        exact q _ _ ⟨_, _, (A2.new (o := .tup (List.replicate k.toNat xs).flatten) nt).pushD (.tup (SqT.of upd_same) (Rps.same (same_new (A2.sh.free nt)) _ _ (rps_rep r1 _)))⟩
    · cases e
  · cases e
theorem ok_add : Op2Ok K (rOr (rI0 fun i j => .int (i + j)) (rOr (fun x y H Q => ∃ i j, x = .str i ∧ y = .str j ∧ i.length + j.length ≤ sizeLine ∧ Q (.str (i ++ j)) H) (rOr (rCatA K) rCat))) addF := ok_or ok_ii (ok_or ok_ss (ok_or ok_tt ok_ll))
theorem ok_mul : Op2Ok K (rOr (rI CMul fun i j => .int (i * j)) (rOr rRep (rRepA K))) mulF := ok_or (ok_iiC fun i j h => mulC_ok h) (ok_or ok_rep ok_repT)
theorem ok_fdiv : Op2Ok K (rI CDiv fun i j => .int (i / j)) fdivF := ok_iiC fun i j h => by
  rw [Bool.and_eq_true] at h
  exact ⟨of_decide_eq_true h.1, of_decide_eq_true h.2⟩
theorem ok_mod : Op2Ok K (rI (fun _ j => 0 < j) fun i j => .int (i % j)) modF := ok_iiC fun i j h => of_decide_eq_true h
theorem ok_pow : Op2Ok K (rI CPow fun i j => .int (i ^ j.toNat)) powF := ok_iiC fun i j h => by
  rw [Bool.and_eq_true, Bool.and_eq_true] at h
  exact ⟨of_decide_eq_true h.1.1, of_decide_eq_true h.1.2, of_decide_eq_true h.2⟩
theorem ok_neg : Op1Ok K (rU fun i => .int (-i)) negF := fun b s1 s e ρ σ H ps Q x a q => by
  unfold negF at e
  split at e
  · cases e
    obtain rfl := a.vInt
    exact ⟨_, rfl, q H _ (a.drop.int _)⟩
  · cases e
theorem ok_ssB {g : List Nat → List Nat → Bool} : Op2Ok K (fun x y H Q => ∃ i j : Str, x = .str i ∧ y = .str j ∧ Q (.bl (g i.cps.toList j.cps.toList)) H) (ssB g) := fun b s1 s2 s e ρ σ H ps Q x y a q => by
  unfold ssB at e
  split at e
  · cases e
    obtain rfl := a.vStr
    obtain rfl := a.drop.vStr
    exact ⟨_, _, rfl, rfl, q H _ (a.drop2.bl _)⟩
  · cases e
theorem ok_lt : Op2Ok K (rOr (rI0 fun i j => .bl (decide (i < j))) (fun x y H Q => ∃ i j, x = .str i ∧ y = .str j ∧ Q (.bl (decide (i.cps.toList < j.cps.toList))) H)) ltF := ok_or ok_iib ok_ssB
theorem rp_flat {w : V} (r : Rp K S v d) (h : flV d = some w) : v = w := by
  cases d <;> first | (cases h; cases r; rfl) | cases h
theorem rp_dp {n : Nat} (r : Rp K H v d) (l : d.lays n = true) : Dp K H v d.py := Rp.dp (Same.refl H) n d v l r
theorem lays_shaped {d : Da} (l : d.lays 60 = true) : SeqAt.shaped d.py = true := (lays_flat 60 d l).shaped (by decide)
/-- == and != -/
theorem eq_go {s1 s2 : Sl} {d e : Da} {x y : V} (a : At K b ρ σ H ((y, s2) :: (x, s1) :: ps)) (hd : s1.da = some d) (he : s2.da = some e) (hc : eqB d e = some c) :
    (scal x y = true ∧ c = decide (x = y)) ∨ ∃ p q, Dp K H x p ∧ Dp K H y q ∧ SeqAt.shaped p = true ∧ SeqAt.shaped q = true ∧ c = PyData.eqv p q := by
  have r2 := a.rpH List.mem_cons_self he
  have r1 := a.rpH (List.mem_cons_of_mem _ List.mem_cons_self) hd
  unfold eqB at hc
  split at hc
  · rename_i v w e1 e2
    split at hc
    · cases hc
      rw [rp_flat r1 e1, rp_flat r2 e2]
      exact .inl ⟨by assumption, rfl⟩
    · cases hc
  · split at hc
    · cases hc
      rename_i hl
      rw [Bool.and_eq_true] at hl
      exact .inr ⟨_, _, rp_dp r1 hl.1, rp_dp r2 hl.2, lays_shaped hl.1, lays_shaped hl.2, rfl⟩
    · cases hc
theorem ok_eq : Op2Ok K (rOr rEq (rEqD K)) eqF := fun b s1 s2 s e ρ σ H ps Q x y a q => by
  unfold eqF at e
  split at e
  · rename_i d1 d2 h1 h2
    split at e
    · cases e
      rename_i cc hc
      rcases eq_go a h1 h2 hc with ⟨g1, g2⟩ | ⟨p, r, g1, g2, g3, g4, g5⟩
      · exact .inl ⟨g1, by rw [← g2]; exact q H _ (a.drop2.bl _)⟩
      · exact .inr ⟨p, r, g1, g2, g3, g4, by rw [← g5]; exact q H _ (a.drop2.bl _)⟩
    · cases e
  · cases e
theorem ok_ne : Op2Ok K (rOr rNe (rNeD K)) neF := fun b s1 s2 s e ρ σ H ps Q x y a q => by
  unfold neF at e
  split at e
  · rename_i d1 d2 h1 h2
    split at e
    · cases e
      rename_i cc hc
      rcases eq_go a h1 h2 hc with ⟨g1, g2⟩ | ⟨p, r, g1, g2, g3, g4, g5⟩
      · exact .inl ⟨g1, by rw [← g2]; exact q H _ (a.drop2.bl _)⟩
      · exact .inr ⟨p, r, g1, g2, g3, g4, by rw [← g5]; exact q H _ (a.drop2.bl _)⟩
    · cases e
  · cases e
theorem none_go (r : Rp K H v d) (h : noneB d = some c) : decide (v = .non) = c := by
  cases d <;> first | (cases h; cases r; rfl) | cases h
theorem ok_isN : Op2Ok K (fun x y H Q => y = .non ∧ Q (.bl (decide (x = .non))) H) isNF := fun b s1 s2 s e ρ σ H ps Q x y a q => by
  unfold isNF at e
  split at e
  · rename_i d1 h1
    split at e
    · cases e
      rename_i cc hc
      obtain rfl := a.vNon
      have r1 := a.rpH (List.mem_cons_of_mem _ List.mem_cons_self) h1
      exact ⟨rfl, by rw [none_go r1 hc]; exact q H _ (a.drop2.bl _)⟩
    · cases e
  · cases e
theorem ok_notN : Op2Ok K (fun x y H Q => y = .non ∧ Q (.bl (!decide (x = .non))) H) notNF := fun b s1 s2 s e ρ σ H ps Q x y a q => by
  unfold notNF at e
  split at e
  · rename_i d1 h1
    split at e
    · cases e
      rename_i cc hc
      obtain rfl := a.vNon
      have r1 := a.rpH (List.mem_cons_of_mem _ List.mem_cons_self) h1
      exact ⟨rfl, by rw [none_go r1 hc]; exact q H _ (a.drop2.bl _)⟩
    · cases e
  · cases e
end
end Ge

set_option maxHeartbeats 400000
namespace Ge
open PySem PySem.Spec PyProof.Rows L2 Sd
variable [HasT]
def rSgn (neg : Bool) : R2 := fun x y H Q => ∃ (c : Nat) (z : Str), x = .str ⟨#[c]⟩ ∧ y = .str z ∧ Q (.bl (if neg = true then !decide (c ∈ z.cps.toList) else decide (c ∈ z.cps.toList))) H
theorem op_sgn {X : Cx} : OpR X (compareOp .In) (rSgn false) := op_in_sign
theorem op_nsgn {X : Cx} : OpR X (compareOp .NotIn) (rSgn true) := op_notIn_sign
/-- a slice -/
def cutD {α : Type} (ds : List α) (lo hi : Option Int) : List α := (ds.drop (HT.sIx ds.length 0 lo)).take (HT.sIx ds.length ds.length hi - HT.sIx ds.length 0 lo)
abbrev SlF := Sl → Option Int → Option Int → Option Sl
def cutF : SlF := fun s lo hi => match s with
  | .val (.fz (.tup ds)) => some (.dat (.tup (cutD ds lo hi)))
  | .val (.fz (.str z)) => if small z.length = true then some (.dat (.str (cutS z lo hi))) else none
  | s => match s.lds with | some ds => some (.fresh (cutD ds lo hi)) | none => none
def intO : Sl → G (Option Int)
  | .val (.fz (.int i)) => .pure (some i) | _ => .fail
def dNoPart : DO := fun _ => .pure none
def dPart (a : DE) : DO := fun ρ => (a ρ).bind intO
def dSl (f : SlF) (a : DE) (lo hi : DO) : DE := fun ρ => (a ρ).bind fun s => (lo ρ).bind fun l => (hi ρ).bind fun h => optG (f s l h)
def SlOk (K : PySem.W.Frag) (r : V → Option Int → Option Int → Hp → VK → Prop) (f : SlF) : Prop := ∀ b s1 lo hi s, f s1 lo hi = some s → ∀ ρ σ H ps (Q : VK) x, At K b ρ σ H ((x, s1) :: ps) → (∀ H' z, At K b ρ σ H' ((z, s) :: ps) → Q z H') → r x lo hi H Q
section
variable {K : PySem.W.Frag} {b : Bs} {ρ : List Sl} {σ : L2.St} {S H S' H' : Hp} {ps : List (V × Sl)} {v : V} {s : Sl} {F f : List Addr} {d : Da} {X : Cx} {W : WX} {m c c1 c2 c3 : Bool}
  {e e1 e2 e3 tg : Expr} {es : List Expr} {te ta tb tc : TE} {tt tu : TT} {tx : TA} {da db dc : DE} {dt du : DB} {dx : DA} {pos : Pos} {lo hi : Option Expr} {tl th : TO} {dl dh : DO}
/-! ### items -/
theorem rps_atI {S : Hp} {xs : List V} {ds : List Da} (r : Rps K S xs ds) {i : Int} {d : Da} (h : atI ds i = some d) : ∃ v, atI xs i = some v ∧ Rp K S v d := by
  unfold atI at h ⊢
  rw [r.len]
  cases e : ixN ds.length i with
  | none => rw [e] at h; cases h
  | some j =>
    rw [e] at h
    exact Rps.get r h
theorem okvs_atI {xs : List V} {os : List Ow} {fs : List Addr} (r : Okvs K S H xs os fs) {i : Int} {o : Ow} (h : atI os i = some o) : ∃ v f, atI xs i = some v ∧ Okv K S H v o f ∧ ∀ a ∈ f, a ∈ fs := by
  unfold atI at h ⊢
  rw [r.len]
  cases e : ixN os.length i with
  | none => rw [e] at h; cases h
  | some j =>
    rw [e] at h
    obtain ⟨v, f, h1, h2, h3, _⟩ := r.get h
    exact ⟨v, f, h1, h2, h3⟩
theorem ok_ix : Op2Ok K (L2.rIx K) ixF := fun b s1 s2 s e ρ σ H ps Q x y a q => by
  unfold ixF at e
  split at e
  · rename_i i
    obtain rfl := a.vInt
    obtain ⟨S, F, A⟩ := id a
    obtain ⟨F1, A1⟩ := A.tl
    obtain ⟨f, r, hf⟩ := A1.mem List.mem_cons_self
    obtain ⟨F2, A2⟩ := A1.tl
    split at e
    · rename_i ds
      split at e
      · cases e
        rename_i d hd
        obtain ⟨w, ew, r⟩ := r
        cases ew
        cases r with
        | fz r =>
          cases r with
          | tup hs ha =>
            obtain ⟨u, hu, ru⟩ := rps_atI ha hd
            exact .inr (.inl ⟨_, _, i, u, rfl, rfl, Ge.seqT A.sh hs, hu, q H _ ⟨S, _, A2.pushD ru⟩⟩)
      · cases e
    · rename_i ds
      split at e
      · cases e
        rename_i d hd
        obtain ⟨w, ew, r⟩ := r
        cases ew
        cases r with
        | fz r =>
          cases r with
          | lst hs ha =>
            obtain ⟨u, hu, ru⟩ := rps_atI ha hd
            exact .inl ⟨_, _, i, u, rfl, rfl, SqL.of (A.sh _ _ hs), hu, q H _ ⟨S, _, A2.pushD ru⟩⟩
      · cases e
    · rename_i os
      split at e
      · cases e
        rename_i o ho
        obtain ⟨_, w, f', ew, r, off'⟩ := r
        cases ew
        cases r with
        | ol hs t =>
          obtain ⟨u, g, hu, ru, hg⟩ := okvs_atI t ho
          refine .inl ⟨_, _, i, u, rfl, rfl, SqL.of hs, hu, q H _ ⟨S, F2, ?_⟩⟩
          cases o with
          | fz d =>
            cases ru with
            | fz ru => exact A2.pushD ru
          | ol qs => exact A2.push ⟨rfl, u, g, rfl, ru, fun a m => off' a (List.mem_cons_of_mem _ (hg a m))⟩
          | od ks ds => exact A2.push ⟨rfl, u, g, rfl, ru, fun a m => off' a (List.mem_cons_of_mem _ (hg a m))⟩
      · cases e
    · rename_i os
      split at e
      · cases e
        rename_i d ho
        obtain ⟨w, ew, r⟩ := r
        cases ew
        cases r with
        | ol hs t =>
          obtain ⟨u, g, hu, ru, hg⟩ := okvs_atI t ho
          cases ru with
          | fz ru => exact .inl ⟨_, _, i, u, rfl, rfl, SqL.of hs, hu, q H _ ⟨S, _, A2.pushD ru⟩⟩
      · cases e
    · rename_i z
      split at e
      · rename_i hs
        split at e
        · cases e
          rename_i cc hc
          obtain rfl := a.drop.vStr
          exact .inr (.inr ⟨z, i, cc, rfl, rfl, small_line hs, hc, q H _ (a.drop2.str _)⟩)
        · cases e
      · cases e
    · cases e
  · cases e
/-! ### in -/
theorem rps_flVs {S : Hp} : ∀ {xs : List V} {ds : List Da} {vs : List V}, Rps K S xs ds → flVs ds = some vs → xs = vs
  | _, _, _, .nil, h => by cases h; rfl
  | _, _, _, .cons (d := d) (ds := ds) r t, h => by
    cases e1 : flV d with
    | none => simp only [flVs, e1] at h; cases h
    | some w =>
      cases e2 : flVs ds with
      | none => simp only [flVs, e1, e2] at h; cases h
      | some ws =>
        simp only [flVs, e1, e2] at h
        cases h
        rw [rp_flat r e1, rps_flVs t e2]
theorem flV_flat {d : Da} {w : V} (h : flV d = some w) : flatV w = true := by
  cases d <;> first | (cases h; rfl) | cases h
theorem flVs_flat : ∀ {ds : List Da} {vs : List V}, flVs ds = some vs → vs.all flatV = true
  | [], _, h => by cases h; rfl
  | d :: ds, _, h => by
    cases e1 : flV d with
    | none => simp only [flVs, e1] at h; cases h
    | some w =>
      cases e2 : flVs ds with
      | none => simp only [flVs, e1, e2] at h; cases h
      | some ws =>
        simp only [flVs, e1, e2] at h
        cases h
        rw [List.all_cons, flV_flat e1, flVs_flat e2]; rfl
theorem AtS.itemsAt {ds : List Da} (A : AtS K b ρ σ S H ps F) (m : (v, s) ∈ ps) (h : s.items = some ds) : ∃ p xs, v = .ref p ∧ (SqL K H p xs ∨ SqT K H p xs) ∧ Rps K S xs ds := by
  unfold Sl.items at h
  cases e : s.tds with
  | some es =>
    rw [e] at h
    cases h
    obtain ⟨p, xs, e1, e2, e3⟩ := A.seqT m e
    exact ⟨p, xs, e1, .inr e2, e3⟩
  | none =>
    rw [e] at h
    obtain ⟨p, xs, e1, e2, e3⟩ := A.seqL m h
    exact ⟨p, xs, e1, .inl (SqL.of e2), e3⟩
theorem pys_map_any (d : Da) : ∀ es : List Da, (es.any fun z => PyData.eqv z.py d.py) = ((pys es).any fun z => PyData.eqv z d.py)
  | [] => rfl
  | e :: es => by rw [pys, List.any_cons, List.any_cons, pys_map_any d es]
theorem in_go {s1 s2 : Sl} {x y : V} (a : At K b ρ σ H ((y, s2) :: (x, s1) :: ps)) (h : inB s1 s2 = some c) :
    (∃ p xs, y = .ref p ∧ (SqL K H p xs ∨ SqT K H p xs) ∧ flatV x = true ∧ xs.all flatV = true ∧ c = inV x xs) ∨
    (∃ d ds, Dp K H x d ∧ Dp K H y (.list ds) ∧ SeqAt.shaped d = true ∧ SeqAt.shaped (.list ds) = true ∧ c = ds.any fun z => PyData.eqv z d) ∨
    (∃ (cc : Nat) (z : Str), x = .str ⟨#[cc]⟩ ∧ y = .str z ∧ c = decide (cc ∈ z.cps.toList)) := by
  unfold inB at h
  split at h
  · rename_i d
    obtain ⟨S, F, A⟩ := id a
    have rx : Rp K S x d := A.rpD (List.mem_cons_of_mem _ List.mem_cons_self)
    have deep : ∀ {es : List Da}, s2.lds = some es → d.lays 60 = true → layss 59 es = true → c = (es.any fun z => PyData.eqv z.py d.py) →
        ∃ d ds, Dp K H x d ∧ Dp K H y (.list ds) ∧ SeqAt.shaped d = true ∧ SeqAt.shaped (.list ds) = true ∧ c = ds.any fun z => PyData.eqv z d := by
      intro es he l1 l2 hc
      obtain ⟨p, xs, ey, g, r⟩ := A.seqL List.mem_cons_self he
      cases ey
      refine ⟨d.py, pys es, Rp.dp A.sh 60 d x l1 rx, .lst (SqL.of g) (Rps.dp A.sh 59 es xs l2 r), lays_shaped l1, lays_shaped (d := .lst es) (by simpa [Da.lays] using l2), by rw [hc, pys_map_any]⟩
    split at h
    · rename_i v ds e1 e2
      split at h
      · rename_i vs e3
        cases h
        obtain ⟨p, xs, ey, g, r⟩ := A.itemsAt List.mem_cons_self e2
        cases ey
        obtain rfl := rps_flVs r e3
        rw [rp_flat rx e1]
        exact .inl ⟨p, xs, rfl, g, flV_flat e1, flVs_flat e3, rfl⟩
      · split at h
        · rename_i hl
          rw [Bool.and_eq_true] at hl
          split at h
          · rename_i es he
            have hde : ds = es := by
              unfold Sl.items at e2
              cases e : s2.tds with
              | none => rw [e] at e2; exact Option.some.inj (e2.symm.trans he)
              | some ws =>
                cases s2 with
                | no => cases e
                | src => cases e
                | slf => cases e
                | val o => cases o with
                  | ol _ => cases e
                  | od _ _ => cases e
                  | fz dd => cases dd <;> first | (cases he; done) | (cases e; done)
                | view o => cases o with
                  | ol _ => cases e
                  | od _ _ => cases e
                  | fz dd => cases dd <;> first | (cases he; done) | (cases e; done)
            subst hde
            exact .inr (.inl (deep he hl.1 hl.2 (Option.some.inj h).symm))
          · cases h
        · cases h
    · split at h
      · rename_i es he
        split at h
        · rename_i hl
          rw [Bool.and_eq_true] at hl
          exact .inr (.inl (deep he hl.1 hl.2 (Option.some.inj h).symm))
        · cases h
      · cases h
    · split at h
      · rename_i x0 z _ _
        split at h
        · rename_i cc hcc
          cases h
          obtain rfl := a.vStr
          obtain rfl := a.drop.vStr
          refine .inr (.inr ⟨cc, z, ?_, rfl, rfl⟩)
          have : x0.cps = #[cc] := by
            have := congrArg List.toArray hcc
            simpa using this
          cases x0
          simp only at this
          rw [this]
        · cases h
      · cases h
  · cases h
theorem ok_in : Op2Ok K (rOr (rIn K false) (rOr (rInD K) (rSgn false))) inF := fun b s1 s2 s e ρ σ H ps Q x y a q => by
  unfold inF at e
  split at e
  · cases e
    rename_i cc hc
    rcases in_go a hc with ⟨p, xs, g1, g2, g3, g4, g5⟩ | ⟨d, ds, g1, g2, g3, g4, g5⟩ | ⟨ch, z, g1, g2, g3⟩
    · exact .inl ⟨p, xs, g1, g2, g3, g4, by rw [if_neg Bool.false_ne_true, ← g5]; exact q _ _ (a.drop2.bl _)⟩
    · exact .inr (.inl ⟨d, ds, g1, g2, g3, g4, by rw [← g5]; exact q _ _ (a.drop2.bl _)⟩)
    · exact .inr (.inr ⟨ch, z, g1, g2, by rw [if_neg Bool.false_ne_true, ← g3]; exact q _ _ (a.drop2.bl _)⟩)
  · cases e
theorem ok_nin : Op2Ok K (rOr (rIn K true) (rOr (rNotInD K) (rSgn true))) ninF := fun b s1 s2 s e ρ σ H ps Q x y a q => by
  unfold ninF at e
  split at e
  · cases e
    rename_i cc hc
    rcases in_go a hc with ⟨p, xs, g1, g2, g3, g4, g5⟩ | ⟨d, ds, g1, g2, g3, g4, g5⟩ | ⟨ch, z, g1, g2, g3⟩
    · exact .inl ⟨p, xs, g1, g2, g3, g4, by rw [if_pos rfl, ← g5]; exact q _ _ (a.drop2.bl _)⟩
    · exact .inr (.inl ⟨d, ds, g1, g2, g3, g4, by rw [← g5]; exact q _ _ (a.drop2.bl _)⟩)
    · exact .inr (.inr ⟨ch, z, g1, g2, by rw [if_pos rfl, ← g3]; exact q _ _ (a.drop2.bl _)⟩)
  · cases e
/-! ### slices -/
def slOr (r r' : V → Option Int → Option Int → Hp → VK → Prop) : V → Option Int → Option Int → Hp → VK → Prop := fun x lo hi H Q => r x lo hi H Q ∨ r' x lo hi H Q
theorem sl_or {r r' : V → Option Int → Option Int → Hp → VK → Prop} (h : L2.SlR X r) (h' : L2.SlR X r') : L2.SlR X (slOr r r') := by
  intro pins s σ H x v vl vu lo hi sl Q I rx hs pl pu q
  rcases q with q | q
  · exact h pins s σ H x v vl vu lo hi sl Q I rx hs pl pu q
  · exact h' pins s σ H x v vl vu lo hi sl Q I rx hs pl pu q
theorem cut_list {s1 : Sl} {lo hi : Option Int} {ds : List Da} {x : V} {Q : VK} (h : s1.lds = some ds) (a : At K b ρ σ H ((x, s1) :: ps)) (q : ∀ H' z, At K b ρ σ H' ((z, .fresh (cutD ds lo hi)) :: ps) → Q z H') : rSlL K x lo hi H Q := by
  obtain ⟨S, F, A⟩ := a
  obtain ⟨p, xs, ex, g, r⟩ := A.seqL List.mem_cons_self h
  cases ex
  obtain ⟨F1, A1⟩ := A.tl
  exact ⟨p, xs, rfl, SqL.of g, fun t nt => q _ _ ⟨_, _, A1.pushF nt (r.cut lo hi)⟩⟩
theorem ok_cut : SlOk K (slOr (rSlA K) (slOr rSlS (rSlL K))) cutF := fun b s1 lo hi s e ρ σ H ps Q x a q => by
  unfold cutF at e
  split at e
  · rename_i ds
    cases e
    obtain ⟨S, F, A⟩ := id a
    obtain ⟨p, xs, ex, g, r⟩ := A.seqT List.mem_cons_self (show Sl.tds (.val (.fz (.tup _))) = some _ from rfl)
    cases ex
    obtain ⟨F1, A1⟩ := A.tl
    refine .inl ⟨p, xs, rfl, g, fun z => ?_, fun z t nt => q _ _ ⟨_, _, (A1.new (o := .tup (cutV xs lo hi)) nt).pushD (.tup (SqT.of upd_same) (Rps.same (same_new (A1.sh.free nt)) _ _ (r.cut lo hi)))⟩⟩
    have e : cutD ds lo hi = ds := by
      unfold cutD
      rw [← r.len, z.1, z.2, List.drop_zero, Nat.sub_zero, r.len, List.take_length]
    rw [e] at q
    exact q _ _ a
  · split at e
    · cases e
      obtain rfl := a.vStr
      exact .inr (.inl ⟨_, rfl, small_line (by assumption), q _ _ (a.drop.str _)⟩)
    · cases e
  · split at e
    · cases e
      rename_i ds h
      exact .inr (.inr (cut_list h a q))
    · cases e
theorem ego_none : EvGO K b W false tNoPart dNoPart := fun ρ σ H ps Q nv a q => q H a
theorem ego_some (h : EvG K b W c ta da) : EvGO K b W c (tPart ta) (dPart da) := fun ρ σ H ps Q nv a q => by
  refine h ρ σ H ps _ nv a (G.good_mono (fun s k H1 x a1 => ?_) (fun _ h => h) (G.good_bind.mp q))
  unfold intO at k
  split at k
  · obtain rfl := a1.vInt
    exact ⟨_, rfl, k H1 a1.drop⟩
  · cases k
theorem eg_sl {r : V → Option Int → Option Int → Hp → VK → Prop} {f : SlF} (o : SlOk K r f) (h : EvG K b W c ta da) (h1 : EvGO K b W false tl dl) (h2 : EvGO K b W false th dh) : EvG K b W c (tSl r ta tl th) (dSl f da dl dh) := fun ρ σ H ps Q nv a q => by
  refine h ρ σ H ps _ nv a (G.good_mono (fun s k H1 x a1 => ?_) (fun _ h => h) (G.good_bind.mp q))
  refine h1 ρ σ H1 _ _ nofun a1 (G.good_mono (fun l k2 H2 a2 => ?_) (fun _ h => h.drop) (G.good_bind.mp k))
  refine h2 ρ σ H2 _ _ nofun a2 (G.good_mono (fun u k3 H3 a3 => ?_) (fun _ h => h.drop) (G.good_bind.mp k2))
  obtain ⟨z, ez, k4⟩ := optG_some k3
  exact o b _ _ _ z ez ρ σ H3 ps Q x a3 k4
theorem pdo_none : PDO K X W false none tNoPart dNoPart := ⟨po_none, fun _ => ego_none⟩
theorem pdo_some (h : PD K X W c e ta da) : PDO K X W c (some e) (tPart ta) (dPart da) := ⟨po_some h.pe, fun b => ego_some (h.ev b)⟩
theorem pd_slice {r : V → Option Int → Option Int → Hp → VK → Prop} {f : SlF} {p2 : Pos} (p : L2.SlR X r) (o : SlOk K r f) (h : PD K X W c e ta da) (h1 : PDO K X W false lo tl dl) (h2 : PDO K X W false hi th dh) :
    PD K X W c (.Subscript e (.Slice lo hi none p2) pos) (tSl r ta tl th) (dSl f da dl dh) := ⟨pe_slice p h.pe h1.po h2.po, fun b => eg_sl o (h.ev b) (h1.ev b) (h2.ev b)⟩
end
end Ge

set_option maxHeartbeats 400000
namespace Ge
open PySem PySem.Spec PyProof.Rows L2 Sd
variable [HasT]
abbrev OpN := List Sl → Option Sl
def cF (f g : OpN) : OpN := fun l => match f l with
  | some r => some r | none => g l
def one (f : Sl → Option Sl) : OpN := fun l => match l with
  | [s] => f s | _ => none
def intsD : List Da → Option (List Int)
  | [] => some []
  | .int i :: r => match intsD r with | some l => some (i :: l) | none => none
  | _ :: _ => none
def blsD : List Da → Option (List Bool)
  | [] => some []
  | .bl i :: r => match blsD r with | some l => some (i :: l) | none => none
  | _ :: _ => none
def strsD : List Da → Option (List Str)
  | [] => some []
  | .str i :: r => match strsD r with | some l => some (i :: l) | none => none
  | _ :: _ => none
def lenF : OpN := one fun s => match s.items with
  | some ds => some (.dat (.int ds.length))
  | none => match s with | .val (.fz (.str z)) => if small z.length = true then some (.dat (.int z.length)) else none | .view (.ol os) => some (.dat (.int os.length)) | .val (.fz (.scr ns)) => some (.dat (.int ns.length)) | _ => none
def absF : OpN := one fun s => match s with
  | .val (.fz (.int i)) => some (.dat (.int (if i < 0 then -i else i))) | _ => none
def intF : OpN := one fun s => match s with
  | .val (.fz (.int i)) => some (.dat (.int i)) | .val (.fz (.bl c)) => some (.dat (.int (if c = true then 1 else 0))) | _ => none
def tupF : OpN := one fun s => match s with
  | .val (.fz (.tup ds)) => some (.dat (.tup ds))
  | s => match s.lds with | some ds => some (.dat (.tup ds)) | none => none
def lstF : OpN := one fun s => match s.items with
  | some ds => some (.fresh ds) | none => none
def sumF : OpN := one fun s => match s.lds with
  | some ds => (match intsD ds with | some l => some (.dat (.int l.sum)) | none => none) | none => none
def maxI : List Int → Int
  | [] => 0
  | [x] => x
  | x :: r => if maxI r ≤ x then x else maxI r
def minI : List Int → Int
  | [] => 0
  | [x] => x
  | x :: r => if x ≤ minI r then x else minI r
def maxF : OpN := fun l => match l with
  | [s] => (match s.lds with | some ds => (match intsD ds with | some (x :: r) => some (.dat (.int (maxI (x :: r)))) | _ => none) | none => none)
  | [.val (.fz (.int i)), .val (.fz (.int j))] => some (.dat (.int (if j > i then j else i)))
  | _ => none
def minF : OpN := fun l => match l with
  | [s] => (match s.lds with | some ds => (match intsD ds with | some (x :: r) => some (.dat (.int (minI (x :: r)))) | _ => none) | none => none)
  | [.val (.fz (.int i)), .val (.fz (.int j))] => some (.dat (.int (if j < i then j else i)))
  | _ => none
def allF : OpN := one fun s => match s.lds with
  | some ds => (match blsD ds with | some l => some (.dat (.bl (l.all id))) | none => none) | none => none
def anyF : OpN := one fun s => match s.lds with
  | some ds => (match blsD ds with | some l => some (.dat (.bl (l.any id))) | none => none) | none => none
def sortI (l : List Int) : List Int := l.mergeSort fun x y => decide (x ≤ y)
def sortF : OpN := one fun s => match s.lds with
  | some ds => (match intsD ds with | some l => some (.fresh ((sortI l).map .int)) | none => none) | none => none
inductive Ty | int | bool | str | tuple | list | dict
def Ty.nm : Ty → String
  | .int => "int" | .bool => "bool" | .str => "str" | .tuple => "tuple" | .list => "list" | .dict => "dict"
def isB : Da → Ty → Option Bool
  | .raw _, _ => none | .obj _ _ _, _ => none | .dct _ _, _ => none | .scr _, _ => none
  | .int _, .int => some true | .bl _, .int => some true | .bl _, .bool => some true | .str _, .str => some true | .tup _, .tuple => some true | .lst _, .list => some true
  | _, _ => some false
def isTF (t : Ty) : OpN := fun l => match l with
  | [s, _] => (match s.da with | some d => (match isB d t with | some c => some (.dat (.bl c)) | none => none) | none => none)
  | _ => none
def isCF (C : Addr) : OpN := fun l => match l with
  | [.val (.fz (.obj C1 _ _)), _] => if C1 = C then some (.dat (.bl true)) else none
  | _ => none
section
variable {K : PySem.W.Frag} {b : Bs} {ρ : List Sl} {σ : L2.St} {S H S' H' : Hp} {ps : List (V × Sl)} {v : V} {s : Sl} {F f : List Addr} {d : Da} {X : Cx} {W : WX} {m c c1 c2 c3 : Bool}
  {e e1 e2 e3 tg : Expr} {es : List Expr} {te ta tb tc : TE} {tt tu : TT} {tx : TA} {da db dc : DE} {dt du : DB} {dx : DA} {pos : Pos}
theorem ok_c {r r' : List V → Hp → VK → Prop} {f g : OpN} (h : OpCOk K r f) (h' : OpCOk K r' g) : OpCOk K (cOr r r') (cF f g) := fun b l s e ρ σ H ps Q us hl a q => by
  unfold cF at e
  split at e
  · rename_i r0 e0
    cases e
    exact .inl (h b l _ e0 ρ σ H ps Q us hl a q)
  · exact .inr (h' b l s e ρ σ H ps Q us hl a q)
theorem ok_one {r : List V → Hp → VK → Prop} {f : Sl → Option Sl} (h : ∀ b s1 s, f s1 = some s → ∀ ρ σ H ps (Q : VK) x, At K b ρ σ H ((x, s1) :: ps) → (∀ H' z, At K b ρ σ H' ((z, s) :: ps) → Q z H') → r [x] H Q) : OpCOk K r (one f) := fun b l s e ρ σ H ps Q us hl a q => by
  match l, us, hl with
  | [s1], [x], _ => exact h b s1 s e ρ σ H ps Q x a q
  | [], [], _ => cases e
  | _ :: _ :: _, _ :: _ :: _, _ => cases e
theorem At.items (a : At K b ρ σ H ((v, s) :: ps)) {ds : List Da} (h : s.items = some ds) : ∃ S F p xs, AtS K b ρ σ S H ps F ∧ v = .ref p ∧ (SqL K H p xs ∨ SqT K H p xs) ∧ Rps K S xs ds := by
  obtain ⟨S, F, A⟩ := a
  obtain ⟨p, xs, h1, h2, h3⟩ := A.itemsAt List.mem_cons_self h
  obtain ⟨F', A'⟩ := A.tl
  exact ⟨S, F', p, xs, A', h1, h2, h3⟩
theorem At.ldsAt (a : At K b ρ σ H ((v, s) :: ps)) {ds : List Da} (h : s.lds = some ds) : ∃ S F p xs, AtS K b ρ σ S H ps F ∧ v = .ref p ∧ H p = some (.lst xs) ∧ Rps K S xs ds := by
  obtain ⟨S, F, A⟩ := a
  obtain ⟨p, xs, h1, h2, h3⟩ := A.seqL List.mem_cons_self h
  obtain ⟨F', A'⟩ := A.tl
  exact ⟨S, F', p, xs, A', h1, h2, h3⟩
theorem ok_len : OpCOk K (cOr (fun xs H Q => ∃ p ys, xs = [.ref p] ∧ (SqL K H p ys ∨ SqT K H p ys) ∧ Q (.int ys.length) H) (fun xs H Q => ∃ z, xs = [.str z] ∧ z.length ≤ sizeLine ∧ Q (.int z.length) H)) lenF := ok_one fun b s1 s e ρ σ H ps Q x a q => by
  split at e
  · cases e
    rename_i ds h
    obtain ⟨S, F, p, xs, A, rfl, g, r⟩ := a.items h
    exact .inl ⟨p, xs, rfl, g, by rw [r.len]; exact q _ _ ⟨S, F, A.pushD (.int _)⟩⟩
  · split at e
    · split at e
      · cases e
        obtain rfl := a.vStr
        exact .inr ⟨_, rfl, small_line (by assumption), q _ _ (a.drop.int _)⟩
      · cases e
    · cases e
      rename_i os _
      obtain ⟨S, F, A⟩ := id a
      obtain ⟨f, ⟨_, w, f', ew, r, _⟩, _⟩ := A.mem List.mem_cons_self
      cases ew
      cases r with
      | ol hs t => exact .inl ⟨_, _, rfl, .inl (SqL.of hs), by rw [t.len]; exact q _ _ (a.drop.int _)⟩
    · cases e
      rename_i ns _
      have r := a.rpH List.mem_cons_self (show Sl.da (.val (.fz (.scr ns))) = some _ from rfl)
      cases r with
      | scr hs => exact .inl ⟨_, _, rfl, .inl hs, by rw [List.length_map]; exact q _ _ (a.drop.int _)⟩
    · cases e
theorem ok_abs : OpCOk K (fun xs H Q => ∃ i, xs = [.int i] ∧ Q (.int (if i < 0 then -i else i)) H) absF := ok_one fun b s1 s e ρ σ H ps Q x a q => by
  split at e
  · cases e
    obtain rfl := a.vInt
    exact ⟨_, rfl, q _ _ (a.drop.int _)⟩
  · cases e
theorem ok_int : OpCOk K (fun xs H Q => (∃ i, xs = [.int i] ∧ Q (.int i) H) ∨ ∃ k, xs = [.bl k] ∧ Q (.int (if k then 1 else 0)) H) intF := ok_one fun b s1 s e ρ σ H ps Q x a q => by
  split at e
  · cases e
    obtain rfl := a.vInt
    exact .inl ⟨_, rfl, q _ _ a⟩
  · cases e
    obtain rfl := a.vBl
    exact .inr ⟨_, rfl, q _ _ (a.drop.int _)⟩
  · cases e
theorem ok_tup : OpCOk K (fun xs H Q => ∃ p ys, xs = [.ref p] ∧ ((SqL K H p ys ∧ ∀ l, H l = none → Q (.ref l) (upd H l (.tup ys))) ∨ (SqT K H p ys ∧ Q (.ref p) H))) tupF := ok_one fun b s1 s e ρ σ H ps Q x a q => by
  split at e
  · cases e
    obtain ⟨S, F, A⟩ := id a
    obtain ⟨p, xs, ex, g, r⟩ := A.seqT List.mem_cons_self (show Sl.tds (.val (.fz (.tup _))) = some _ from rfl)
    cases ex
    exact ⟨p, xs, rfl, .inr ⟨g, q _ _ a⟩⟩
  · split at e
    · cases e
      rename_i ds h
      obtain ⟨S, F, p, xs, A, rfl, g, r⟩ := a.ldsAt h
      exact ⟨p, xs, rfl, .inl ⟨SqL.of g, fun l nl => q _ _ ⟨_, F, (A.new (o := .tup xs) nl).pushD (.tup (SqT.of upd_same) (Rps.same (same_new (A.sh.free nl)) _ _ r))⟩⟩⟩
    · cases e
theorem ok_lst : OpCOk K (fun xs H Q => ∃ p ys, xs = [.ref p] ∧ (SqL K H p ys ∨ SqT K H p ys) ∧ ∀ l, H l = none → Q (.ref l) (upd H l (.lst ys))) lstF := ok_one fun b s1 s e ρ σ H ps Q x a q => by
  split at e
  · cases e
    rename_i ds h
    obtain ⟨S, F, p, xs, A, rfl, g, r⟩ := a.items h
    exact ⟨p, xs, rfl, g, fun l nl => q _ _ ⟨_, _, A.pushF nl r⟩⟩
  · cases e
theorem rps_ints {S : Hp} : ∀ {xs : List V} {ds : List Da} {l : List Int}, Rps K S xs ds → intsD ds = some l → xs = l.map V.int
  | _, _, _, .nil, h => by cases h; rfl
  | _, _, _, .cons (d := d) (ds := ds) r t, h => by
    cases d with
    | int i =>
      cases e2 : intsD ds with
      | none => simp only [intsD, e2] at h; cases h
      | some ws =>
        simp only [intsD, e2] at h
        cases h
        cases r
        rw [List.map_cons, rps_ints t e2]
    | _ => cases h
theorem rps_bls {S : Hp} : ∀ {xs : List V} {ds : List Da} {l : List Bool}, Rps K S xs ds → blsD ds = some l → xs = l.map V.bl
  | _, _, _, .nil, h => by cases h; rfl
  | _, _, _, .cons (d := d) (ds := ds) r t, h => by
    cases d with
    | bl i =>
      cases e2 : blsD ds with
      | none => simp only [blsD, e2] at h; cases h
      | some ws =>
        simp only [blsD, e2] at h
        cases h
        cases r
        rw [List.map_cons, rps_bls t e2]
    | _ => cases h
theorem rps_strs {S : Hp} : ∀ {xs : List V} {ds : List Da} {l : List Str}, Rps K S xs ds → strsD ds = some l → xs = l.map V.str
  | _, _, _, .nil, h => by cases h; rfl
  | _, _, _, .cons (d := d) (ds := ds) r t, h => by
    cases d with
    | str i =>
      cases e2 : strsD ds with
      | none => simp only [strsD, e2] at h; cases h
      | some ws =>
        simp only [strsD, e2] at h
        cases h
        cases r
        rw [List.map_cons, rps_strs t e2]
    | _ => cases h
theorem ok_sum : OpCOk K (rSum K) sumF := ok_one fun b s1 s e ρ σ H ps Q x a q => by
  split at e
  · rename_i ds h
    split at e
    · cases e
      rename_i l hl
      obtain ⟨S, F, p, xs, A, rfl, g, r⟩ := a.ldsAt h
      obtain rfl := rps_ints r hl
      exact ⟨p, l, rfl, SqL.of g, q _ _ ⟨S, F, A.pushD (.int _)⟩⟩
    · cases e
  · cases e
theorem ok_all : OpCOk K (rAll K) allF := ok_one fun b s1 s e ρ σ H ps Q x a q => by
  split at e
  · rename_i ds h
    split at e
    · cases e
      rename_i l hl
      obtain ⟨S, F, p, xs, A, rfl, g, r⟩ := a.ldsAt h
      obtain rfl := rps_bls r hl
      exact ⟨p, l, rfl, SqL.of g, q _ _ ⟨S, F, A.pushD (.bl _)⟩⟩
    · cases e
  · cases e
theorem ok_any : OpCOk K (rAny K) anyF := ok_one fun b s1 s e ρ σ H ps Q x a q => by
  split at e
  · rename_i ds h
    split at e
    · cases e
      rename_i l hl
      obtain ⟨S, F, p, xs, A, rfl, g, r⟩ := a.ldsAt h
      obtain rfl := rps_bls r hl
      exact ⟨p, l, rfl, SqL.of g, q _ _ ⟨S, F, A.pushD (.bl _)⟩⟩
    · cases e
  · cases e
theorem maxI_ge : ∀ {x : Int} {r : List Int}, ∀ y ∈ x :: r, y ≤ maxI (x :: r)
  | x, [], y, m => by rw [List.mem_singleton.mp m]; exact Int.le_refl _
  | x, z :: r, y, m => by
    show y ≤ if maxI (z :: r) ≤ x then x else maxI (z :: r)
    rcases List.mem_cons.mp m with rfl | m
    · split <;> omega
    · have := maxI_ge (x := z) (r := r) y m
      split <;> omega
theorem maxI_mem : ∀ {x : Int} {r : List Int}, maxI (x :: r) ∈ x :: r
  | x, [] => List.mem_cons_self
  | x, z :: r => by
    show (if maxI (z :: r) ≤ x then x else maxI (z :: r)) ∈ _
    split
    · exact List.mem_cons_self
    · exact List.mem_cons_of_mem _ maxI_mem
theorem minI_le : ∀ {x : Int} {r : List Int}, ∀ y ∈ x :: r, minI (x :: r) ≤ y
  | x, [], y, m => by rw [List.mem_singleton.mp m]; exact Int.le_refl _
  | x, z :: r, y, m => by
    show (if x ≤ minI (z :: r) then x else minI (z :: r)) ≤ y
    rcases List.mem_cons.mp m with rfl | m
    · split <;> omega
    · have := minI_le (x := z) (r := r) y m
      split <;> omega
theorem minI_mem : ∀ {x : Int} {r : List Int}, minI (x :: r) ∈ x :: r
  | x, [] => List.mem_cons_self
  | x, z :: r => by
    show (if x ≤ minI (z :: r) then x else minI (z :: r)) ∈ _
    split
    · exact List.mem_cons_self
    · exact List.mem_cons_of_mem _ minI_mem
theorem ok_max : OpCOk K (cOr (rMax K) (fun xs H Q => ∃ i j, xs = [.int i, .int j] ∧ Q (.int (if j > i then j else i)) H)) maxF := fun b l s e ρ σ H ps Q us hl a q => by
  unfold maxF at e
  split at e
  · match us, hl with
    | [u], _ =>
      split at e
      · rename_i ds h
        split at e
        · cases e
          rename_i x r hx
          obtain ⟨S, F, p, xs, A, rfl, g, rr⟩ := At.ldsAt a h
          obtain rfl := rps_ints rr hx
          refine .inl ⟨p, _, rfl, SqL.of g, Nat.succ_pos _, fun m h1 h2 => ?_⟩
          have : m = maxI (x :: r) := Int.le_antisymm (maxI_ge m h1) (h2 _ maxI_mem)
          rw [this]
          exact q _ _ ⟨S, F, A.pushD (.int _)⟩
        · cases e
      · cases e
  · match us, hl with
    | [u, w], _ =>
      cases e
      have a : At K b ρ σ H ((w, .dat (.int _)) :: (u, .dat (.int _)) :: ps) := a
      obtain rfl := a.vInt
      obtain rfl := a.drop.vInt
      exact .inr ⟨_, _, rfl, q _ _ (a.drop2.int _)⟩
  · cases e
theorem ok_min : OpCOk K (cOr (rMin K) (fun xs H Q => ∃ i j, xs = [.int i, .int j] ∧ Q (.int (if j < i then j else i)) H)) minF := fun b l s e ρ σ H ps Q us hl a q => by
  unfold minF at e
  split at e
  · match us, hl with
    | [u], _ =>
      split at e
      · rename_i ds h
        split at e
        · cases e
          rename_i x r hx
          obtain ⟨S, F, p, xs, A, rfl, g, rr⟩ := At.ldsAt a h
          obtain rfl := rps_ints rr hx
          refine .inl ⟨p, _, rfl, SqL.of g, Nat.succ_pos _, fun m h1 h2 => ?_⟩
          have : m = minI (x :: r) := Int.le_antisymm (h2 _ minI_mem) (minI_le m h1)
          rw [this]
          exact q _ _ ⟨S, F, A.pushD (.int _)⟩
        · cases e
      · cases e
  · match us, hl with
    | [u, w], _ =>
      cases e
      have a : At K b ρ σ H ((w, .dat (.int _)) :: (u, .dat (.int _)) :: ps) := a
      obtain rfl := a.vInt
      obtain rfl := a.drop.vInt
      exact .inr ⟨_, _, rfl, q _ _ (a.drop2.int _)⟩
  · cases e
theorem sortI_perm (l : List Int) : (sortI l).Perm l := List.mergeSort_perm l _
theorem sortI_pw (l : List Int) : (sortI l).Pairwise (· ≤ ·) := by
  have := List.pairwise_mergeSort (le := fun x y : Int => decide (x ≤ y)) (fun a b c h1 h2 => by simp at *; omega) (fun a b => by simp; omega) l
  exact this.imp fun h => of_decide_eq_true h
theorem sortI_eq {l l' : List Int} (p : l'.Perm l) (w : l'.Pairwise (· ≤ ·)) : l' = sortI l := List.Perm.eq_of_pairwise (le := (· ≤ ·)) (fun a b _ _ h1 h2 => Int.le_antisymm h1 h2) w (sortI_pw l) (p.trans (sortI_perm l).symm)
theorem rps_ints' {S : Hp} : ∀ l : List Int, Rps K S (l.map V.int) (l.map Da.int)
  | [] => .nil
  | i :: l => .cons (.int i) (rps_ints' l)
theorem ok_sort : OpCOk K (rSortedI K) sortF := ok_one fun b s1 s e ρ σ H ps Q x a q => by
  split at e
  · rename_i ds h
    split at e
    · cases e
      rename_i l hl
      obtain ⟨S, F, p, xs, A, rfl, g, r⟩ := a.ldsAt h
      obtain rfl := rps_ints r hl
      refine ⟨p, l, rfl, SqL.of g, fun l' p' pm pw np => ?_⟩
      rw [sortI_eq pm pw]
      exact q _ _ ⟨S, _, A.pushF np (rps_ints' _)⟩
    · cases e
  · cases e
/-! ### isinstance -/
theorem kit_tb {d : Da} {t : Ty} (h : isB d t = some c) : ∃ n, (∀ {v : V} {H : Hp}, Rp K H v d → TyX K H v (.type n)) ∧ PySem.W.kitOne K (.type n) (.type t.nm) = some c := by
  cases d with
  | raw _ => cases h
  | obj _ _ _ => cases h
  | dct _ _ => cases h
  | scr _ => cases h
  | non => exact ⟨"NoneType", fun r => by cases r; exact .base .non, by cases t <;> cases h <;> exact kit_ty (by decide +kernel)⟩
  | bl _ => exact ⟨"bool", fun r => by cases r; exact .base (.bl _), by cases t <;> cases h <;> exact kit_ty (by decide +kernel)⟩
  | int _ => exact ⟨"int", fun r => by cases r; exact .base (.int _), by cases t <;> cases h <;> exact kit_ty (by decide +kernel)⟩
  | str _ => exact ⟨"str", fun r => by cases r; exact .base (.str _), by cases t <;> cases h <;> exact kit_ty (by decide +kernel)⟩
  | tup _ =>
    refine ⟨"tuple", fun r => ?_, by cases t <;> cases h <;> exact kit_ty (by decide +kernel)⟩
    cases r with
    | tup hs _ =>
      rcases hs with (h | ⟨o, h⟩) | ⟨o, its, n, h1, h2, _⟩
      · exact .base (.tup h)
      · exact .fTuple h
      · exact .kTuple h1 h2
  | lst _ => exact ⟨"list", fun r => by cases r with | lst hs _ => exact .base (.lst hs), by cases t <;> cases h <;> exact kit_ty (by decide +kernel)⟩
theorem eg_isT (t : Ty) (h : EvG K b W c ta da) : EvG K b W c (tCB (rIsi K) (tCons ta (tCons (tC (.ty t.nm)) tNil))) (dCB (isTF t) (dCons da (dCons (dC (.raw (.ty t.nm))) dNil))) := fun ρ σ H ps Q nv a q => by
  have q := G.good_bind.mp q
  have q := G.good_bind.mp q
  refine h ρ σ H ps _ nv a (G.good_mono (fun s k H1 x a1 => ?_) (fun _ h => h) q)
  have k : (optG (isTF t [s, .dat (.raw (.ty t.nm))])).good _ _ := k
  obtain ⟨z, ez, k⟩ := optG_some k
  have ez : (match s.da with | some d => (match isB d t with | some c => some (Sl.dat (.bl c)) | none => none) | none => none) = some z := ez
  split at ez
  · rename_i d hd
    split at ez
    · cases ez
      rename_i cc hc
      have r := a1.rpH List.mem_cons_self hd
      obtain ⟨n, h1, h2⟩ := kit_tb (K := K) hc
      exact ⟨x, .ty t.nm, .type n, .type t.nm, cc, rfl, .ty _, h1 r, h2, k _ _ (a1.drop.bl _)⟩
    · cases ez
  · cases ez
structure ClsI (K : PySem.W.Frag) (C : Addr) : Prop where
  cl : Cls K C
  ha : PySem.W.findIn K (.ref C) "__class__" = some (some (.builtin "object.__class__"))
  hn : PySem.W.specialIn K (.builtin "object.__class__") "__get__" = some (some (.builtin "getset_descriptor.__get__"))
  ht : PySem.W.takesIn K (.builtin "object.__class__") = some true
  hm : PySem.W.mroIn K C (.type "object") = some true
theorem kit_own (C : Addr) : PySem.W.kitOne K (.ref C) (.ref C) = some true := by
  unfold PySem.W.kitOne
  rw [if_pos (by simp)]
theorem eg_isC {C : Addr} (hC : ClsI K C) (h : EvG K b W c ta da) : EvG K b W c (tCB (rIsi K) (tCons ta (tCons (tC (.ref C)) tNil))) (dCB (isCF C) (dCons da (dCons (dC (.raw (.ref C))) dNil))) := fun ρ σ H ps Q nv a q => by
  have q := G.good_bind.mp q
  have q := G.good_bind.mp q
  refine h ρ σ H ps _ nv a (G.good_mono (fun s k H1 x a1 => ?_) (fun _ h => h) q)
  have k : (optG (isCF C [s, .dat (.raw (.ref C))])).good _ _ := k
  obtain ⟨z, ez, k⟩ := optG_some k
  obtain ⟨ns, ds, rfl, rfl⟩ : ∃ ns ds, s = .dat (.obj C ns ds) ∧ z = .dat (.bl true) := by
    cases s with
    | val o => cases o with
      | fz d =>
        cases d with
        | obj C1 ns ds =>
          have ez : (if C1 = C then some (Sl.dat (.bl true)) else none) = some z := ez
          by_cases e1 : C1 = C
          · rw [if_pos e1] at ez
            cases ez
            rw [e1]
            exact ⟨_, _, rfl, rfl⟩
          · rw [if_neg e1] at ez
            cases ez
        | _ => cases ez
      | ol _ => cases ez
      | od _ _ => cases ez
    | no => cases ez
    | view _ => cases ez
    | src => cases ez
    | slf => cases ez
  have r := a1.rpH List.mem_cons_self (show Sl.da (.val (.fz (.obj C ns ds))) = some _ from rfl)
  cases r with
  | obj hs _ _ => exact ⟨_, .ref C, .ref C, .ref C, true, rfl, .own _, .base (.ins hs hC.cl hC.ha hC.hn hC.ht hC.hm), kit_own _, k _ _ (a1.drop.bl _)⟩
theorem pd_cb {r : List V → Hp → VK → Prop} {f : OpN} (o : OpCOk K r f) (h : PDA K X W c es tx dx) (p : PE X e (tCB r tx)) : PD K X W c e (tCB r tx) (dCB f dx) := ⟨p, fun b => eg_cb o (h.ev b)⟩
theorem pd_isT (t : Ty) (h : PD K X W c e1 ta da) (p : PE X e (tCB (rIsi K) (tCons ta (tCons (tC (.ty t.nm)) tNil)))) : PD K X W c e (tCB (rIsi K) (tCons ta (tCons (tC (.ty t.nm)) tNil))) (dCB (isTF t) (dCons da (dCons (dC (.raw (.ty t.nm))) dNil))) := ⟨p, fun b => eg_isT t (h.ev b)⟩
theorem pd_isC {C : Addr} (hC : ClsI K C) (h : PD K X W c e1 ta da) (p : PE X e (tCB (rIsi K) (tCons ta (tCons (tC (.ref C)) tNil)))) : PD K X W c e (tCB (rIsi K) (tCons ta (tCons (tC (.ref C)) tNil))) (dCB (isCF C) (dCons da (dCons (dC (.raw (.ref C))) dNil))) := ⟨p, fun b => eg_isC hC (h.ev b)⟩
/-! ### fields -/
def luF : List Str → List Da → Str → Option Da
  | n :: ns, d :: ds, x => if x = n then some d else luF ns ds x
  | _, _, _ => none
def fldF (C : Addr) (f : Str) (s : Sl) : Option Sl := match s with
  | .val (.fz (.obj C1 ns ds)) => if C1 = C then (match luF ns ds f with | some d => some (.dat d) | none => none) else none
  | _ => none
def dFld (C : Addr) (f : Str) (a : DE) : DE := fun ρ => (a ρ).bind fun s => optG (fldF C f s)
theorem lu_ok {S : Hp} {x : Str} : ∀ {ns : List Str} {xs : List V} {ds : List Da} {d : Da}, Rps K S xs ds → luF ns ds x = some d → ∃ v, (ns.zip xs).lookup x = some v ∧ Rp K S v d
  | [], _, _, _, _, h => by cases h
  | n :: ns, _, _, _, .nil, h => by cases h
  | n :: ns, _, _, _, .cons (v := v) r t, h => by
    unfold luF at h
    rw [List.zip_cons_cons, List.lookup_cons]
    split at h
    · cases h
      rename_i e
      rw [e]
      exact ⟨v, by simp, r⟩
    · rename_i e
      obtain ⟨w, h1, h2⟩ := lu_ok t h
      refine ⟨w, ?_, h2⟩
      have : (x == n) = false := by simpa using e
      rw [this]
      exact h1
theorem eg_fld {C : Addr} {f : Str} (hC : Cls K C) (hn : NoAttr K C f) (h : EvG K b W c ta da) : EvG K b W c (tFld K ta f) (dFld C f da) := fun ρ σ H ps Q nv a q => by
  refine h ρ σ H ps _ nv a (G.good_mono (fun s k H1 x a1 => ?_) (fun _ h => h) (G.good_bind.mp q))
  obtain ⟨z, ez, k⟩ := optG_some k
  unfold fldF at ez
  split at ez
  · split at ez
    · rename_i e1
      subst e1
      split at ez
      · cases ez
        rename_i d hd
        obtain ⟨S, F, A⟩ := id a1
        have r := A.rpD List.mem_cons_self
        obtain ⟨F1, A1⟩ := A.tl
        cases r with
        | obj hs hl ha =>
          obtain ⟨w, h1, h2⟩ := lu_ok ha hd
          exact ⟨_, _, _, _, w, rfl, A.sh _ _ hs, hC, hn, h1, k _ _ ⟨S, F1, A1.pushD h2⟩⟩
      · cases ez
    · cases ez
  · cases ez
theorem pd_fld {C : Addr} {f : Str} (hK : X.K = K) (hC : Cls K C) (hn : NoAttr K C f) (h : PD K X W c e ta da) (hb : attributeBase e f X.env (eval e X.env) = eval e X.env) : PD K X W c (.Attribute e f pos) (tFld K ta f) (dFld C f da) := ⟨by subst hK; exact pe_fld h.pe hb, fun b => eg_fld hC hn (h.ev b)⟩
end
end Ge

set_option maxHeartbeats 400000
namespace Ge
open PySem PySem.Spec PyProof.Rows L2 Sd
variable [HasT]
abbrev W0 : WX := fun _ _ _ _ => False
structure PDTs (K : PySem.W.Frag) (X : Cx) (W : WX) (ifs : List Expr) (tt : TT) (d : DB) : Prop where
  pts : PTs X ifs tt
  ev : ∀ b, EvGB K b W true tt d
section
variable {K : PySem.W.Frag} {b : Bs} {ρ : List Sl} {σ : L2.St} {S H S' H' : Hp} {ps : List (V × Sl)} {v : V} {s : Sl} {F f : List Addr} {d : Da} {X : Cx} {W : WX} {m k c c1 c2 c3 : Bool}
  {e e1 e2 e3 tg : Expr} {es : List Expr} {te ta tb tc : TE} {tt tu : TT} {tx : TA} {da db dc : DE} {dt du : DB} {dx : DA} {pos pos' : Pos} {t t1 t2 : TS} {d0 d1 d2 : DS} {st : Stmt} {g : TG} {gs : TGs} {js ks : List Nat} {dg : DT} {dgs : DTs} {wi : TI} {di : DI}
/-! ### one rule a construct -/
theorem nv_ {i : Nat} {x : Str} (hN : X.N[i]? = some x) (hv : Vis X.env.scope x) (hd : (x == ("__debug__" : Str)) = false := by decide) (hcd : (x == ("__classdict__" : Str)) = false := by decide) : PD K X W false (.Name x pos) (tVar i) (dVar i) := pd_var (pe_var hN hv hd hcd)
theorem pdts_nil : PDTs K X W [] tYes dYes := ⟨pts_nil, fun _ => egb_yes⟩
theorem pdts_one (h : PDT K X W true e tt dt) : PDTs K X W [e] tt dt := ⟨pts_one h.pt, h.ev⟩
section
variable {elt it : Expr} {ifs : List Expr} {scope : Scope} {own : List (Str × Nat)} {el : TE} {de : DE}
theorem pd_lcc (s0 : Shared) (hc : X.calm = true) (hN : X.N.Nodup) (hi : PDI K X W true true tg it wi di) (ok : BlkOk X.N X.env.scope scope own) (hj : (js.all fun j => (own.map (·.2)).contains j) = true)
    (hg : ∀ (s : Shared) (H : Hp) (C : Addr) (cl : List (Str × Addr)) (fp : List Addr), PDG K (X.blk s H scope (compEnvC scope cl C X.env) fp) W0 false tg g js dg)
    (ht : ∀ (s : Shared) (H : Hp) (C : Addr) (cl : List (Str × Addr)) (fp : List Addr), PDTs K (X.blk s H scope (compEnvC scope cl C X.env) fp) W0 ifs tt dt)
    (he : ∀ (s : Shared) (H : Hp) (C : Addr) (cl : List (Str × Addr)) (fp : List Addr), PD K (X.blk s H scope (compEnvC scope cl C X.env) fp) W0 true elt el de) (hs : ∀ x, foldedSetIterable it X.env x = pure x := by intro _; rfl) :
    PD K X W true (.ListComp elt [⟨tg, it, ifs, 0⟩] scope pos) (tLc wi g tt el (own.map (·.2))) (dLc di dg dt de (own.map (·.2))) :=
  pd_lc hi hj (pe_lc hc hN hi.pi ok (fun s H C cl fp => (hg s H C cl fp).pg) (fun s H C cl fp => (ht s H C cl fp).pts) (fun s H C cl fp => (he s H C cl fp).pe) hs) (hg s0 (fun _ => none) 0 [] []).ev (ht s0 (fun _ => none) 0 [] []).ev (he s0 (fun _ => none) 0 [] []).ev
/-- name = [..] -/
theorem pds_setL (s0 : Shared) {i : Nat} {y : Str} {py spos : Pos} (hc : X.calm = true) (hN : X.N.Nodup) (hy : X.N[i]? = some y) (hyl : X.env.scope.names.lookup y = some .local)
    (hsw : swapsWith (.ListComp elt [⟨tg, it, ifs, 0⟩] scope pos) (some (.Name y py)) spos.line X.env = pure true) (hi : PDI K X W true true tg it wi di) (ok : BlkOk X.N X.env.scope scope own) (hj : (js.all fun j => (own.map (·.2)).contains j) = true)
    (hg : ∀ (s : Shared) (H : Hp) (C : Addr) (cl : List (Str × Addr)) (fp : List Addr), PDG K (X.blk s H scope (compEnvC scope cl C X.env) fp) W0 false tg g js dg)
    (ht : ∀ (s : Shared) (H : Hp) (C : Addr) (cl : List (Str × Addr)) (fp : List Addr), PDTs K (X.blk s H scope (compEnvC scope cl C X.env) fp) W0 ifs tt dt)
    (he : ∀ (s : Shared) (H : Hp) (C : Addr) (cl : List (Str × Addr)) (fp : List Addr), PD K (X.blk s H scope (compEnvC scope cl C X.env) fp) W0 true elt el de) (hs : ∀ x, foldedSetIterable it X.env x = pure x := by intro _; rfl) :
    PDS K X W (.Assign [.Name y py] (.ListComp elt [⟨tg, it, ifs, 0⟩] scope pos) spos) (tAsg (tLc wi g tt el (own.map (·.2))) (gName i)) (dAsg (dLc di dg dt de (own.map (·.2))) (tgName i)) :=
  pds_set (pd_lcc (pos := pos) s0 hc hN hi ok hj hg ht he hs) (ps_setLc hc hN hy hyl hsw hi.pi ok (fun s H C cl fp => (hg s H C cl fp).pg) (fun s H C cl fp => (ht s H C cl fp).pts) (fun s H C cl fp => (he s H C cl fp).pe) hs)
end
theorem pds_setN {i : Nat} {x : Str} (hN : X.N.Nodup) (hi : X.N[i]? = some x) (hx : Loc X.env.scope x) (h : PD K X W c e te da) (hs : swapsWith e (some (.Name x pos')) pos.line X.env = pure false := by rfl)
    (hf : X.fn x = true ∨ X.env.scope.names.lookup x = some .local := by first | exact .inl rfl | exact .inr rfl | assumption) : PDS K X W (.Assign [.Name x pos'] e pos) (tAsg te (gName i)) (dAsg da (tgName i)) := pds_set h (ps_set hN hi hx h.pe hs hf)
theorem pds_setNX {i : Nat} {x : Str} {d3 : DX} (hN : X.N.Nodup) (hi : X.N[i]? = some x) (hx : Loc X.env.scope x) (h : PDX K X W e te d3) (hs : swapsWith e (some (.Name x pos')) pos.line X.env = pure false := by rfl)
    (hf : X.fn x = true ∨ X.env.scope.names.lookup x = some .local := by first | exact .inl rfl | exact .inr rfl | assumption) : PDS K X W (.Assign [.Name x pos'] e pos) (tAsg te (gName i)) (dSetX d3 i) := pds_setX h (ps_set hN hi hx h.pe hs hf)
theorem pds_asgG (h : PD K X W c e te da) (hg : PDG K X W true tg g js dg) (hs : swapsWithSole [tg] e pos.line X.env = pure false := by rfl) (hw : swappedStores [tg] e X.env = pure none := by rfl)
    (h1 : (assignEach [tg] X.env).map (·.2) = [assign tg X.env] := by rfl) : PDS K X W (.Assign [tg] e pos) (tAsg te g) (dAsg da dg) := pds_asg h hg.ev (ps_asg h.pe hg.pg hs hw h1)
theorem pds_par2 {i j : Nat} {x y : Str} {a1 a2 : Expr} {px py pt : Pos} {kt k2 pt2} (hc : X.calm = true) (hN : X.N.Nodup) (hi : X.N[i]? = some x) (hj : X.N[j]? = some y) (hij : i ≠ j)
    (hx : X.env.scope.names.lookup x = some .local) (hy : X.env.scope.names.lookup y = some .local) (ha : PDA K X W c [a1, a2] tx dx)
    (hw : swappedStores [.Tuple [.Name x px, .Name y py] kt pt] (.Tuple [a1, a2] k2 pt2) X.env = pure (some [x, y]))
    (hs : swapsWithSole [.Tuple [.Name x px, .Name y py] kt pt] (.Tuple [a1, a2] k2 pt2) pos.line X.env = pure false := by rfl) :
    PDS K X W (.Assign [.Tuple [.Name x px, .Name y py] kt pt] (.Tuple [a1, a2] k2 pt2) pos) (tPar i j tx) (dPar i j dx) := pds_par hij ha (ps_par hc hN hi hj hij hx hy ha.pa hw hs)
theorem pds_par3N {i j l : Nat} {x y z : Str} {a1 a2 a3 : Expr} {px py pz pt : Pos} {kt k2 pt2} (hc : X.calm = true) (hN : X.N.Nodup) (hi : X.N[i]? = some x) (hj : X.N[j]? = some y) (hl : X.N[l]? = some z) (hij : i ≠ j) (hil : i ≠ l) (hjl : j ≠ l)
    (hx : X.env.scope.names.lookup x = some .local) (hy : X.env.scope.names.lookup y = some .local) (hz : X.env.scope.names.lookup z = some .local) (ha : PDA K X W c [a1, a2, a3] tx dx)
    (hw : swappedStores [.Tuple [.Name x px, .Name y py, .Name z pz] kt pt] (.Tuple [a1, a2, a3] k2 pt2) X.env = pure (some [x, y, z]))
    (hs : swapsWithSole [.Tuple [.Name x px, .Name y py, .Name z pz] kt pt] (.Tuple [a1, a2, a3] k2 pt2) pos.line X.env = pure false := by rfl) :
    PDS K X W (.Assign [.Tuple [.Name x px, .Name y py, .Name z pz] kt pt] (.Tuple [a1, a2, a3] k2 pt2) pos) (tPar3 i j l tx) (dPar3 i j l dx) := pds_par3 ha (ps_par3 hc hN hi hj hl hij hil hjl hx hy hz ha.pa hw hs)
theorem pdg_n {i : Nat} {x : Str} (hN : X.N.Nodup) (hi : X.N[i]? = some x) (hx : Loc X.env.scope x) (hf : X.fn x = true ∨ X.env.scope.names.lookup x = some .local := by first | exact .inl rfl | exact .inr rfl | assumption) :
    PDG K X W m (.Name x pos) (gName i) [i] (tgName i) := pdg_name (pg_name hN hi hx hf)
theorem pdgs_cons (h1 : PDG K X W m e g js dg) (h2 : PDGs K X W m es gs ks dgs) (ha : (assignEach (e :: es) X.env).map (·.2) = assign e X.env :: (assignEach es X.env).map (·.2) := by rfl) : PDGs K X W m (e :: es) (gCons g gs) (js ++ ks) (tgCons dg dgs) := ⟨pgs_cons h1.pg h2.pgs ha, fun b => tgs_cons (h1.ev b) (h2.ev b)⟩
theorem pdg_tup {n kk : Nat} (hK : X.K = K) (hc : X.calm = true) (h : PDGs K X W m es gs js dgs) (hn : (assignEach es X.env).length = n := by rfl) (hst : (assignEach es X.env).findIdx? (·.1) = none := by rfl) :
    PDG K X W m (.Tuple es kk pos) (gTup K n gs) js (tgTup n dgs) := ⟨by subst hK; exact pg_tup hc h.pgs hn hst, fun b => tg_tup (h.ev b)⟩
theorem pdg_sub {i : Nat} {o : Expr} (ho : PD K X W false o (tVar i) (dVar i)) (h : PD K X W false e ta da)
    (ha : ∀ v, assign (.Subscript o e pos) X.env v = (do let ov ← holding [v] (eval o X.env); let iv ← holding [v, ov] (eval e X.env); standAt pos; holding [v, ov, iv] (setItem ov iv v); release [v, ov, iv] []) := by intro _; rfl) :
    PDG K X W true (.Subscript o e pos) (gSub (tVar i) ta rSetL) [i] (tgSub i da) := ⟨pg_sub ho.pe h.pe set_list ha, fun b => tg_sub (h.ev b)⟩
theorem pdx_app {i : Nat} {o : Expr} {apos : Pos} {d3 : DX} (hK : X.K = K) (ho : PD K X W false o (tVar i) (dVar i)) (h : PDX K X W e ta d3) (h0 : starEach [e] X.env = (false, eval e X.env) :: starEach [] X.env := by rfl)
    (hbase : attributeBase o "append" X.env (eval o X.env) = eval o X.env := by rfl)
    (hfew : ((backTo pos (starEach [e] X.env)).all (fun x => !x.1) && (backToKw pos (keywordEach [] X.env)).all (fun x => x.1.isSome)
      && decide (([e] : List Expr).length + ([] : List Keyword).length + (if ([] : List Keyword).isEmpty then 0 else 1) < 30)) = true := by rfl)
    (hline : (apos.endLine == pos.line) = true := by rfl) (hs : starEach [e] X.env = (false, eval e X.env) :: starEach [] X.env := by rfl) (hplain : (backTo pos (starEach [] X.env)).any (·.1) = false := by rfl) :
    PDX K X W (.Call (.Attribute o "append" apos) [e] [] pos) (tBM K "list" rAppend (tVar i) (tCons ta tNil)) (dApp i d3) := ⟨by subst hK; exact pe_bm PySem.F.plainAttrs_list PySem.F.slot_list_append PySem.F.type_list_append mt_append ho.pe (pa_cons h.pe pa_nil h0) hbase hfew hline hs hplain, fun b => evx_app (h.ev b)⟩
theorem pdx_pop {i : Nat} {o : Expr} {apos : Pos} (hK : X.K = K) (ho : PD K X W false o (tVar i) (dVar i)) (hbase : attributeBase o "pop" X.env (eval o X.env) = eval o X.env := by rfl) (hline : (apos.endLine == pos.line) = true := by rfl) :
    PDX K X W (.Call (.Attribute o "pop" apos) [] [] pos) (tBM0 K "list" rPop (tVar i)) (dPop i) := ⟨by subst hK; exact pe_bm0 PySem.F.plainAttrs_list PySem.F.slot_list_pop PySem.F.type_list_pop mt_pop ho.pe hbase hline, fun b => evx_pop⟩
theorem pdx_popAt {i : Nat} {o : Expr} {apos : Pos} (hK : X.K = K) (ho : PD K X W false o (tVar i) (dVar i)) (h : PD K X W c e ta da) (h0 : starEach [e] X.env = (false, eval e X.env) :: starEach [] X.env := by rfl)
    (hbase : attributeBase o "pop" X.env (eval o X.env) = eval o X.env := by rfl)
    (hfew : ((backTo pos (starEach [e] X.env)).all (fun x => !x.1) && (backToKw pos (keywordEach [] X.env)).all (fun x => x.1.isSome)
      && decide (([e] : List Expr).length + ([] : List Keyword).length + (if ([] : List Keyword).isEmpty then 0 else 1) < 30)) = true := by rfl)
    (hline : (apos.endLine == pos.line) = true := by rfl) (hs : starEach [e] X.env = (false, eval e X.env) :: starEach [] X.env := by rfl) (hplain : (backTo pos (starEach [] X.env)).any (·.1) = false := by rfl) :
    PDX K X W (.Call (.Attribute o "pop" apos) [e] [] pos) (tBM K "list" rPopAt (tVar i) (tCons ta tNil)) (dPopAt i da) := ⟨by subst hK; exact pe_bm PySem.F.plainAttrs_list PySem.F.slot_list_pop PySem.F.type_list_pop mt_popAt ho.pe (pa_cons h.pe pa_nil h0) hbase hfew hline hs hplain, fun b => evx_popAt (h.ev b)⟩
/-! ### operators by their names -/
theorem p_add (h1 : PD K X W c e1 ta da) (h2 : PD K X W false e2 tb db) (hK : X.K = K := by rfl) : PD K X W c (.BinOp e1 .Add e2 pos) (tOp (rOr (rI0 fun i j => .int (i + j)) (rOr (fun x y H Q => ∃ i j, x = .str i ∧ y = .str j ∧ i.length + j.length ≤ sizeLine ∧ Q (.str (i ++ j)) H) (rOr (rCatA K) rCat))) ta tb) (dOp addF da db) :=
  pd_op (by subst hK; exact op_or op_add (op_or op_add_str (op_or op_catA op_cat))) ok_add h1 h2
theorem p_addC (h1 : PD K X W true e1 ta da) (h2 : PD K X W true e2 tb db) (hK : X.K = K := by rfl) : PD K X W true (.BinOp e1 .Add e2 pos) (tOp (rOr (rI0 fun i j => .int (i + j)) (rOr (fun x y H Q => ∃ i j, x = .str i ∧ y = .str j ∧ i.length + j.length ≤ sizeLine ∧ Q (.str (i ++ j)) H) (rOr (rCatA K) rCat))) ta tb) (dOpC addF da db) :=
  pd_opC (by subst hK; exact op_or op_add (op_or op_add_str (op_or op_catA op_cat))) ok_add h1 h2
theorem p_sub (h1 : PD K X W c e1 ta da) (h2 : PD K X W false e2 tb db) : PD K X W c (.BinOp e1 .Sub e2 pos) (tOp (rI0 fun i j => .int (i - j)) ta tb) (dOp subF da db) := pd_op op_sub ok_ii h1 h2
theorem p_subC (h1 : PD K X W true e1 ta da) (h2 : PD K X W true e2 tb db) : PD K X W true (.BinOp e1 .Sub e2 pos) (tOp (rI0 fun i j => .int (i - j)) ta tb) (dOpC subF da db) := pd_opC op_sub ok_ii h1 h2
theorem p_mul (h1 : PD K X W c e1 ta da) (h2 : PD K X W false e2 tb db) (hK : X.K = K := by rfl) : PD K X W c (.BinOp e1 .Mult e2 pos) (tOp (rOr (rI CMul fun i j => .int (i * j)) (rOr rRep (rRepA K))) ta tb) (dOp mulF da db) := pd_op (by subst hK; exact op_or op_mul (op_or op_rep op_repA)) ok_mul h1 h2
theorem p_mulC (h1 : PD K X W true e1 ta da) (h2 : PD K X W true e2 tb db) (hK : X.K = K := by rfl) : PD K X W true (.BinOp e1 .Mult e2 pos) (tOp (rOr (rI CMul fun i j => .int (i * j)) (rOr rRep (rRepA K))) ta tb) (dOpC mulF da db) := pd_opC (by subst hK; exact op_or op_mul (op_or op_rep op_repA)) ok_mul h1 h2
theorem p_fdiv (h1 : PD K X W c e1 ta da) (h2 : PD K X W false e2 tb db) : PD K X W c (.BinOp e1 .FloorDiv e2 pos) (tOp (rI CDiv fun i j => .int (i / j)) ta tb) (dOp fdivF da db) := pd_op op_fdiv ok_fdiv h1 h2
theorem p_mod (h1 : PD K X W c e1 ta da) (h2 : PD K X W false e2 tb db) : PD K X W c (.BinOp e1 .Mod e2 pos) (tOp (rI (fun _ j => 0 < j) fun i j => .int (i % j)) ta tb) (dOp modF da db) := pd_op op_mod ok_mod h1 h2
theorem p_pow (h1 : PD K X W c e1 ta da) (h2 : PD K X W false e2 tb db) : PD K X W c (.BinOp e1 .Pow e2 pos) (tOp (rI CPow fun i j => .int (i ^ j.toNat)) ta tb) (dOp powF da db) := pd_op op_pow ok_pow h1 h2
theorem p_neg (h1 : PD K X W c e1 ta da) : PD K X W c (.UnaryOp .USub e1 pos) (tUn (rU fun i => .int (-i)) ta) (dUn negF da) := pd_un un_neg ok_neg h1
/-- the rule of a comparison -/
structure CmpR (K : PySem.W.Frag) (X : Cx) (op : CmpOp) (r : R2) (f : Op2) : Prop where
  op : OpR X (compareOp op) r
  ok : Op2Ok K r f
theorem c_lt : CmpR K X .Lt (rOr (rI0 fun i j => .bl (decide (i < j))) (fun x y H Q => ∃ i j, x = .str i ∧ y = .str j ∧ Q (.bl (decide (i.cps.toList < j.cps.toList))) H)) ltF := ⟨op_or op_lt op_lt_str, ok_lt⟩
theorem c_le : CmpR K X .LtE (rI0 fun i j => .bl (decide (i ≤ j))) leF := ⟨op_le, ok_iib⟩
theorem c_gt : CmpR K X .Gt (rI0 fun i j => .bl (decide (j < i))) gtF := ⟨op_gt, ok_iib⟩
theorem c_ge : CmpR K X .GtE (rI0 fun i j => .bl (decide (j ≤ i))) geF := ⟨op_ge, ok_iib⟩
theorem c_eq (hu : X.A.units + 64 < cLine) (hK : X.K = K := by rfl) : CmpR K X .Eq (rOr rEq (rEqD K)) eqF := ⟨by subst hK; exact op_or op_eq (op_eqD hu), ok_eq⟩
theorem c_ne (hu : X.A.units + 64 < cLine) (hK : X.K = K := by rfl) : CmpR K X .NotEq (rOr rNe (rNeD K)) neF := ⟨by subst hK; exact op_or op_ne (op_neD hu), ok_ne⟩
theorem c_is : CmpR K X .Is (fun x y H Q => y = .non ∧ Q (.bl (decide (x = .non))) H) isNF := ⟨op_isN, ok_isN⟩
theorem c_isnot : CmpR K X .IsNot (fun x y H Q => y = .non ∧ Q (.bl (!decide (x = .non))) H) notNF := ⟨op_notN, ok_notN⟩
theorem c_in (hu : X.A.units + 65 < cLine) (hK : X.K = K := by rfl) : CmpR K X .In (rOr (rIn K false) (rOr (rInD K) (rSgn false))) inF := ⟨by subst hK; exact op_or op_in_seq (op_or (op_inD hu) op_sgn), ok_in⟩
theorem c_notin (hu : X.A.units + 65 < cLine) (hK : X.K = K := by rfl) : CmpR K X .NotIn (rOr (rIn K true) (rOr (rNotInD K) (rSgn true))) ninF := ⟨by subst hK; exact op_or op_notIn_seq (op_or (op_notInD hu) op_nsgn), ok_nin⟩
section
variable {op op' : CmpOp} {r r' : R2} {f f' : Op2}
theorem p_cmp (R : CmpR K X op r f) (h1 : PD K X W c e1 ta da) (h2 : PD K X W false e2 tb db) (hm : behindInMarks op e2 = false) : PD K X W c (.Compare e1 [op] [e2] pos) (tOp r ta tb) (dOp f da db) := pd_cmp R.op R.ok h1 h2 hm
theorem p_cmpC (R : CmpR K X op r f) (h1 : PD K X W true e1 ta da) (h2 : PD K X W true e2 tb db) (hm : behindInMarks op e2 = false) : PD K X W true (.Compare e1 [op] [e2] pos) (tOp r ta tb) (dOpC f da db) := pd_cmpC R.op R.ok h1 h2 hm
theorem t_cmp (R : CmpR K X op r f) (h1 : PD K X W c e1 ta da) (h2 : PD K X W false e2 tb db) (hm : behindInMarks op e2 = false) : PDT K X W c (.Compare e1 [op] [e2] pos) (tTest (tOp r ta tb)) (dTest (dOp f da db)) := pdt_cmp R.op R.ok h1 h2 hm
theorem t_cmpC (R : CmpR K X op r f) (h1 : PD K X W true e1 ta da) (h2 : PD K X W true e2 tb db) (hm : behindInMarks op e2 = false) : PDT K X W true (.Compare e1 [op] [e2] pos) (tTest (tOp r ta tb)) (dTest (dOpC f da db)) := pdt_cmpC R.op R.ok h1 h2 hm
theorem p_chain (R : CmpR K X op r f) (R' : CmpR K X op' r' f') (hf : ∀ s1 s2 s, f s1 s2 = some s → ∃ d, s2 = .dat d) (h1 : PD K X W c e1 ta da) (h2 : PD K X W false e2 tb db) (h3 : PD K X W false e3 tc dc)
    (hm : lastMarks [op, op'] [e2, e3] = false := by with_unfolding_all rfl) : PD K X W c (.Compare e1 [op, op'] [e2, e3] pos) (tChain r r' ta tb tc) (dChain f f' da db dc) := pd_chain R.op R'.op R.ok R'.ok hf h1 h2 h3 hm
theorem t_chain (R : CmpR K X op r f) (R' : CmpR K X op' r' f') (hf : ∀ s1 s2 s, f s1 s2 = some s → ∃ d, s2 = .dat d) (h1 : PD K X W c e1 ta da) (h2 : PD K X W false e2 tb db) (h3 : PD K X W false e3 tc dc)
    (hm : lastMarks [op, op'] [e2, e3] = false := by with_unfolding_all rfl) : PDT K X W c (.Compare e1 [op, op'] [e2, e3] pos) (tTest (tChain r r' ta tb tc)) (dTest (dChain f f' da db dc)) := pdt_chain R.op R'.op R.ok R'.ok hf h1 h2 h3 hm
end
theorem iiF_dat {g : Int → Int → Da} : ∀ s1 s2 s, iiF g s1 s2 = some s → ∃ d, s2 = .dat d := fun s1 s2 s e => by
  unfold iiF at e
  split at e
  · exact ⟨_, rfl⟩
  · cases e
theorem ltF_dat : ∀ s1 s2 s, ltF s1 s2 = some s → ∃ d, s2 = .dat d := fun s1 s2 s e => by
  unfold ltF orF at e
  split at e
  · rename_i h
    exact iiF_dat _ _ _ h
  · unfold ssB at e
    split at e
    · exact ⟨_, rfl⟩
    · cases e
/-! ### built-ins by their names -/
section
variable {x : Str} {p : Pos}
theorem b_len (hg : Gl X "len") (hm : X.mg "len" = none) (ha : PDA K X W c (e :: es) tx dx) (hK : X.K = K := by rfl) (he : starEach (e :: es) X.env = (false, eval e X.env) :: starEach es X.env := by rfl) (hpl : (backTo pos (starEach es X.env)).any (·.1) = false := by rfl) :
    PD K X W c (.Call (.Name "len" p) (e :: es) [] pos) (tCB (cOr (fun xs H Q => ∃ p ys, xs = [.ref p] ∧ (SqL K H p ys ∨ SqT K H p ys) ∧ Q (.int ys.length) H) (fun xs H Q => ∃ z, xs = [.str z] ∧ z.length ≤ sizeLine ∧ Q (.int z.length) H)) tx) (dCB lenF dx) :=
  pd_cb ok_len ha (pe_callB (show CallR X (.builtin "len") _ by subst hK; exact call_or call_len_seq call_len_str) hg hm PySem.boot_len ha.pa (by decide) (by decide) he hpl)
theorem b_abs (hg : Gl X "abs") (hm : X.mg "abs" = none) (ha : PDA K X W c (e :: es) tx dx) (he : starEach (e :: es) X.env = (false, eval e X.env) :: starEach es X.env := by rfl) (hpl : (backTo pos (starEach es X.env)).any (·.1) = false := by rfl) :
    PD K X W c (.Call (.Name "abs" p) (e :: es) [] pos) (tCB (fun xs H Q => ∃ i, xs = [.int i] ∧ Q (.int (if i < 0 then -i else i)) H) tx) (dCB absF dx) := pd_cb ok_abs ha (pe_callB call_abs hg hm (by decide +kernel) ha.pa (by decide) (by decide) he hpl)
theorem b_sum (hc : X.calm = true) (hg : Gl X "sum") (hm : X.mg "sum" = none) (ha : PDA K X W c (e :: es) tx dx) (hK : X.K = K := by rfl) (he : starEach (e :: es) X.env = (false, eval e X.env) :: starEach es X.env := by rfl) (hpl : (backTo pos (starEach es X.env)).any (·.1) = false := by rfl) :
    PD K X W c (.Call (.Name "sum" p) (e :: es) [] pos) (tCB (rSum K) tx) (dCB sumF dx) := pd_cb ok_sum ha (pe_callB (show CallR X (.builtin "sum") _ by subst hK; exact cr_sum hc) hg hm (by decide +kernel) ha.pa (by decide) (by decide) he hpl)
theorem b_all (hc : X.calm = true) (hg : Gl X "all") (hm : X.mg "all" = none) (ha : PDA K X W c (e :: es) tx dx) (hK : X.K = K := by rfl) (he : starEach (e :: es) X.env = (false, eval e X.env) :: starEach es X.env := by rfl) (hpl : (backTo pos (starEach es X.env)).any (·.1) = false := by rfl) :
    PD K X W c (.Call (.Name "all" p) (e :: es) [] pos) (tCB (rAll K) tx) (dCB allF dx) := pd_cb ok_all ha (pe_callB (show CallR X (.builtin "all") _ by subst hK; exact cr_all hc) hg hm (by decide +kernel) ha.pa (by decide) (by decide) he hpl)
theorem b_any (hc : X.calm = true) (hg : Gl X "any") (hm : X.mg "any" = none) (ha : PDA K X W c (e :: es) tx dx) (hK : X.K = K := by rfl) (he : starEach (e :: es) X.env = (false, eval e X.env) :: starEach es X.env := by rfl) (hpl : (backTo pos (starEach es X.env)).any (·.1) = false := by rfl) :
    PD K X W c (.Call (.Name "any" p) (e :: es) [] pos) (tCB (rAny K) tx) (dCB anyF dx) := pd_cb ok_any ha (pe_callB (show CallR X (.builtin "any") _ by subst hK; exact cr_any hc) hg hm (by decide +kernel) ha.pa (by decide) (by decide) he hpl)
theorem b_max (hc : X.calm = true) (hg : Gl X "max") (hm : X.mg "max" = none) (ha : PDA K X W c (e :: es) tx dx) (hK : X.K = K := by rfl) (he : starEach (e :: es) X.env = (false, eval e X.env) :: starEach es X.env := by rfl) (hpl : (backTo pos (starEach es X.env)).any (·.1) = false := by rfl) :
    PD K X W c (.Call (.Name "max" p) (e :: es) [] pos) (tCB (cOr (rMax K) (fun xs H Q => ∃ i j, xs = [.int i, .int j] ∧ Q (.int (if j > i then j else i)) H)) tx) (dCB maxF dx) := pd_cb ok_max ha (pe_callB (show CallR X (.builtin "max") _ by subst hK; exact call_or (cr_max hc) (call_max2 hc)) hg hm (by decide +kernel) ha.pa (by decide) (by decide) he hpl)
theorem b_min (hc : X.calm = true) (hg : Gl X "min") (hm : X.mg "min" = none) (ha : PDA K X W c (e :: es) tx dx) (hK : X.K = K := by rfl) (he : starEach (e :: es) X.env = (false, eval e X.env) :: starEach es X.env := by rfl) (hpl : (backTo pos (starEach es X.env)).any (·.1) = false := by rfl) :
    PD K X W c (.Call (.Name "min" p) (e :: es) [] pos) (tCB (cOr (rMin K) (fun xs H Q => ∃ i j, xs = [.int i, .int j] ∧ Q (.int (if j < i then j else i)) H)) tx) (dCB minF dx) := pd_cb ok_min ha (pe_callB (show CallR X (.builtin "min") _ by subst hK; exact call_or (cr_min hc) (call_min2 hc)) hg hm (by decide +kernel) ha.pa (by decide) (by decide) he hpl)
theorem b_sorted (hg : Gl X "sorted") (hm : X.mg "sorted" = none) (ha : PDA K X W c (e :: es) tx dx) (hK : X.K = K := by rfl) (he : starEach (e :: es) X.env = (false, eval e X.env) :: starEach es X.env := by rfl) (hpl : (backTo pos (starEach es X.env)).any (·.1) = false := by rfl) :
    PD K X W c (.Call (.Name "sorted" p) (e :: es) [] pos) (tCB (rSortedI K) tx) (dCB sortF dx) := pd_cb ok_sort ha (pe_callB (show CallR X (.builtin "sorted") _ by subst hK; exact cr_sortedI) hg hm (by decide +kernel) ha.pa (by decide) (by decide) he hpl)
theorem b_int (hg : Gl X "int") (hm : X.mg "int" = none) (ha : PDA K X W c (e :: es) tx dx) (he : starEach (e :: es) X.env = (false, eval e X.env) :: starEach es X.env := by rfl) (hpl : (backTo pos (starEach es X.env)).any (·.1) = false := by rfl) :
    PD K X W c (.Call (.Name "int" p) (e :: es) [] pos) (tCB (fun xs H Q => (∃ i, xs = [.int i] ∧ Q (.int i) H) ∨ ∃ k, xs = [.bl k] ∧ Q (.int (if k then 1 else 0)) H) tx) (dCB intF dx) := pd_cb ok_int ha (pe_callTy call_int1 hg hm (by decide +kernel) ha.pa (by decide) (by decide) he hpl)
theorem b_tuple (hg : Gl X "tuple") (hm : X.mg "tuple" = none) (ha : PDA K X W c (e :: es) tx dx) (hK : X.K = K := by rfl) (he : starEach (e :: es) X.env = (false, eval e X.env) :: starEach es X.env := by rfl) (hpl : (backTo pos (starEach es X.env)).any (·.1) = false := by rfl) :
    PD K X W c (.Call (.Name "tuple" p) (e :: es) [] pos) (tCB (fun xs H Q => ∃ p ys, xs = [.ref p] ∧ ((SqL K H p ys ∧ ∀ l, H l = none → Q (.ref l) (upd H l (.tup ys))) ∨ (SqT K H p ys ∧ Q (.ref p) H))) tx) (dCB tupF dx) := pd_cb ok_tup ha (pe_callTy (show CallR X (.type "tuple") _ by subst hK; exact call_tuple_of) hg hm (by decide +kernel) ha.pa (by decide) (by decide) he hpl)
theorem b_list (hg : Gl X "list") (hm : X.mg "list" = none) (ha : PDA K X W c (e :: es) tx dx) (hK : X.K = K := by rfl) (he : starEach (e :: es) X.env = (false, eval e X.env) :: starEach es X.env := by rfl) (hpl : (backTo pos (starEach es X.env)).any (·.1) = false := by rfl) :
    PD K X W c (.Call (.Name "list" p) (e :: es) [] pos) (tCB (fun xs H Q => ∃ p ys, xs = [.ref p] ∧ (SqL K H p ys ∨ SqT K H p ys) ∧ ∀ l, H l = none → Q (.ref l) (upd H l (.lst ys))) tx) (dCB lstF dx) := pd_cb ok_lst ha (pe_callTy (show CallR X (.type "list") _ by subst hK; exact call_list_of) hg hm (by decide +kernel) ha.pa (by decide) (by decide) he hpl)
theorem b_isT (t : Ty) {p2 : Pos} (hg : Gl X "isinstance") (hm : X.mg "isinstance" = none) (hg2 : Gl X t.nm) (hm2 : X.mg t.nm = none) (ha : PD K X W c e ta da) (hK : X.K = K := by rfl) (he : starEach [e, .Name t.nm p2] X.env = (false, eval e X.env) :: starEach [.Name t.nm p2] X.env := by rfl)
    (he2 : starEach [.Name t.nm p2] X.env = (false, eval (.Name t.nm p2) X.env) :: starEach [] X.env := by rfl) (hpl : (backTo pos (starEach [.Name t.nm p2] X.env)).any (·.1) = false := by rfl) :
    PD K X W c (.Call (.Name "isinstance" p) [e, .Name t.nm p2] [] pos) (tCB (rIsi K) (tCons ta (tCons (tC (.ty t.nm)) tNil))) (dCB (isTF t) (dCons da (dCons (dC (.raw (.ty t.nm))) dNil))) :=
  pd_isT t ha (pe_callB (show CallR X (.builtin "isinstance") (rIsi K) by subst hK; exact call_isi) hg hm (by decide +kernel) (pa_cons ha.pe (pa_cons (pe_bltn (v := .ty t.nm) (u := .type t.nm) hg2 hm2 (by cases t <;> decide +kernel) rfl (by cases t <;> decide) (by cases t <;> decide)) pa_nil he2) he) (by decide) (by decide) he hpl)
theorem b_isC {C : Addr} {nm : Str} {p2 : Pos} (hC : ClsI K C) (hg : Gl X "isinstance") (hm : X.mg "isinstance" = none) (hg2 : Gl X nm) (hm2 : X.mg nm = some (.ref C)) (ha : PD K X W c e ta da) (hK : X.K = K := by rfl) (hd : (nm == ("__debug__" : Str)) = false := by decide)
    (he : starEach [e, .Name nm p2] X.env = (false, eval e X.env) :: starEach [.Name nm p2] X.env := by rfl) (he2 : starEach [.Name nm p2] X.env = (false, eval (.Name nm p2) X.env) :: starEach [] X.env := by rfl) (hpl : (backTo pos (starEach [.Name nm p2] X.env)).any (·.1) = false := by rfl) :
    PD K X W c (.Call (.Name "isinstance" p) [e, .Name nm p2] [] pos) (tCB (rIsi K) (tCons ta (tCons (tC (.ref C)) tNil))) (dCB (isCF C) (dCons da (dCons (dC (.raw (.ref C))) dNil))) :=
  pd_isC hC ha (pe_callB (show CallR X (.builtin "isinstance") (rIsi K) by subst hK; exact call_isi) hg hm (by decide +kernel) (pa_cons ha.pe (pa_cons (pe_glob (v := .ref C) hg2 hm2 rfl hd) pa_nil he2) he) (by decide) (by decide) he hpl)
end
theorem p_ix (h1 : PD K X W c e1 ta da) (h2 : PD K X W false e2 tb db) (hs : PlainIx e2) (hK : X.K = K := by rfl) : PD K X W c (.Subscript e1 e2 pos) (tOp (L2.rIx K) ta tb) (dOp ixF da db) := pd_ix (by subst hK; exact ix_seq) ok_ix h1 h2 hs
theorem p_sl {lo hi : Option Expr} {tl th : TO} {dl dh : DO} {p2 : Pos} (h : PD K X W c e ta da) (h1 : PDO K X W false lo tl dl) (h2 : PDO K X W false hi th dh) (hK : X.K = K := by rfl) : PD K X W c (.Subscript e (.Slice lo hi none p2) pos) (tSl (slOr (rSlA K) (slOr rSlS (rSlL K))) ta tl th) (dSl cutF da dl dh) :=
  pd_slice (by subst hK; exact sl_or sl_tupA (sl_or sl_str sl_list)) ok_cut h h1 h2
end
end Ge

set_option maxHeartbeats 400000
theorem L2.Room.units1 {k : Nat} {A : PySem.Around} (r : L2.Room k A) : A.units + 65 < PySem.cLine := by have := r.un; omega
namespace Sd
open PySem PySem.Spec PyProof.Rows L2
theorem Fun.kw {K : PySem.W.Frag} {x qual : Str} {st : Stmt} {f : Addr} {fd : FuncData} {ps ks : List Str} {g : List Value → List Value} {gV : List V → List V} (F : Fun K x qual st f fd)
    (h : ∀ (kV doc pm : Value) (an : Option Addr) (cdv ct : Value) (ws : List Value), ws.length = ks.length →
      bindArgs (PySem.W.fnOf x qual (defArgs st) (defBody st) (defScope st) .none kV doc pm an cdv ct) ⟨[], ks.zip ws⟩ = pure (ps.zip (g ws)))
    (rel : ∀ {zs : List V} {ws : List Value}, Vals zs ws → Vals (gV zs) (g ws)) : KW0 K fd ps ks g gV := by
  obtain ⟨oc, od, kV, doc, pm, an, cdv, ct, osl, rfl, lk, hcd⟩ := F.ex
  exact ⟨fun s ws _ hl => .of_eq (h kV doc pm an cdv ct ws hl), rel⟩
end Sd
namespace L2
theorem Fun.kw {K : PySem.W.Frag} {x qual : PySem.Str} {st : PySem.Stmt} {f : PySem.Addr} {fd : PySem.FuncData} {ps ks : List PySem.Str} {g : List PySem.Value → List PySem.Value} {gV : List V → List V} (F : Fun K x qual st f fd)
    (h : ∀ (kV doc pm : PySem.Value) (an : Option PySem.Addr) (cdv ct : PySem.Value) (ws : List PySem.Value), ws.length = ks.length →
      PySem.bindArgs (PySem.W.fnOf x qual (defArgs st) (defBody st) (defScope st) .none kV doc pm an cdv ct) ⟨[], ks.zip ws⟩ = pure (ps.zip (g ws)))
    (rel : ∀ {zs : List V} {ws : List PySem.Value}, Vals zs ws → Vals (gV zs) (g ws)) : Sd.KW0 K fd ps ks g gV := Sd.Fun.kw F h rel
end L2
namespace Ge
open PySem PySem.Spec PyProof.Rows L2 Sd
variable [HasT]
/-! ### arguments in another order -/
def permW (is : List Nat) (l : List Value) : List Value := is.map fun i => l.getD i .none
def permV (is : List Nat) (l : List V) : List V := is.map fun i => l.getD i .non
def permD (is : List Nat) (l : List Da) : List Da := is.map fun i => l.getD i .non
theorem rel_getD : ∀ {zs : List V} {ws : List Value} (i : Nat), Vals zs ws → L2.RelV (zs.getD i .non) (ws.getD i .none)
  | _, _, _, .nil => by simp [L2.RelV]
  | _, _, 0, .cons r _ => by simpa using r
  | _, _, i + 1, .cons _ t => by simpa using rel_getD i t
theorem perm_rel {is : List Nat} {zs : List V} {ws : List Value} (r : Vals zs ws) : Vals (permV is zs) (permW is ws) := by
  unfold permV permW
  induction is with
  | nil => exact .nil
  | cons i is ih => exact .cons (rel_getD i r) ih
theorem rp_getD {K : PySem.W.Frag} {S : Hp} : ∀ {us : List V} {ds : List Da} (i : Nat), Rps K S us ds → Rp K S (us.getD i .non) (ds.getD i .non)
  | _, _, _, .nil => by simpa using Rp.non
  | _, _, 0, .cons r _ => by simpa using r
  | _, _, i + 1, .cons _ t => by simpa using rp_getD i t
theorem perm_D {K : PySem.W.Frag} {is : List Nat} {m n : Nat} (h : is.length = n) (h' : is.length = m) : ∀ (S : Hp) (us : List V) (ds : List Da), us.length = m → Rps K S us ds → (permV is us).length = n ∧ Rps K S (permV is us) (permD is ds) := fun S us ds _ r => by
  refine ⟨by unfold permV; rw [List.length_map, h], ?_⟩
  clear h h'
  unfold permV permD
  induction is with
  | nil => exact .nil
  | cons i is ih => exact .cons (rp_getD i r) ih
/-! ### draws -/
theorem FnE.of0 {P : Program} {w : World} {K : PySem.W.Frag} {mg : Str → Option Value} {base : Heap} {k : Nat} {f : Addr} {fd : FuncData} {ps : List Str} {sp sp' : Sp} (F : FnOk P w K mg base CX0 k f fd ps sp)
    (h : ∀ vs H Q E, sp' vs H Q E → sp vs H Q E) : FnE P w K mg base k f fd ps sp' :=
  ⟨fun vs H Q E q => F.len vs H Q E (h _ _ _ _ q), fun A outer s H args us vs Q E _ hr e0 hb r q => codeAny_mono (F.run A outer s H args us vs Q E hr e0 hb r (h _ _ _ _ q)) fun res s' hq => by
    cases res with
    | error e => cases hq
    | ok fl => cases fl with
      | ret u => exact hq
      | next => cases hq
      | brk => cases hq
      | cont => cases hq⟩
/-- a draw below m -/
theorem tabs_kp {T : List (Addr × Str)} {H H' : Hp} {p q : Addr} (h : LamX.Tabs T H) (d : Dr H p q) (k : Kp p q H H') : LamX.Tabs T H' := fun t m => by
  obtain ⟨cs, st, h1, h2, _⟩ := d
  have ne : ∀ {b : Addr} {o : HO}, H b = some o → (∀ xs : List V, o ≠ .lst xs) → H' b = some o := fun {b o} e n => by
    refine k b o (fun z => ?_) (fun z => ?_) e
    · rw [z, h1] at e
      exact n _ (Option.some.inj e).symm
    · rw [z, h2] at e
      exact n _ (Option.some.inj e).symm
  obtain ⟨ps, e1, e2, e3⟩ := h t m
  refine ⟨ps, ne e1 (fun xs z => by cases z), e2, fun pos cv hc => ?_⟩
  obtain ⟨c, k1, k2⟩ := e3 pos cv hc
  exact ⟨c, k1, ne k2 fun xs => (lst_code c _).symm⟩
def spDraw : Sp := fun vs H Q _ => ∃ (p q : Addr) (m : Int), vs = [.ref p, .int m] ∧ Dr H p q ∧ 0 < m ∧ m < 1073741824 ∧
  ∀ H' r, Kp p q H H' → Dr H' p q → 0 ≤ r → r < m → Q (.int r) H'
def drawF : Fn := fun ss => match ss with
  | [.src, .val (.fz (.int m))] => .draw m fun v => .pure (.dat (.int v)) | _ => .fail
theorem draw_den {P : Program} {w : World} {K : PySem.W.Frag} {mg : Str → Option Value} {base : Heap} {k : Nat} {f : Addr} {fd : FuncData} {ps : List Str} (F : FnOk P w K mg base CX0 k f fd ps spDraw) : FnE P w K mg base k f fd ps (spG K 2 drawF) :=
  FnE.of0 F fun vs H Q E ⟨hl, src, S, ss, sh, iv, hp, q⟩ => by
    unfold drawF at q
    split at q
    · rename_i m
      obtain ⟨m0, m1, q⟩ := q
      cases hp with
      | cons r1 hp =>
        cases hp with
        | cons r2 hp =>
          cases hp
          obtain ⟨⟨_, p, p', e, ev⟩, _⟩ := r1
          cases ev
          obtain ⟨⟨x, ex, r2⟩, _⟩ := r2
          cases ex
          cases r2 with
          | fz r2 =>
            cases r2
            have e : src.pq = some (p, p') := e
            obtain ⟨dr, z1, z2⟩ := iv.dr p p' e
            refine ⟨p, p', m, rfl, dr, m0, m1, fun H' v kp dr' v0 v1 => ?_⟩
            refine q v v0 v1 S H' (.int v) (.fz (.int v)) [] ⟨Same.refl S, fun a u ha => ?_, fun a u fo ha => ?_, fun a u ha => .inl ha⟩ ⟨fun p1 q1 e1 => ?_, tabs_kp iv.tb dr kp, iv.ts⟩ rfl (.fz (.int v)) fun a ma => by rw [List.count_nil] at ma; omega
            · exact kp a u (fun z => by rw [z, z1] at ha; cases ha) (fun z => by rw [z, z2] at ha; cases ha) (sh a u ha)
            · obtain ⟨n1, n2⟩ := fo.1 p p' e
              exact kp a u n1 n2 ha
            · have e1 : src.pq = some (p1, q1) := e1
              rw [e] at e1
              cases e1
              exact ⟨dr', z1, z2⟩
    · exact q.elim
section
variable {K : PySem.W.Frag} {b : Bs} {ρ : List Sl} {σ : L2.St} {S H S' H' : Hp} {ps : List (V × Sl)} {v : V} {s : Sl} {F f : List Addr} {d : Da} {X : Cx} {W : WX} {m c c1 c2 c3 : Bool}
  {e e1 e2 e3 tg : Expr} {es : List Expr} {te ta tb tc : TE} {tt tu : TT} {tx : TA} {da db dc : DE} {dt du : DB} {dx : DA} {pos : Pos} {st : Stmt}
end
end Ge

set_option maxHeartbeats 400000
namespace Ge
open PySem PySem.Spec PyProof.Rows L2 Sd
variable [HasT]
/-! ### instances -/
theorem make_guards {A : Around} {C : Addr} {us : List Value} {kw : List (Str × Value)} : (A.under (.builtin "type.__call__" ⟨.ref C :: us, kw⟩)).guards = A.guards := by
  first | rfl | simp [Around.under, Code.weight, Code.isCreation, Code.isGuard, Code.isCaller, Code.frames, Code.isFrame, guardIds]
def tMakeE (C : Addr) (sp : Sp) (E : L2.St → XK) (t : TA) : TE := fun σ H Q => t σ H fun vs H1 => ∀ x dx, H1 x = none → H1 dx = none → dx ≠ x →
  sp (.ref x :: vs) (upd (upd H1 dx (.own x)) x (.ins C dx [])) (fun v H2 => v = .non ∧ Q (.ref x) H2) (E σ)
section
variable {X : Cx} {k n : Nat} {f C : Addr} {fd : FuncData} {ps : List Str} {sp : Sp} {x : Str} {p pos : Pos} {e : Expr} {es : List Expr} {t : TA} {W : WX}
theorem pe_makeE (M : Mk X.K C f) (F : FnE X.prog X.w X.K X.mg X.base k f fd ps sp) (hgu : X.A.guards = some []) (hr : Room (k + 1) X.A) (hg : Gl X x) (hm : X.mg x = some (.ref C)) (hb : Binds X.K fd ps []) (tk : Takes X W)
    (ha : PA X (e :: es) t) (hdb : (x == ("__debug__" : Str)) = false := by decide) (he : starEach (e :: es) X.env = (false, eval e X.env) :: starEach es X.env := by rfl) (hpl : (backTo pos (starEach es X.env)).any (·.1) = false := by rfl) :
    PE X (.Call (.Name x p) (e :: es) [] pos) (tMakeE C sp (WE W) t) := by
  constructor
  intro pins s σ H Q I h
  refine wpAny_Call_Name_kw (ld_glob I hg hm (PySem.W.callWith_K (h₀ := X.base) I.ok.mod.kin M.kp ?_ he hpl) hdb)
  refine thn (ha.run pos pins s σ H _ I h) ?_
  rintro us s1 ⟨vs, H1, I1, r, q⟩
  refine ⟨I1.kIn, ?_⟩
  have f0 : H1 s1.heap.objs.size = none := I1.hok.fresh (Nat.le_refl _)
  have f1 : H1 (s1.heap.objs.size + 1) = none := I1.hok.fresh (Nat.le_succ _)
  have sq := q _ _ f1 f0 (Nat.ne_of_lt (Nat.lt_succ_self _))
  have J := Inv.made (C := C) I1
  have rv : Vals (V.ref (s1.heap.objs.size + 1) :: vs) (Value.ref (s1.heap.objs.size + 1) :: us) := .cons rfl r
  have ln : (Value.ref (s1.heap.objs.size + 1) :: us).length = ps.length := by
    rw [← rv.length]
    exact F.len _ _ _ _ sq
  have bd := hb _ (Value.ref (s1.heap.objs.size + 1) :: us) J.kIn (by rw [List.append_nil]; exact ln)
  rw [List.append_nil] at bd
  have run := F.go _ X.stack _ _ ⟨Value.ref (s1.heap.objs.size + 1) :: us, []⟩ _ _ _ (WE W σ) (make_guards.trans hgu) (hr.make C us []) (J.env0.make C us []) bd rv sq
  refine wpAny_call (make_map (f := f) I1.kIn M.makes M.init (beq_iff_eq.mp M.fn) (codeAny_mono run ?_))
  intro res s' hq
  cases res with
  | error e => exact passAt tk σ _ _ _ e s' J hq
  | ok fl => cases fl with
    | ret u =>
      obtain ⟨v, H', I3, rv', ev, q3⟩ := J.after hq
      subst ev
      exact ⟨rv', V.ref (s1.heap.objs.size + 1), H', I3, rfl, q3⟩
    | next => cases hq
    | brk => cases hq
    | cont => cases hq
end
abbrev FnI := List Sl → G (List Da)
/-- the promise of an __init__: the fields ns of the instance -/
def spIG (K : PySem.W.Frag) (C : Addr) (ns : List Str) (n : Nat) (Fi : FnI) : Sp := fun vs H Q E => vs.length = n ∧ ∃ S x dx rest ss, vs = .ref x :: rest ∧ Same S H ∧ Inv0 (bs0 ⟨none⟩ S H) S H ∧ S x = none ∧ H x = some (.ins C dx []) ∧
  Paired (fun v s => SlotOk K (bs0 ⟨none⟩ S H) S H (some v) [] s ∧ s.isView = false) rest ss ∧
  (Fi ss).good (fun fs => ∀ S' H' xs, Same S S' → Same S' H' → Inv0 (bs0 ⟨none⟩ S H) S' H' → S' x = none → (∀ a o, a ≠ x → off ⟨none⟩ a → H a = some o → H' a = some o) → (∀ a o, S' a = some o → S a = some o ∨ H a = none) → H' x = some (.ins C dx (ns.zip xs)) → ns.length = xs.length → Rps K S' xs fs → Q .non H')
    fun e => ∀ H' d, (∀ a o, a ≠ x → off ⟨none⟩ a → H a = some o → H' a = some o) → LamX.Tabs HasT.T0 H' → H' d = some (.xd e.fs) → E (.ref e.c) (some d) H'
def fldG (ρ : List Sl) : List Nat → G (List Da)
  | [] => .pure []
  | i :: is => match get ρ i with | .val (.fz d) => (fldG ρ is).bind fun ds => .pure (d :: ds) | _ => .fail
abbrev DN := List Sl → G (List Da)
/-- ahead of the fields -/
def dSeqN (a : DS) (c : DN) : DN := fun ρ => (a ρ).bind fun o => match o with | .nx ρ' => c ρ' | _ => .fail
def dFlds (is : List Nat) : DN := fun ρ => match get ρ 0 with | .slf => fldG ρ is | _ => .fail
def dInit (n : Nat) (d : DN) : FnI := fun ss => d (.slf :: ss ++ List.replicate (n - (ss.length + 1)) .no)
def dMake (C : Addr) (ns : List Str) (Fi : FnI) (a : DA) : DE := fun ρ => (a ρ).bind fun l => match ows l with
  | some os => (Fi ((frzs os).map Sl.dat)).bind fun fs => .pure (.dat (.obj C ns fs)) | none => .fail
def fldT (K : PySem.W.Frag) : List (Str × Nat) → TS
  | [] => tNext
  | [(f, i)] => sFld K (tVar 0) (tVar i) f
  | (f, i) :: r => tSeq (sFld K (tVar 0) (tVar i) f) (fldT K r)
/-- the body of an __init__: C, x, dx: the instance -/
def InG (K : PySem.W.Frag) (b : Bs) (W : WX) (ns : List Str) (C x dx : Addr) (t : TS) (d : DN) : Prop := ∀ ρ σ H (D : Ends), At K b ρ σ H [] →
  (d ρ).good (fun fs => ∀ ρ' σ' H' S F xs, AtS K b ρ' σ' S H' [] F → Rps K S xs fs → ns.length = xs.length → D.nx σ' (upd H' x (.ins C dx (ns.zip xs)))) (Thr K b W []) → t D σ H
structure PDN (K : PySem.W.Frag) (X : Cx) (W : WX) (ns : List Str) (C : Addr) (st : List Stmt) (t : TS) (d : DN) : Prop where
  ps : PSs X st t
  ev : ∀ b x dx, b.me = some x → b.H x = some (.ins C dx []) → b.src = ⟨none⟩ → (∀ t ∈ HasT.T0, x ≠ t.1) → InG K b W ns C x dx t d
section
variable {K : PySem.W.Frag} {b : Bs} {ρ : List Sl} {σ : L2.St} {S H S' H' : Hp} {ps : List (V × Sl)} {v : V} {s : Sl} {F f : List Addr} {d : Da} {X : Cx} {W : WX} {m c c1 c2 c3 : Bool}
  {e e1 e2 e3 tg : Expr} {es : List Expr} {te ta tb tc : TE} {tt tu : TT} {tx : TA} {da db dc : DE} {dt du : DB} {dx : DA} {pos : Pos} {st : Stmt} {rest : List Stmt} {t1 t2 : TS} {d1 : DS} {dn : DN} {ns : List Str} {C : Addr}
theorem pdn_cons (h1 : PDS K X W st t1 d1) (h2 : PDN K X W ns C rest t2 dn) : PDN K X W ns C (st :: rest) (tSeq t1 t2) (dSeqN d1 dn) := ⟨pss_cons h1.ps h2.ps, fun b x dx e1 e2 e3 e4 ρ σ H D a q => by
  refine h1.ev b ρ σ H [] { D with nx := t2 D } nv_nil a (G.good_mono (fun o k => ?_) (fun _ h => h) (G.good_bind.mp q))
  cases o with
  | nx ρ' => exact fun σ' H' a' => h2.ev b x dx e1 e2 e3 e4 ρ' σ' H' D a' k
  | rt s => cases k
  | bk ρ' => cases k
  | ct ρ' => cases k⟩
theorem putF_new {f : Str} {v : V} : ∀ {fs : List (Str × V)}, f ∉ fs.map Prod.fst → putF f v fs = fs ++ [(f, v)]
  | [], _ => rfl
  | (g, x) :: r, h => by
    have n : g ≠ f := fun e => h (by rw [List.map_cons, e]; exact List.mem_cons_self)
    show (if g = f then _ else _) = _
    rw [if_neg n, putF_new (fs := r) fun m => h (by rw [List.map_cons]; exact List.mem_cons_of_mem _ m)]
    rfl
theorem fld_vals : ∀ {is : List Nat} {N : List Da → Prop} {E : Exn → Prop}, (fldG ρ is).good N E → ∃ ds, N ds ∧ ds.length = is.length ∧ ∀ (j i : Nat), is[j]? = some i → ∃ d : Da, ds[j]? = some d ∧ get ρ i = .dat d
  | [], _, _, h => ⟨[], h, rfl, fun j i e => by simp at e⟩
  | i :: is, N, E, h => by
    unfold fldG at h
    split at h
    · rename_i d hd
      obtain ⟨ds, h1, h2, h3⟩ := fld_vals (G.good_bind.mp h)
      refine ⟨d :: ds, h1, by rw [List.length_cons, List.length_cons, h2], fun j k e => ?_⟩
      cases j with
      | zero =>
        have e : i = k := Option.some.inj e
        subst e
        exact ⟨d, rfl, hd⟩
      | succ j => exact h3 j k (by simpa using e)
    · cases h
theorem upd_self {H : Hp} {a : Addr} {o : HO} (h : H a = some o) : upd H a o = H := by
  funext c
  by_cases e : c = a
  · rw [e, upd_same, h]
  · rw [upd_ne e]
/-- the stores, one behind another -/
theorem fld_go {x dx : Addr} (hC : Cls K C) (s0 : σ[0]? = some (some (.ref x))) (D : Ends) : ∀ (fl : List (Str × Nat)) (acc : List (Str × V)) (xs : List V), fl ≠ [] → fl.length = xs.length → (∀ (j : Nat) f i, fl[j]? = some (f, i) → ∃ v, xs[j]? = some v ∧ σ[i]? = some (some v)) →
    (∀ p ∈ fl, NoAttr K C p.1) → (acc.map Prod.fst ++ fl.map Prod.fst).Nodup → acc.length + fl.length ≤ 100 → D.nx σ (upd H x (.ins C dx (acc ++ (fl.map Prod.fst).zip xs))) → fldT K fl D σ (upd H x (.ins C dx acc))
  | [], _, _, ne, _, _, _, _, _, _ => absurd rfl ne
  | [(f, i)], acc, [v], _, _, hv, hn, nd, hl, q => by
    obtain ⟨w, e1, e2⟩ := hv 0 f i rfl
    cases e1
    have nf : f ∉ acc.map Prod.fst := fun m => by
      have := (List.nodup_append.mp nd).2.2 f m f (by simp)
      exact this rfl
    refine ⟨v, e2, _, s0, x, C, dx, acc, rfl, upd_same, hC, hn _ List.mem_cons_self, by have : acc.length + 1 ≤ 100 := hl; omega, ?_⟩
    rw [upd_upd, putF_new nf]
    exact q
  | (f, i) :: p :: r, acc, v :: xs, _, l, hv, hn, nd, hl, q => by
    obtain ⟨w, e1, e2⟩ := hv 0 f i rfl
    cases e1
    have nf : f ∉ acc.map Prod.fst := fun m => by
      have := (List.nodup_append.mp nd).2.2 f m f (by simp)
      exact this rfl
    have l0 : acc.length + (r.length + 1 + 1) ≤ 100 := hl
    refine ⟨v, e2, _, s0, x, C, dx, acc, rfl, upd_same, hC, hn _ List.mem_cons_self, by omega, ?_⟩
    rw [upd_upd, putF_new nf]
    refine fld_go hC s0 D (p :: r) (acc ++ [(f, v)]) xs (by simp) (by simpa using l) (fun j g k e => hv (j + 1) g k (by simpa using e)) (fun z m => hn z (List.mem_cons_of_mem _ m)) (by simpa [List.append_assoc] using nd) (by rw [List.length_append]; show acc.length + 1 + (r.length + 1) ≤ 100; omega) ?_
    rw [List.append_assoc]
    exact q
  | [_], _, [], _, l, _, _, _, _, _ => by cases l
  | [_], _, _ :: _ :: _, _, l, _, _, _, _, _ => by cases l
  | _ :: _ :: _, _, [], _, l, _, _, _, _, _ => by cases l
theorem ins_tbl {C dx : Addr} {fs : List (Str × V)} : ∀ ps, HO.ins C dx fs ≠ .tbl ps := fun ps z => by cases z
theorem ins_code {C dx : Addr} {fs : List (Str × V)} : ∀ c q, HO.ins C dx fs ≠ LamX.CodeO c q := fun c q z => by
  have z' : HO.ins C dx fs = HO.ext _ := z
  cases z'
theorem pdn_flds {fl : List (Str × Nat)} (hp : PSs X rest (fldT K fl)) (hC : Cls K C) (hn : ∀ p ∈ fl, NoAttr K C p.1) (nd : (fl.map Prod.fst).Nodup) (hl : fl.length ≤ 100) (ne : fl ≠ []) : PDN K X W (fl.map Prod.fst) C rest (fldT K fl) (dFlds (fl.map Prod.snd)) := ⟨hp, fun b x dx hme hx hsrc htn ρ σ H D a q => by
  unfold dFlds at q
  split at q
  · rename_i h0
    obtain ⟨S, F, A⟩ := id a
    obtain ⟨w, f, ew, r, _, _⟩ := A.en.slot (get_some (ρ := ρ) (i := 0) (by rw [h0]; nofun))
    rw [h0] at r
    obtain ⟨rfl, x', e1, rfl⟩ := r
    rw [hme] at e1
    cases e1
    have hHx : H x = some (.ins C dx []) := A.st.hh x _ ⟨fun p q z => (by rw [hsrc] at z; cases z), htn⟩ hx
    obtain ⟨ds, N, dl, dv⟩ := fld_vals q
    have key : ∀ (fl : List (Str × Nat)) (ds : List Da), ds.length = (fl.map Prod.snd).length → (∀ (j i : Nat), (fl.map Prod.snd)[j]? = some i → ∃ d, ds[j]? = some d ∧ get ρ i = .dat d) →
        ∃ xs, Rps K S xs ds ∧ fl.length = xs.length ∧ ∀ (j : Nat) f i, fl[j]? = some (f, i) → ∃ v, xs[j]? = some v ∧ σ[i]? = some (some v) := by
      intro fl
      induction fl with
      | nil =>
        intro ds l _
        cases ds with
        | nil => exact ⟨[], .nil, rfl, fun j f i e => by simp at e⟩
        | cons _ _ => simp at l
      | cons p fl ih =>
        intro ds l h
        cases ds with
        | nil => simp at l
        | cons d ds =>
          obtain ⟨f0, i0⟩ := p
          obtain ⟨d', e1, e2⟩ := h 0 i0 rfl
          cases e1
          obtain ⟨xs, h1, h2, h3⟩ := ih ds (by simpa using l) fun j i e => by
            have := h (j + 1) i (by simpa using e)
            simpa using this
          obtain ⟨w, g, ew, r, _, _⟩ := A.en.slot (get_some (ρ := ρ) (i := i0) (by rw [e2]; nofun))
          rw [e2] at r
          obtain ⟨u, rfl, r⟩ := r
          cases r with
          | fz r =>
            refine ⟨u :: xs, .cons r h1, by rw [List.length_cons, List.length_cons, h2], fun j f i e => ?_⟩
            cases j with
            | zero =>
              cases Option.some.inj e
              exact ⟨u, rfl, ew⟩
            | succ j =>
              obtain ⟨v, k1, k2⟩ := h3 j f i (by simpa using e)
              exact ⟨v, by simpa using k1, k2⟩
    obtain ⟨xs, rx, lx, vx⟩ := key fl ds dl dv
    have fin := fld_go (K := K) (H := H) (dx := dx) hC ew D fl [] xs ne lx vx hn (by simpa using nd) (by simpa using hl) (N ρ σ H S F xs A rx (by rw [List.length_map, lx]))
    rw [upd_self hHx] at fin
    exact fin
  · cases q⟩
theorem init_den {P : Program} {w : World} {mg : Str → Option Value} {base : Heap} {x0 qual : Str} {st : Stmt} {f : Addr} {fd : FuncData} {N ps : List Str} {k : Nat} {n : Nat}
    (Fd : Fun K x0 qual st f fd) (Sc : FnScope N ps (defScope st)) (hn : n = N.length)
    (hbody : ∀ (cdv : Value), fd.code = cdv → ∀ (A : Around) (outer : List Env) (s : Shared) (H : Hp) (E : XK),
      A.guards = some [] → Room k (A.deeper (envOfC qual (defScope st) s.heap.objs.size f cdv)) →
      ∃ t, PDN K (cxOf (L2.CX P w) P w K mg base N qual (defScope st) f cdv A outer s H E) (WW E) ns C (defBody st) t dn) :
    FnE P w K mg base (k + 1) f fd ps (spIG K C ns ps.length (dInit n dn)) := by
  refine fn_e Fd Sc (fun vs H Q E h => h.1) fun cdv hcv A outer s H vs Q E hg hr hsp => ?_
  obtain ⟨t, ht⟩ := hbody cdv hcv A outer s H E hg hr
  refine ⟨t, ht.ps, ?_⟩
  obtain ⟨hl, S0, x, dx, rest, ss, rfl, sh, iv, sx, hx, hp, hq⟩ := hsp
  have len : rest.length = ss.length := paired_len hp
  have up : ∀ {v s}, SlotOk K (bs0 ⟨none⟩ S0 H) S0 H v [] s → SlotOk K ⟨⟨none⟩, S0, H, some x⟩ S0 H v [] s := fun {v s} r => by
    cases s with
    | no => exact r
    | val o => exact r
    | view o => exact r
    | src => exact r
    | slf =>
      obtain ⟨_, y, e, _⟩ := r
      cases e
  have hp2 : Paired (fun v s => SlotOk K ⟨⟨none⟩, S0, H, some x⟩ S0 H (some v) [] s ∧ s.isView = false) (V.ref x :: rest) (Sl.slf :: ss) := .cons ⟨⟨rfl, x, rfl, rfl⟩, rfl⟩ (Paired.mapP hp fun _ _ r => ⟨up r.1, r.2⟩)
  have a0 : At K ⟨⟨none⟩, S0, H, some x⟩ (.slf :: ss ++ List.replicate (n - (ss.length + 1)) .no) (start N (V.ref x :: rest)) H [] := by
    refine ⟨S0, [], Step.refl sh, iv, ?_, fun a m => by rw [List.count_nil] at m; omega, fun s m => ?_⟩
    · unfold L2.start
      rw [← hn, List.length_cons, len]
      exact ents_start hp2
    · rcases List.mem_append.mp m with m | m
      · have : ∀ {vs : List V} {ss : List Sl}, Paired (fun v s => SlotOk K ⟨⟨none⟩, S0, H, some x⟩ S0 H (some v) [] s ∧ s.isView = false) vs ss → ∀ s ∈ ss, s.isView = false := by
          intro vs ss h
          induction h with
          | nil => intro s m; cases m
          | cons r t ih =>
            intro s m
            rcases List.mem_cons.mp m with rfl | m
            · exact r.2
            · exact ih s m
        exact this hp2 s m
      · rw [(List.mem_replicate.mp m).2]; rfl
  refine ht.ev ⟨⟨none⟩, S0, H, some x⟩ x dx rfl hx rfl (tabs_ne iv.tb hx ins_tbl) _ _ H _ a0 (G.good_mono (fun fs h => ?_) (fun e h => ?_) (show (dn _).good _ _ from hq))
  · intro ρ' σ' H' S' F' xs A' rx lx
    have s'x : S' x = none := by
      cases z : S' x with
      | none => rfl
      | some o =>
        rcases A'.st.gr x o z with q | q
        · have q : S0 x = some o := q
          rw [sx] at q; cases q
        · have q : H x = none := q
          rw [hx] at q; cases q
    have sht : Same S' (upd H' x (.ins C dx (ns.zip xs))) := fun a o e => by
      rw [upd_ne (ne_of_none e s'x)]
      exact A'.sh a o e
    have hxi : H' x = some (.ins C dx []) := A'.st.hh x _ ⟨fun p q z => (by cases z), tabs_ne iv.tb hx ins_tbl⟩ hx
    refine h S' _ xs A'.st.ss sht ⟨fun p q z => (by cases z), tabs_upd A'.iv.tb hxi ins_tbl ins_code, A'.iv.ts⟩ s'x (fun a o ne f e => ?_) A'.st.gr upd_same lx rx
    rw [upd_ne ne]
    exact A'.st.hh a o f e
  · intro ρ σ H' d a' hd
    obtain ⟨S', F', A'⟩ := a'
    exact h H' d (fun a o _ f e => A'.st.hh a o f e) A'.iv.tb hd
theorem eg_make {n : Nat} {Fi : FnI} (h : EvGA K b W c tx dx) (ln : LenIs n dx) : EvG K b W c (tMakeE C (spIG K C ns (n + 1) Fi) (WE W) tx) (dMake C ns Fi dx) := fun ρ σ H ps Q nv a q => by
  refine h ρ σ H ps _ nv a (G.good_mono (fun l ⟨hn, k⟩ H1 us hl a1 => ?_) (fun _ h => h) (ln ρ _ _ (G.good_bind.mp q)))
  clear q
  split at k
  · rename_i os ho
    obtain ⟨T, F, A, r⟩ := At.args hl ho a1
    intro x dx nx ndx nex
    have tx : T x = none := A.sh.free nx
    have up : ∀ a o, H1 a = some o → (upd (upd H1 dx (.own x)) x (.ins C dx [])) a = some o := fun a o e => by
      rw [upd_ne (ne_of_none e nx), upd_ne (ne_of_none e ndx)]
      exact e
    have tb1 : LamX.Tabs HasT.T0 (upd (upd H1 dx (.own x)) x (.ins C dx [])) := A.iv.tb.ext up
    have gr0 : ∀ {S' H' : Hp}, (∀ a o, S' a = some o → T a = some o ∨ (upd (upd H1 dx (.own x)) x (.ins C dx [])) a = none) → ∀ a o, S' a = some o → T a = some o ∨ H1 a = none := fun {S' H'} gr a o e => by
      rcases gr a o e with z | z
      · exact .inl z
      · right
        cases y : H1 a with
        | none => rfl
        | some u => rw [up a u y] at z; cases z
    have kx : ∀ {H' : Hp}, (∀ a o, a ≠ x → off ⟨none⟩ a → (upd (upd H1 dx (.own x)) x (.ins C dx [])) a = some o → H' a = some o) → KeepX H1 H' := fun {H'} k2 a o e n => k2 a o (ne_of_none e nx) ⟨fun p q z => (by cases z), tabs_ne A.iv.tb e n⟩ (up a o e)
    have hh0 : ∀ {H' : Hp}, (∀ a o, a ≠ x → off ⟨none⟩ a → (upd (upd H1 dx (.own x)) x (.ins C dx [])) a = some o → H' a = some o) → ∀ a o, off b.src a → H1 a = some o → H' a = some o := fun {H'} k2 a o f e => k2 a o (ne_of_none e nx) ⟨fun p q z => (by cases z), f.2⟩ (up a o e)
    refine ⟨by rw [List.length_cons, hl, hn], T, x, dx, us, (frzs os).map Sl.dat, rfl, fun a o e => up a o (A.sh a o e), ⟨fun p q z => (by cases z), tb1, A.iv.ts⟩, tx, upd_same, ?_, G.good_mono (fun fs k2 => ?_) (fun e k2 => ?_) (G.good_bind.mp k)⟩
    · exact paired_dat r
    · intro S' H' xs e1 e2 iv e3 k3 gr hx hl2 rx
      have A3 : AtS K b ρ σ (upd S' x (.ins C dx (ns.zip xs))) H' ps F := by
        refine A.step ⟨fun a o e => ?_, fun a o e => ?_, hh0 k3, fun a o e => ?_⟩ ⟨fun p q e => ?_, iv.tb, fun t m => ?_⟩
        · rw [upd_ne (ne_of_none e tx)]
          exact e1 a o e
        · by_cases ha : a = x
          · subst ha
            rw [upd_same] at e
            rw [← e]; exact hx
          · rw [upd_ne ha] at e
            exact e2 a o e
        · by_cases ha : a = x
          · subst ha
            exact .inr nx
          · rw [upd_ne ha] at e
            exact gr0 (H' := H') gr a o e
        · obtain ⟨dr0, h1, h2⟩ := A.iv.dr p q e
          have n1 := dr0.apart nx
          have f : ∀ a, H1 a ≠ none → T a = none → S' a = none := fun a n1 n2 => by
            cases z : S' a with
            | none => rfl
            | some o =>
              rcases gr0 (H' := H') gr a o z with w | w
              · rw [n2] at w; cases w
              · exact absurd w n1
          refine ⟨Dr.keepX dr0 (kx k3), ?_, ?_⟩
          · rw [upd_ne n1.1.symm]
            refine f p ?_ h1
            obtain ⟨cs, sti, g1, g2, _⟩ := dr0
            rw [g1]; nofun
          · rw [upd_ne n1.2.symm]
            refine f q ?_ h2
            obtain ⟨cs, sti, g1, g2, _⟩ := dr0
            rw [g2]; nofun
        · rw [upd_ne (A.iv.tne nx t m)]
          exact iv.ts t m
      exact ⟨rfl, k2 H' _ ⟨_, F, A3.pushD (.obj upd_same hl2 (Rps.same (same_new e3) _ _ rx))⟩⟩
    · intro H' d k3 tb hd
      refine thr_at k2 ⟨T, F, A.step ⟨Same.refl T, fun a o e => ?_, hh0 k3, fun a o e => .inl e⟩ ⟨fun p q e => ?_, tb, A.iv.ts⟩⟩ hd
      · have e' := A.sh a o e
        exact k3 a o (ne_of_none e' nx) ⟨fun p q z => (by cases z), fun t m z => by
          rw [z, A.iv.ts t m] at e
          cases e⟩ (up a o e')
      · obtain ⟨dr, h1, h2⟩ := A.iv.dr p q e
        exact ⟨Dr.keepX dr (kx k3), h1, h2⟩
  · cases k
section
variable {P : Program} {w : World} {mg : Str → Option Value} {base : Heap} {k n : Nat} {f0 : Addr} {fd : FuncData} {prm : List Str} {x : Str} {p : Pos} {Fi : FnI}
theorem pd_make (M : Mk K C f0) (G : FnE P w K mg base k f0 fd prm (spIG K C ns (n + 1) Fi)) (hP : X.prog = P) (hw : X.w = w) (hK : X.K = K) (hmg : X.mg = mg) (hB : X.base = base) (hg : X.A.guards = some []) (hr : Room (k + 1) X.A) (hgl : Gl X x)
    (hm : mg x = some (.ref C)) (hb : Binds K fd prm []) (tk : Takes X W) (ha : PDA K X W c (e :: es) tx dx) (hn : n = (e :: es).length)
    (hdb : (x == ("__debug__" : Str)) = false := by decide) (he : starEach (e :: es) X.env = (false, eval e X.env) :: starEach es X.env := by rfl) (hpl : (backTo pos (starEach es X.env)).any (·.1) = false := by rfl) :
    PD K X W c (.Call (.Name x p) (e :: es) [] pos) (tMakeE C (spIG K C ns (n + 1) Fi) (WE W) tx) (dMake C ns Fi dx) := by
  subst hP hw hK hmg hB hn
  exact ⟨pe_makeE M G hg hr hgl hm hb tk ha.pa hdb he hpl, fun b => eg_make (ha.ev b) ha.ln⟩
end
/-! ### == by an instance's own def -/
def rOwnE (K : PySem.W.Frag) (C : Addr) (sp : Sp) (E : XK) : R2 := fun x y H Q => ∃ a dx fs b C1 dy gs, x = .ref a ∧ y = .ref b ∧ H a = some (.ins C dx fs) ∧ H b = some (.ins C1 dy gs) ∧
  PySem.W.notFirst K C (.ref C1) = true ∧ sp [x, y] H Q E
end
end Ge

set_option maxHeartbeats 400000
namespace Ge
open PySem PySem.Spec PyProof.Rows L2 Sd
variable [HasT]
/-! ### list(range(..)) -/
theorem vals_of_items {lo : Int} : ∀ (n : Nat) (l : List Value), l.length = n → (∀ (j : Nat) v, l[j]? = some v → ∃ t, v = .int (lo + (j : Int) * 1) t) → Vals ((List.range n).map fun (i : Nat) => V.int (lo + i)) l := by
  intro n
  induction n with
  | zero =>
    intro l e _
    rw [List.length_eq_zero_iff.mp e]
    exact .nil
  | succ n ih =>
    intro l e h
    have hn : n < l.length := by omega
    have := ih (l.take n) (by rw [List.length_take]; omega) fun j v hj => h j v (by
      rw [List.getElem?_take] at hj
      split at hj
      · exact hj
      · cases hj)
    have el : l.take n ++ [l[n]] = l := by
      have e1 := List.take_add_one (l := l) (i := n)
      rw [List.getElem?_eq_getElem hn] at e1
      simp only [Option.toList_some] at e1
      rw [← e1]
      exact List.take_of_length_le (by omega)
    obtain ⟨t, et⟩ := h n _ (List.getElem?_eq_getElem hn)
    have key : Vals ((List.range (n + 1)).map fun (i : Nat) => V.int (lo + i)) (l.take n ++ [l[n]]) := by
      rw [List.range_succ, List.map_append]
      refine this.append (.cons ?_ .nil)
      rw [et]
      exact ⟨t, by rw [Int.mul_one]⟩
    rw [el] at key
    exact key
def rLstR : List V → Hp → VK → Prop := fun xs H Q => ∃ (r : Addr) (lo hi : Int), xs = [.ref r] ∧ H r = some (.rng lo hi) ∧ (-1000000 ≤ lo ∧ lo ≤ hi ∧ hi ≤ 1000000) ∧
  ∀ l, H l = none → Q (.ref l) (upd H l (.lst ((List.range (hi - lo).toNat).map fun (i : Nat) => V.int (lo + i))))
theorem call_lstR {X : Cx} (hc : X.calm = true) : CallR X (.type "list") rLstR := by
  rintro pins s σ H xs us Q I rv ⟨r, lo, hi, rfl, hr, ⟨b1, b2, b3⟩, q⟩
  obtain ⟨u, rfl, rfl⟩ := vals1 rv
  obtain ⟨t, u, v, g⟩ := (show ObjOk X.prog X.w H s.heap r (.rng lo hi) from I.hok r _ hr)
  refine call_list_range (n := (hi - lo).toNat) (I.ok.hd hc) g (small_one (by omega) (by omega) (by omega) (by omega)) ?_ ?_ fun h1 tk acc c hk ha it => ?_
  · rw [rangeSize_one]
    split <;> omega
  · have : (hi - lo).toNat ≤ 2000000 := by omega
    exact Nat.le_trans this (by decide)
  · have hn : H s.heap.objs.size = none := I.hok.fresh (Nat.le_refl _)
    have hv := vals_of_items (lo := lo) (hi - lo).toNat acc.toList (by rw [Array.length_toList]; exact it.1) fun j w hj => it.2 j w (by simpa using hj)
    refine ⟨.ref s.heap.objs.size, _, I.laid (t' := tk) (o := .lst ((List.range (hi - lo).toNat).map fun (i : Nat) => V.int (lo + i))) hk (Nat.le_refl _) ⟨?_, acc.toList, c, hv, ?_⟩, rfl, q _ hn⟩
    · rw [List.length_map, List.length_range]
      have : (hi - lo).toNat ≤ 2000000 := by omega
      exact Nat.le_trans this (by decide)
    · exact ha
def rRng : List V → Hp → VK → Prop := fun vs H Q => ∃ i j, vs = [V.int i, V.int j] ∧ ∀ p, H p = none → Q (.ref p) (upd H p (.rng i j))
def rRng1 : List V → Hp → VK → Prop := fun vs H Q => ∃ j, vs = [V.int j] ∧ ∀ p, H p = none → Q (.ref p) (upd H p (.rng 0 j))
theorem cr_range1 {X : Cx} : CallR X (.type "range") rRng1 := by
  intro pins s σ H vs us Q I r h
  obtain ⟨j, rfl, q⟩ := h
  obtain ⟨u2, rfl, rj⟩ := vals1 r
  obtain ⟨u, rfl⟩ := rj
  refine call_range_1 ⟨.ref s.heap.objs.size, upd H s.heap.objs.size (.rng 0 j), I.laid (fun b o e => Heap.get?_push_of_some _ e) (Nat.le_refl _) ?_, rfl, q _ (I.hok.fresh (Nat.le_refl _))⟩
  exact ⟨_, _, _, Heap.get?_push_size _ rfl⟩
def rngOk (lo hi : Int) : Bool := decide (-1000000 ≤ lo ∧ lo ≤ hi ∧ hi ≤ 1000000)
def lstR2F : OpN := fun l => match l with
  | [.val (.fz (.int lo)), .val (.fz (.int hi))] => if rngOk lo hi = true then some (.fresh (rngD lo hi)) else none
  | _ => none
def lstR1F : OpN := one fun s => match s with
  | .val (.fz (.int hi)) => if rngOk 0 hi = true then some (.fresh (rngD 0 hi)) else none
  | _ => none
section
variable {K : PySem.W.Frag} {b : Bs} {ρ : List Sl} {σ : L2.St} {S H S' H' : Hp} {ps : List (V × Sl)} {v : V} {s : Sl} {F f : List Addr} {d : Da} {X : Cx} {W : WX} {m c c1 c2 c3 : Bool}
  {e e1 e2 e3 tg : Expr} {es : List Expr} {te ta tb tc : TE} {tt tu : TT} {tx : TA} {da db dc : DE} {dt du : DB} {dx : DA} {pos pos' : Pos} {st : Stmt} {rest : List Stmt} {t1 t2 : TS} {d1 : DS}
theorem rps_rng {lo : Int} (n : Nat) : Rps K S ((List.range n).map fun (i : Nat) => V.int (lo + i)) ((List.range n).map fun (i : Nat) => Da.int (lo + i)) := by
  generalize List.range n = l
  induction l with
  | nil => exact .nil
  | cons i l ih => exact .cons (.int _) ih
theorem eg_cb2 {r r' : List V → Hp → VK → Prop} {f : OpN} (o : ∀ b l s, f l = some s → ∀ ρ σ H ps (Q : VK) us, us.length = l.length → At K b ρ σ H ((us.zip l).reverse ++ ps) → (∀ H' z, At K b ρ σ H' ((z, s) :: ps) → Q z H') → r us H fun v H1 => r' [v] H1 Q)
    (h : EvGA K b W c tx dx) : EvG K b W c (tCB r' (tCons (tCB r tx) tNil)) (dCB f dx) := fun ρ σ H ps Q nv a q => by
  refine h ρ σ H ps _ nv a (G.good_mono (fun l k H1 us hl a1 => ?_) (fun _ h => h) (G.good_bind.mp q))
  obtain ⟨z, ez, k⟩ := optG_some k
  exact o b _ z ez ρ σ H1 ps _ us hl a1 k
theorem ok_lstR2 : ∀ b l s, lstR2F l = some s → ∀ ρ σ H ps (Q : VK) us, us.length = l.length → At K b ρ σ H ((us.zip l).reverse ++ ps) → (∀ H' z, At K b ρ σ H' ((z, s) :: ps) → Q z H') → rRng us H fun v H1 => rLstR [v] H1 Q := fun b l s e ρ σ H ps Q us hl a q => by
  unfold lstR2F at e
  split at e
  · rename_i lo hi
    split at e
    · cases e
      rename_i ho
      have ho : -1000000 ≤ lo ∧ lo ≤ hi ∧ hi ≤ 1000000 := of_decide_eq_true ho
      match us, hl with
      | [x, y], _ =>
        have a' : At K b ρ σ H ((y, .dat (.int hi)) :: (x, .dat (.int lo)) :: ps) := a
        obtain rfl := a'.vInt
        obtain rfl := a'.drop.vInt
        obtain ⟨S, F, A⟩ := a'.drop2
        refine ⟨lo, hi, rfl, fun p np => ?_⟩
        have A1 := A.newH (o := .rng lo hi) np
        exact ⟨p, lo, hi, rfl, upd_same, ho, fun l nl => q _ _ ⟨_, _, A1.pushF nl (rps_rng _)⟩⟩
    · cases e
  · cases e
theorem ok_lstR1 : ∀ b l s, lstR1F l = some s → ∀ ρ σ H ps (Q : VK) us, us.length = l.length → At K b ρ σ H ((us.zip l).reverse ++ ps) → (∀ H' z, At K b ρ σ H' ((z, s) :: ps) → Q z H') → rRng1 us H fun v H1 => rLstR [v] H1 Q := fun b l s e ρ σ H ps Q us hl a q => by
  unfold lstR1F one at e
  split at e
  · dsimp only at e
    split at e
    · rename_i hi
      split at e
      · cases e
        rename_i ho
        have ho : -1000000 ≤ (0 : Int) ∧ 0 ≤ hi ∧ hi ≤ 1000000 := of_decide_eq_true ho
        match us, hl with
        | [x], _ =>
          have a' : At K b ρ σ H ((x, .dat (.int hi)) :: ps) := a
          obtain rfl := a'.vInt
          obtain ⟨S, F, A⟩ := a'.drop
          refine ⟨hi, rfl, fun p np => ?_⟩
          have A1 := A.newH (o := .rng 0 hi) np
          exact ⟨p, 0, hi, rfl, upd_same, ho, fun l nl => q _ _ ⟨_, _, A1.pushF nl (rps_rng _)⟩⟩
      · cases e
    · cases e
  · cases e
theorem b_listR2 {p p2 pos2 : Pos} {ea eb : Expr} (hc : X.calm = true) (hg : Gl X "list") (hm : X.mg "list" = none) (hg2 : Gl X "range") (hm2 : X.mg "range" = none) (ha : PDA K X W c [ea, eb] tx dx)
    (he : starEach [.Call (.Name "range" p2) [ea, eb] [] pos2] X.env = (false, eval (.Call (.Name "range" p2) [ea, eb] [] pos2) X.env) :: starEach [] X.env := by rfl) (he2 : starEach [ea, eb] X.env = (false, eval ea X.env) :: starEach [eb] X.env := by rfl) (hpl : (backTo pos (starEach [] X.env)).any (·.1) = false := by rfl) (hpl2 : (backTo pos2 (starEach [eb] X.env)).any (·.1) = false := by rfl) :
    PD K X W c (.Call (.Name "list" p) [.Call (.Name "range" p2) [ea, eb] [] pos2] [] pos) (tCB rLstR (tCons (tCB rRng tx) tNil)) (dCB lstR2F dx) :=
  ⟨pe_callTy (call_lstR hc) hg hm (by decide +kernel) (pa_cons (pe_callTy (show CallR X _ rRng from cr_range2) hg2 hm2 (by decide +kernel) ha.pa (by decide) (by decide) he2 hpl2) pa_nil he) (by decide) (by decide) he hpl, fun b => eg_cb2 ok_lstR2 (ha.ev b)⟩
theorem b_listR1 {p p2 pos2 : Pos} {ea : Expr} (hc : X.calm = true) (hg : Gl X "list") (hm : X.mg "list" = none) (hg2 : Gl X "range") (hm2 : X.mg "range" = none) (ha : PDA K X W c [ea] tx dx)
    (he : starEach [.Call (.Name "range" p2) [ea] [] pos2] X.env = (false, eval (.Call (.Name "range" p2) [ea] [] pos2) X.env) :: starEach [] X.env := by rfl) (he2 : starEach [ea] X.env = (false, eval ea X.env) :: starEach [] X.env := by rfl) (hpl : (backTo pos (starEach [] X.env)).any (·.1) = false := by rfl) (hpl2 : (backTo pos2 (starEach [] X.env)).any (·.1) = false := by rfl) :
    PD K X W c (.Call (.Name "list" p) [.Call (.Name "range" p2) [ea] [] pos2] [] pos) (tCB rLstR (tCons (tCB rRng1 tx) tNil)) (dCB lstR1F dx) :=
  ⟨pe_callTy (call_lstR hc) hg hm (by decide +kernel) (pa_cons (pe_callTy (show CallR X _ rRng1 from cr_range1) hg2 hm2 (by decide +kernel) ha.pa (by decide) (by decide) he2 hpl2) pa_nil he) (by decide) (by decide) he hpl, fun b => eg_cb2 ok_lstR1 (ha.ev b)⟩
/-! ### xs[::-1] -/
def revF (s : Sl) : Option Sl := match s.lds with
  | some ds => some (.fresh ds.reverse) | none => none
theorem rps_rev {xs : List V} {ds : List Da} (r : Rps K S xs ds) : Rps K S xs.reverse ds.reverse := by
  have key : ∀ {xs : List V} {ds : List Da} {ys : List V} {es : List Da}, Rps K S xs ds → Rps K S ys es → Rps K S (xs.reverseAux ys) (ds.reverseAux es) := by
    intro xs
    induction xs with
    | nil => intro ds ys es r q; cases r; exact q
    | cons x xs ih =>
      intro ds ys es r q
      cases r with
      | cons r t => exact ih (ds := _) (ys := x :: ys) (es := _ :: es) t (.cons r q)
  have := key r .nil
  rwa [List.reverseAux_eq, List.reverseAux_eq, List.append_nil, List.append_nil] at this
theorem eg_rev (h : EvG K b W c ta da) : EvG K b W c (tRevL K ta) (dUn revF da) := fun ρ σ H ps Q nv a q => by
  refine h ρ σ H ps _ nv a (G.good_mono (fun s k H1 x a1 => ?_) (fun _ h => h) (G.good_bind.mp q))
  obtain ⟨z, ez, k⟩ := optG_some k
  unfold revF at ez
  split at ez
  · cases ez
    rename_i ds hd
    obtain ⟨S, F, p, xs, A, rfl, g, r⟩ := a1.ldsAt hd
    exact ⟨p, xs, rfl, SqL.of g, fun l nl => k _ _ ⟨_, _, A.pushF nl (rps_rev r)⟩⟩
  · cases ez
theorem p_rev {kk : Nat} {p1 p2 p3 : Pos} (h : PD K X W c e ta da) (hK : X.K = K := by rfl) : PD K X W c (.Subscript e (.Slice none none (some (.UnaryOp .USub (.Constant (.int 1) kk p1) p2)) p3) pos) (tRevL K ta) (dUn revF da) :=
  ⟨by subst hK; exact pe_revL h.pe, fun b => eg_rev (h.ev b)⟩
/-! ### repr -/
def rReprA (K : PySem.W.Frag) : List V → Hp → VK → Prop := fun xs H Q => rRepr K xs H Q ∨ (∃ i, xs = [.int i] ∧ i.natAbs.log2 < 1920 ∧ Q (.str (toString i)) H) ∨ (xs = [.non] ∧ Q (.str "None") H) ∨ (∃ c, xs = [.bl c] ∧ Q (.str (if c = true then "True" else "False")) H) ∨
  (∃ z, xs = [.str z] ∧ (reprText z).length ≤ sizeLine ∧ Q (.str (reprText z)) H)
theorem call_reprA {X : Cx} (hg : X.A.guards = some []) (hu : X.A.units + 64 < cLine) : CallR X (.builtin "repr") (rReprA X.K) := by
  rintro pins s σ H xs us Q I rv (h | h | ⟨rfl, q⟩ | ⟨c, rfl, q⟩ | ⟨z, rfl, hz, q⟩)
  · exact call_repr hg hu pins s σ H xs us Q I rv h
  · exact SkE.call_repr_int pins s σ H xs us Q I rv h
  · obtain ⟨u, rfl, rfl⟩ := vals1 rv
    exact PySem.P.repr_of_none ⟨.str "None", H, I.tok _, ⟨_, rfl⟩, q⟩
  · obtain ⟨u, rfl, r⟩ := vals1 rv
    cases r
    exact PySem.P.repr_of_bool ⟨.str (if c = true then "True" else "False"), H, I.tok _, ⟨_, rfl⟩, q⟩
  · obtain ⟨u, rfl, t, rfl⟩ := vals1 rv
    exact PySem.P.repr_of_str (hsz := hz) ⟨.str (reprText z), H, I.tok _, ⟨_, rfl⟩, q⟩
def reprD (d : Da) : Option Str := match d with
  | .int i => if i.natAbs.log2 < 1920 then some (toString i) else none
  | .non => some "None"
  | .bl c => some (if c = true then "True" else "False")
  | .str z => if small (reprText z).length = true then some (reprText z) else none
  | d => if (d.lays 7 && d.py.showable && small d.py.shown.length) = true then some d.py.shown else none
def reprF : OpN := one fun s => match s.da with
  | some d => (match reprD d with | some z => some (.dat (.str z)) | none => none) | none => none
theorem ok_repr : OpCOk K (rReprA K) reprF := ok_one fun b s1 s e ρ σ H ps Q x a q => by
  split at e
  · rename_i d hd
    split at e
    · cases e
      rename_i z hz
      have r := a.rpH List.mem_cons_self hd
      have done := q H _ (a.drop.str z)
      unfold reprD at hz
      split at hz
      · split at hz
        · cases hz
          cases r
          exact .inr (.inl ⟨_, rfl, ‹_›, done⟩)
        · cases hz
      · cases hz
        cases r
        exact .inr (.inr (.inl ⟨rfl, done⟩))
      · cases hz
        cases r
        exact .inr (.inr (.inr (.inl ⟨_, rfl, done⟩)))
      · split at hz
        · cases hz
          rename_i hs
          cases r
          exact .inr (.inr (.inr (.inr ⟨_, rfl, small_line hs, done⟩)))
        · cases hz
      · split at hz
        · cases hz
          rename_i n1 n2 n3 n4 hs
          rw [Bool.and_eq_true, Bool.and_eq_true] at hs
          obtain ⟨⟨h1, h2⟩, h3⟩ := hs
          have dp := Rp.dp (Same.refl H) 7 d x h1 r
          obtain ⟨p, rfl⟩ : ∃ p, x = .ref p := by
            cases r with
            | tup _ _ => exact ⟨_, rfl⟩
            | lst _ _ => exact ⟨_, rfl⟩
            | non => exact absurd rfl n2
            | bl c => exact absurd rfl (n3 c)
            | int c => exact absurd rfl (n1 c)
            | str c => exact absurd rfl (n4 c)
            | raw _ => simp [Da.lays] at h1
            | obj _ _ _ => simp [Da.lays] at h1
            | dct _ _ => simp [Da.lays] at h1
            | scr _ => simp [Da.lays] at h1
          exact .inl ⟨p, _, rfl, dp, h2, PyData.hasDict_of_canLay _ (lays_flat 7 d h1).1, Nat.le_trans (lays_flat 7 d h1).2 (by decide), small_line h3, done⟩
        · cases hz
    · cases e
  · cases e
theorem b_repr {p : Pos} (hgu : X.A.guards = some []) (hu : X.A.units + 64 < cLine) (hg : Gl X "repr") (hm : X.mg "repr" = none) (ha : PDA K X W c (e :: es) tx dx) (hK : X.K = K := by rfl) (he : starEach (e :: es) X.env = (false, eval e X.env) :: starEach es X.env := by rfl) (hpl : (backTo pos (starEach es X.env)).any (·.1) = false := by rfl) :
    PD K X W c (.Call (.Name "repr" p) (e :: es) [] pos) (tCB (rReprA K) tx) (dCB reprF dx) := pd_cb ok_repr ha (pe_callB (show CallR X (.builtin "repr") _ by subst hK; exact call_reprA hgu hu) hg hm (by decide +kernel) ha.pa (by decide) (by decide) he hpl)
end
end Ge

set_option maxHeartbeats 400000
namespace Ge
open PySem PySem.Spec PyProof.Rows L2 Sd
variable [HasT]
/-! ### sorted(texts) -/
def sLe (x y : Str) : Bool := decide (x.cps.toList ≤ y.cps.toList)
def sortT (l : List Str) : List Str := l.mergeSort sLe
def sortSF : OpN := one fun s => match s.lds with
  | some ds => (match strsD ds with | some l => if l.length < 64 then some (.fresh ((sortT l).map .str)) else none | none => none) | none => none
theorem cps_inj {x y : Str} (h : x.cps.toList = y.cps.toList) : x = y := by
  cases x
  cases y
  exact congrArg Str.mk (Array.toList_inj.mp h)
theorem rising_pw : ∀ (r : List Str) (x : Str), risingS x r = true → (x :: r).Pairwise fun a b => a.cps.toList ≤ b.cps.toList
  | [], x, _ => by simp
  | y :: r, x, h => by
    simp only [risingS, Bool.and_eq_true, Bool.not_eq_true'] at h
    have ih := rising_pw r y h.2
    have xy : x.cps.toList ≤ y.cps.toList := by
      have := h.1
      rw [ltCps_eq] at this
      exact of_decide_eq_false this
    refine List.pairwise_cons.mpr ⟨fun z m => ?_, ih⟩
    rcases List.mem_cons.mp m with rfl | m
    · exact xy
    · exact List.le_trans xy ((List.pairwise_cons.mp ih).1 z m)
theorem sorted_pw {l : List Str} (h : sortedS l = true) : l.Pairwise fun a b => a.cps.toList ≤ b.cps.toList := by
  cases l with
  | nil => exact .nil
  | cons x r => exact rising_pw r x h
theorem sortT_perm (l : List Str) : (sortT l).Perm l := List.mergeSort_perm l _
theorem sortT_pw (l : List Str) : (sortT l).Pairwise fun a b => a.cps.toList ≤ b.cps.toList := by
  have := List.pairwise_mergeSort (le := sLe) (fun a b c h1 h2 => decide_eq_true (List.le_trans (of_decide_eq_true h1) (of_decide_eq_true h2))) (fun a b => by
    rw [Bool.or_eq_true]
    rcases List.le_total a.cps.toList b.cps.toList with h | h
    · exact .inl (decide_eq_true h)
    · exact .inr (decide_eq_true h)) l
  exact this.imp fun h => of_decide_eq_true h
theorem sortT_eq {l l' : List Str} (p : l'.Perm l) (w : l'.Pairwise fun a b => a.cps.toList ≤ b.cps.toList) : l' = sortT l := List.Perm.eq_of_pairwise (le := fun a b : Str => a.cps.toList ≤ b.cps.toList) (fun a b _ _ h1 h2 => cps_inj (List.le_antisymm h1 h2)) w (sortT_pw l) (p.trans (sortT_perm l).symm)
/-! ### sorted(set(pairs)) -/
def pairD : List Da → Option (List (Int × Int))
  | [] => some []
  | .tup [.int i, .int j] :: r => match pairD r with | some l => some ((i, j) :: l) | none => none
  | _ :: _ => none
def pairDa (p : Int × Int) : Da := .tup [.int p.1, .int p.2]
def pLe (p q : Int × Int) : Bool := decide (p.1 < q.1 ∨ (p.1 = q.1 ∧ p.2 ≤ q.2))
/-- each once -/
def nubP : List (Int × Int) → List (Int × Int)
  | [] => []
  | p :: l => if p ∈ nubP l then nubP l else p :: nubP l
theorem nubP_mem : ∀ (l : List (Int × Int)) (p : Int × Int), p ∈ nubP l ↔ p ∈ l
  | [], p => Iff.rfl
  | q :: l, p => by
    unfold nubP
    split
    · rename_i h
      rw [nubP_mem l p, List.mem_cons]
      refine ⟨.inr, fun h2 => h2.elim (fun e => ?_) id⟩
      subst e
      exact (nubP_mem l p).mp h
    · rw [List.mem_cons, List.mem_cons, nubP_mem l p]
theorem nubP_nd : ∀ l : List (Int × Int), (nubP l).Nodup
  | [] => .nil
  | q :: l => by
    unfold nubP
    split
    · exact nubP_nd l
    · exact List.nodup_cons.mpr ⟨‹_›, nubP_nd l⟩
def sortP (l : List (Int × Int)) : List (Int × Int) := (nubP l).mergeSort pLe
def inB64 (p : Int × Int) : Bool := decide ((0 ≤ p.1 ∧ p.1 < 64) ∧ 0 ≤ p.2 ∧ p.2 < 64)
def sortSetF : OpN := one fun s => match s.lds with
  | some ds => (match pairD ds with | some l => if (decide (l.length < 64) && l.all inB64) = true then some (.fresh ((sortP l).map pairDa)) else none | none => none) | none => none
theorem pairD_eq : ∀ {ds : List Da} {l : List (Int × Int)}, pairD ds = some l → ds = l.map pairDa
  | [], l, h => by
    cases h
    rfl
  | d :: r, l, h => by
    unfold pairD at h
    split at h
    · cases ‹_ = []›
    · rename_i e
      cases e
      split at h
      · cases h
        rename_i l' hl
        rw [pairD_eq hl]
        rfl
      · cases h
    · cases h
/-- strictly rising pairs -/
def PLt (p q : Int × Int) : Prop := p.1 < q.1 ∨ (p.1 = q.1 ∧ p.2 < q.2)
theorem plt_trans {p q r : Int × Int} (h1 : PLt p q) (h2 : PLt q r) : PLt p r := by
  unfold PLt at *
  omega
theorem plt_irrefl {p : Int × Int} (h : PLt p p) : False := by
  unfold PLt at h
  omega
theorem rising_unique : ∀ {l m : List (Int × Int)}, l.Pairwise PLt → m.Pairwise PLt → (∀ p, p ∈ l ↔ p ∈ m) → l = m
  | [], [], _, _, _ => rfl
  | [], q :: m, _, _, h => absurd ((h q).mpr List.mem_cons_self) List.not_mem_nil
  | p :: l, [], _, _, h => absurd ((h p).mp List.mem_cons_self) List.not_mem_nil
  | p :: l, q :: m, h1, h2, h => by
    obtain ⟨a1, a2⟩ := List.pairwise_cons.mp h1
    obtain ⟨b1, b2⟩ := List.pairwise_cons.mp h2
    have e : p = q := by
      rcases List.mem_cons.mp ((h p).mp List.mem_cons_self) with e | m1
      · exact e
      · rcases List.mem_cons.mp ((h q).mpr List.mem_cons_self) with e | m2
        · exact e.symm
        · exact (plt_irrefl (plt_trans (b1 p m1) (a1 q m2))).elim
    subst e
    rw [rising_unique a2 b2 fun x => ⟨fun mx => ?_, fun mx => ?_⟩]
    · rcases List.mem_cons.mp ((h x).mp (List.mem_cons_of_mem _ mx)) with rfl | m
      · exact (plt_irrefl (a1 x mx)).elim
      · exact m
    · rcases List.mem_cons.mp ((h x).mpr (List.mem_cons_of_mem _ mx)) with rfl | m
      · exact (plt_irrefl (b1 x mx)).elim
      · exact m
theorem sortP_mem (l : List (Int × Int)) (p : Int × Int) : p ∈ sortP l ↔ p ∈ l := by
  unfold sortP
  rw [(List.mergeSort_perm _ _).mem_iff, nubP_mem]
theorem sortP_rise (l : List (Int × Int)) : (sortP l).Pairwise PLt := by
  have h1 := List.pairwise_mergeSort (le := pLe) (fun a b c h1 h2 => by
    unfold pLe at *
    rw [decide_eq_true_eq] at *
    omega) (fun a b => by
    unfold pLe
    rw [Bool.or_eq_true, decide_eq_true_eq, decide_eq_true_eq]
    omega) (nubP l)
  have h2 : (sortP l).Nodup := (List.mergeSort_perm _ _).nodup_iff.mpr (nubP_nd l)
  refine (h1.and h2).imp fun {a b} h => ?_
  obtain ⟨h3, h4⟩ := h
  unfold pLe at h3
  rw [decide_eq_true_eq] at h3
  unfold PLt
  rcases h3 with h | ⟨e, h⟩
  · exact .inl h
  · refine .inr ⟨e, ?_⟩
    rcases Int.lt_or_eq_of_le h with h | h
    · exact h
    · exact absurd (Prod.ext e h) h4
section
variable {K : PySem.W.Frag} {b : Bs} {ρ : List Sl} {σ : L2.St} {S H S' H' : Hp} {ps : List (V × Sl)} {v : V} {s : Sl} {F f : List Addr} {d : Da} {X : Cx} {W : WX} {m c c1 c2 c3 : Bool}
  {e e1 e2 e3 tg : Expr} {es : List Expr} {te ta tb tc : TE} {tt tu : TT} {tx : TA} {da db dc : DE} {dt du : DB} {dx : DA} {pos pos' : Pos} {st : Stmt} {rest : List Stmt} {t1 t2 : TS} {d1 : DS}
theorem rps_strs' : ∀ (l : List Str), Rps K S (l.map V.str) (l.map Da.str)
  | [] => .nil
  | x :: l => .cons (.str x) (rps_strs' l)
theorem ok_sortS : OpCOk K (rSortedS K) sortSF := ok_one fun b s1 s e ρ σ H ps Q x a q => by
  split at e
  · rename_i ds h
    split at e
    · rename_i l hl
      split at e
      · cases e
        rename_i h64
        obtain ⟨S, F, p, xs, A, rfl, g, r⟩ := a.ldsAt h
        obtain rfl := rps_strs r hl
        refine ⟨p, l, rfl, SqL.of g, h64, fun l' p' pm so np => ?_⟩
        rw [sortT_eq pm (sorted_pw so)]
        exact q _ _ ⟨S, _, A.pushF np (rps_strs' _)⟩
      · cases e
    · cases e
  · cases e
theorem b_sortedS {p : Pos} (hg : Gl X "sorted") (hm : X.mg "sorted" = none) (ha : PDA K X W c (e :: es) tx dx) (hK : X.K = K := by rfl) (he : starEach (e :: es) X.env = (false, eval e X.env) :: starEach es X.env := by rfl) (hpl : (backTo pos (starEach es X.env)).any (·.1) = false := by rfl) :
    PD K X W c (.Call (.Name "sorted" p) (e :: es) [] pos) (tCB (rSortedS K) tx) (dCB sortSF dx) := pd_cb ok_sortS ha (pe_callB (show CallR X (.builtin "sorted") _ by subst hK; exact cr_sortedS) hg hm (by decide +kernel) ha.pa (by decide) (by decide) he hpl)
theorem rps_pairs : ∀ {ps : List (Int × Int)} {xs : List V}, Rps K S xs (ps.map pairDa) → ∃ ks : List (Addr × List Int), xs = ks.map (fun p => V.ref p.1) ∧ ks.map (·.2) = ps.map (fun p => [p.1, p.2]) ∧ ∀ k ∈ ks, SqT K S k.1 (k.2.map V.int)
  | [], _, .nil => ⟨[], rfl, rfl, by simp⟩
  | p :: ps, _, .cons r t => by
    obtain ⟨ks, rfl, e2, h⟩ := rps_pairs t
    cases r with
    | tup hs ha =>
      cases ha with
      | cons r1 ha =>
        cases ha with
        | cons r2 ha =>
          cases ha
          cases r1
          cases r2
          refine ⟨(_, [p.1, p.2]) :: ks, rfl, by rw [List.map_cons, List.map_cons, e2], fun k m => ?_⟩
          rcases List.mem_cons.mp m with rfl | m
          · exact hs
          · exact h k m
theorem pair_rps {ks : List (Addr × List Int)} {ps : List (Int × Int)} (h : ∀ k ∈ ks, SqT K S k.1 (k.2.map V.int)) (e : ks.map (·.2) = ps.map (fun p => [p.1, p.2])) : Rps K S (ks.map fun p => V.ref p.1) (ps.map pairDa) := by
  induction ks generalizing ps with
  | nil => cases ps with
    | nil => exact .nil
    | cons _ _ => simp at e
  | cons k ks ih => cases ps with
    | nil => simp at e
    | cons p ps =>
      simp only [List.map_cons, List.cons.injEq] at e
      refine .cons ?_ (ih (fun k m => h k (List.mem_cons_of_mem _ m)) e.2)
      have := h k List.mem_cons_self
      rw [e.1] at this
      exact .tup this (.cons (.int _) (.cons (.int _) .nil))
theorem ok_sortSet {P0 : Program} {w0 : World} : ∀ b l s, sortSetF l = some s → ∀ ρ σ H ps (Q : VK) us, us.length = l.length → At K b ρ σ H ((us.zip l).reverse ++ ps) → (∀ H' z, At K b ρ σ H' ((z, s) :: ps) → Q z H') → rSetOfT K P0 w0 us H fun v H1 => rSortedT K P0 w0 [v] H1 Q := fun b l s e ρ σ H ps Q us hl a q => by
  unfold sortSetF one at e
  split at e
  · dsimp only at e
    split at e
    · rename_i s1 _ ds hd
      split at e
      · rename_i qs hq
        split at e
        · cases e
          rename_i hc
          rw [Bool.and_eq_true] at hc
          have h64 : qs.length < 64 := of_decide_eq_true hc.1
          have hb : ∀ p ∈ qs, (0 ≤ p.1 ∧ p.1 < 64) ∧ 0 ≤ p.2 ∧ p.2 < 64 := fun p m => of_decide_eq_true (List.all_eq_true.mp hc.2 p m)
          obtain rfl := pairD_eq hq
          match us, hl with
          | [u], _ =>
            obtain ⟨S, F, p, xs, A0, rfl, g, r⟩ := At.ldsAt (show At K b ρ σ H ((u, s1) :: ps) from a) hd
            obtain ⟨ks, rfl, e2, hk⟩ := rps_pairs r
            have lk : ks.length = qs.length := by
              have := congrArg List.length e2
              simpa using this
            refine ⟨p, ks, rfl, SqL.of g, fun k m => seqT A0.sh (hk k m), by rw [lk]; exact h64, fun a L na sub cov => ?_⟩
            have A1 := A0.newH (o := SetTO P0 w0 a L) na
            have inL : ∀ k ∈ L, ∃ x ∈ qs, k.2 = [x.1, x.2] := fun k m => by
              have : k.2 ∈ ks.map (·.2) := List.mem_map_of_mem (sub k m)
              rw [e2] at this
              obtain ⟨x, mx, ex⟩ := List.mem_map.mp this
              exact ⟨x, mx, ex.symm⟩
            have bd : ∀ x ∈ qs, TS.Bd 64 [x.1, x.2] := fun x mx => by
              obtain ⟨h1, h2⟩ := hb x mx
              intro m mm
              simp only [List.mem_cons, List.not_mem_nil, or_false] at mm
              rcases mm with rfl | rfl
              · exact h1
              · exact h2
            refine ⟨a, L, 2, 64, rfl, upd_same, fun k m => seqT A1.sh (hk k (sub k m)), by decide, fun k m => ?_, fun L' p' pm nd _ pw np => ?_⟩
            · obtain ⟨x, mx, ex⟩ := inL k m
              rw [ex]
              exact ⟨rfl, bd x mx⟩
            · -- the pairs of L'
              obtain ⟨rs, er⟩ : ∃ rs : List (Int × Int), L'.map (·.2) = rs.map (fun p => [p.1, p.2]) := by
                have : ∀ M : List (Addr × List Int), (∀ k ∈ M, ∃ x ∈ qs, k.2 = [x.1, x.2]) → ∃ rs : List (Int × Int), M.map (·.2) = rs.map (fun p => [p.1, p.2]) := fun M => by
                  induction M with
                  | nil => exact fun _ => ⟨[], rfl⟩
                  | cons k M ih =>
                    intro hM
                    obtain ⟨rs, er⟩ := ih fun k m => hM k (List.mem_cons_of_mem _ m)
                    obtain ⟨x, _, ex⟩ := hM k List.mem_cons_self
                    exact ⟨x :: rs, by rw [List.map_cons, List.map_cons, er, ex]⟩
                exact this L' fun k m => inL k (pm.mem_iff.mp m)
              have mem : ∀ x, x ∈ rs ↔ x ∈ qs := fun x => by
                have inj : ∀ {y z : Int × Int}, [y.1, y.2] = [z.1, z.2] → y = z := fun {y z} h => by
                  simp only [List.cons.injEq, and_true] at h
                  exact Prod.ext h.1 h.2
                constructor
                · intro m
                  have : [x.1, x.2] ∈ L'.map (·.2) := by rw [er]; exact List.mem_map_of_mem (f := fun p : Int × Int => [p.1, p.2]) m
                  obtain ⟨k, mk, ek⟩ := List.mem_map.mp this
                  obtain ⟨y, my, ey⟩ := inL k (pm.mem_iff.mp mk)
                  rw [inj (ek.symm.trans ey)]
                  exact my
                · intro m
                  have : [x.1, x.2] ∈ ks.map (·.2) := by rw [e2]; exact List.mem_map_of_mem (f := fun p : Int × Int => [p.1, p.2]) m
                  obtain ⟨k, mk, ek⟩ := List.mem_map.mp this
                  have := cov k mk
                  rw [ek] at this
                  have : [x.1, x.2] ∈ L'.map (·.2) := (pm.map (·.2)).mem_iff.mpr this
                  rw [er] at this
                  obtain ⟨y, my, ey⟩ := List.mem_map.mp this
                  rw [← inj ey]
                  exact my
              have rise : rs.Pairwise PLt := by
                have h1 : (rs.map (fun p : Int × Int => [p.1, p.2])).Pairwise (fun x y => TS.code 64 x ≤ TS.code 64 y) := by
                  rw [← er]
                  exact List.pairwise_map.mpr pw
                have h2 : (rs.map (fun p : Int × Int => [p.1, p.2])).Nodup := er ▸ nd
                have h3 := (List.pairwise_map.mp h1).and (List.pairwise_map.mp h2)
                refine h3.imp_of_mem fun {x y} mx my h => ?_
                have bx := hb x ((mem x).mp mx)
                have b_y := hb y ((mem y).mp my)
                exact pair_lt h.1 h.2 bx.1 bx.2 b_y.1 b_y.2
              have ers : rs = sortP qs := rising_unique rise (sortP_rise _) fun p => by rw [mem, sortP_mem]
              rw [← ers] at q
              exact q _ _ ⟨_, _, A1.pushF np (pair_rps (fun k m => hk k (sub k (pm.mem_iff.mp m))) er)⟩
        · cases e
      · cases e
    · cases e
  · cases e
theorem b_sortSet {p p2 pos2 : Pos} {ea : Expr} (hc : X.calm = true) (hu : X.A.units + 64 < cLine) (hg : Gl X "sorted") (hm : X.mg "sorted" = none) (hg2 : Gl X "set") (hm2 : X.mg "set" = none) (ha : PDA K X W c [ea] tx dx) (hK : X.K = K := by rfl)
    (he : starEach [.Call (.Name "set" p2) [ea] [] pos2] X.env = (false, eval (.Call (.Name "set" p2) [ea] [] pos2) X.env) :: starEach [] X.env := by rfl) (he2 : starEach [ea] X.env = (false, eval ea X.env) :: starEach [] X.env := by rfl) (hpl : (backTo pos (starEach [] X.env)).any (·.1) = false := by rfl) (hpl2 : (backTo pos2 (starEach [] X.env)).any (·.1) = false := by rfl) :
    PD K X W c (.Call (.Name "sorted" p) [.Call (.Name "set" p2) [ea] [] pos2] [] pos) (tCB (rSortedT K X.prog X.w) (tCons (tCB (rSetOfT K X.prog X.w) tx) tNil)) (dCB sortSetF dx) :=
  ⟨pe_callB (show CallR X (.builtin "sorted") _ by subst hK; exact cr_sortedT hc) hg hm (by decide +kernel) (pa_cons (pe_callTy (show CallR X (.type "set") (rSetOfT K X.prog X.w) by subst hK; exact cr_setOfT hc hu) hg2 hm2 (by decide +kernel) ha.pa (by decide) (by decide) he2 hpl2) pa_nil he) (by decide) (by decide) he hpl, fun b => eg_cb2 ok_sortSet (ha.ev b)⟩
/-! ### == by an instance's own def -/
def dOwn (C : Addr) (Fn0 : Fn) (a b : DE) : DE := fun ρ => (a ρ).bind fun s => (b ρ).bind fun t => match s, t with
  | .val (.fz (.obj C1 n1 d1)), .val (.fz (.obj C2 n2 d2)) => if (decide (C1 = C) && decide (C2 = C)) = true then (Fn0 [.dat (.obj C1 n1 d1), .dat (.obj C2 n2 d2)]).calm else .fail
  | _, _ => .fail
theorem op_ownE {n : Nat} {C g : Addr} {fd : FuncData} {prm : List Str} {sp : Sp} {op : CmpOp} (hop : ∀ a b, compareOp op a b = richCompare op a b) (hs : PySem.W.findIn X.K (.ref C) (cmpInfo op).2.1 = some (some (.ref g)))
    (hf : PySem.W.isFn X.K (.ref g) = true) (Fe : FnE X.prog X.w X.K X.mg X.base n g fd prm sp) (hb : Binds X.K fd prm []) (hg : X.A.guards = some []) (hr : Room n X.A) : OpR X (compareOp op) (rOwnE X.K C sp fun _ _ _ => False) := by
  rintro pins s σ H x y v u Q I rx ry ⟨a, dx, fs, b, C1, dy, gs, rfl, rfl, ha, hb', hn, q⟩
  obtain rfl : v = Value.ref a := rx
  obtain rfl : u = Value.ref b := ry
  obtain ⟨m1, O1, _⟩ := ins_get I.hok ha
  obtain ⟨m2, O2, _⟩ := ins_get I.hok hb'
  obtain ⟨o1, J1, _⟩ := O1.look
  obtain ⟨o2, J2, _⟩ := O2.look
  obtain ⟨m, hF⟩ := I.fr
  rw [hop]
  refine PySem.W.cmp_K (op := op) (tb := .ref C1) hr.units0 hF I.ok.mod.kin J1 J2.type hn hs hf ?_
  have rv : Vals [V.ref a, V.ref b] [Value.ref a, Value.ref b] := .cons rfl (.cons rfl .nil)
  have hl : [Value.ref a, Value.ref b].length = prm.length := by rw [← rv.length]; exact Fe.len _ _ _ _ q
  have bd := hb s [.ref a, .ref b] I.kIn (by rw [List.append_nil]; exact hl)
  rw [List.append_nil] at bd
  refine wpAny_call (codeAny_mono (Fe.go X.A X.stack s H ⟨[.ref a, .ref b], []⟩ [.ref a, .ref b] _ Q _ hg hr I.env0 bd rv q) ?_)
  intro res s' hq
  cases res with
  | error e => exact absurd hq (by rintro ⟨_, _, _, _, _, _, h⟩; exact h.2.2.2.2.2.2)
  | ok fl => cases fl with
    | ret u =>
      obtain ⟨z, H1, I1, rz, qz⟩ := I.after hq
      exact SlX.cmpback rz ⟨z, H1, I1, rz, qz⟩
    | next => cases hq
    | brk => cases hq
    | cont => cases hq
theorem eg_own {C : Addr} {Fn0 : Fn} (h1 : EvG K b W c ta da) (h2 : EvG K b W false tb db) : EvG K b W c (tOp (rOwnE K C (spG K 2 Fn0) fun _ _ _ => False) ta tb) (dOwn C Fn0 da db) := fun ρ σ H ps Q nv a q => by
  refine h1 ρ σ H ps _ nv a (G.good_mono (fun s k H1 x a1 => ?_) (fun _ h => h) (G.good_bind.mp q))
  refine h2 ρ σ H1 _ _ nofun a1 (G.good_mono (fun s2 k2 H2 y a2 => ?_) (fun _ h => h.drop) (G.good_bind.mp k))
  split at k2
  · split at k2
    · rename_i C1 n1 d1 C2 n2 d2 hc
      rw [Bool.and_eq_true] at hc
      obtain rfl : C1 = C := of_decide_eq_true hc.1
      obtain rfl : C2 = C1 := of_decide_eq_true hc.2
      obtain ⟨S, F, A⟩ := id a2
      have r2 := A.rpD List.mem_cons_self
      have r1 := A.rpD (List.mem_cons_of_mem _ List.mem_cons_self)
      obtain ⟨F', A'⟩ := A.tl
      obtain ⟨F2, A2⟩ := A'.tl
      cases id r1 with
      | obj g1 l1 q1 =>
        cases id r2 with
        | obj g2 l2 q2 =>
          refine ⟨_, _, _, _, _, _, _, rfl, rfl, A.sh _ _ g1, A.sh _ _ g2, by unfold PySem.W.notFirst; simp, ?_⟩
          exact call_go (ss := [.dat (.obj C2 n1 d1), .dat (.obj C2 n2 d2)]) A2 rfl (.cons ⟨⟨_, rfl, .fz r1⟩, rfl⟩ (.cons ⟨⟨_, rfl, .fz r2⟩, rfl⟩ .nil)) (G.good_mono (fun s k H' v a => k H' v a) (fun _ h => h.elim) (G.good_calm k2))
    · cases k2
  · cases k2
section
variable {P : Program} {w : World} {mg : Str → Option Value} {base : Heap} {k : Nat} {C g : Addr} {fd : FuncData} {prm : List Str} {Fn0 : Fn}
theorem pd_own (hm : behindInMarks .Eq e2 = false) (Fe : FnE P w K mg base k g fd prm (spG K 2 Fn0)) (hP : X.prog = P) (hw : X.w = w) (hK : X.K = K) (hmg : X.mg = mg) (hB : X.base = base) (hg : X.A.guards = some []) (hr : Room k X.A)
    (M : Meth K C "__eq__" g) (hb : Binds K fd prm []) (h1 : PD K X W c e1 ta da) (h2 : PD K X W false e2 tb db) : PD K X W c (.Compare e1 [.Eq] [e2] pos) (tOp (rOwnE K C (spG K 2 Fn0) fun _ _ _ => False) ta tb) (dOwn C Fn0 da db) := by
  subst hP hw hK hmg hB
  exact ⟨pe_cmpR (op_ownE (fun _ _ => rfl) M.at_ M.fn Fe hb hg hr) h1.pe h2.pe hm, fun b => eg_own (h1.ev b) (h2.ev b)⟩
end
/-! ### name += int -/
def dAug (i : Nat) (f : Int → Int → Int) (a : DE) : DS := fun ρ => match get ρ i with
  | .val (.fz (.int x)) => (a ρ).bind fun s => match s with
    | .val (.fz (.int y)) => .pure (.nx (ρ.set i (.dat (.int (f x y))))) | _ => .fail
  | _ => .fail
theorem nf_nil {C : Addr} : ∀ p ∈ ([] : List (Str × Nat)), NoAttr K C p.1 := fun p m => by cases m
theorem nf_cons {C : Addr} {f : Str} {i : Nat} {fl : List (Str × Nat)} (h : NoAttr K C f) (t : ∀ p ∈ fl, NoAttr K C p.1) : ∀ p ∈ (f, i) :: fl, NoAttr K C p.1 := fun p m => by
  rcases List.mem_cons.mp m with rfl | m
  · exact h
  · exact t p m
end
end Ge

set_option maxHeartbeats 400000
namespace Ge
open PySem PySem.Spec PyProof.Rows L2 Sd
variable [HasT]
/-! ### the law: its first statement makes the source of draws -/
/-- the source of draws that a script makes -/
def spHeap (K : PySem.W.Frag) : Sp := fun vs H Q _ => ∃ (a : Addr) (ns : List Int), vs = [.ref a] ∧ SqL K H a (ns.map V.int) ∧
  ∀ H' p q, Same H H' → H p = none → H q = none → Dr H' p q → Q (.ref p) H'
def spLaw (K : PySem.W.Frag) : Sp := fun vs H Q _ => ∃ (a : Addr) (ns : List Int), vs = [.ref a] ∧ SqL K H a (ns.map V.int) ∧ ns.length ≤ 63 ∧
  (∀ z ∈ ns, Builtin.Int.intBits z ≤ 1048576) ∧ LamX.Tabs HasT.T0 H ∧ ∀ H1, Q (.bl true) H1
/-- what the law comes to: n slots, the script in 0, the source in 1 -/
def lawG (n : Nat) (D : DS) (ns : List Int) : G Sl := (D (.dat (.scr ns) :: .src :: List.replicate n .no)).bind fun o => match o with
  | .rt s => .pure s | _ => .fail
def SaysTrue (g : G Sl) : Prop := g.good (fun s => s = .dat (.bl true)) fun _ => False
theorem law_den {P : Program} {w : World} {K : PySem.W.Frag} {mg : Str → Option Value} {base : Heap} {x0 qual prm : Str} {st : Stmt} {f : Addr} {fd : FuncData} {N : List Str} {k n : Nat} {D : DS} {s1 : Stmt} {rest : List Stmt}
    (Fd : Fun K x0 qual st f fd) (Sc : FnScope N [prm] (defScope st)) (hn : N.length = n + 2) (hst : defBody st = s1 :: rest)
    (hbody : ∀ (cdv : Value), fd.code = cdv → ∀ (A : Around) (outer : List Env) (s : Shared) (H : Hp) (E : XK),
      A.guards = some [] → Room k (A.deeper (envOfC qual (defScope st) s.heap.objs.size f cdv)) →
      ∃ t E0, PS (cxOf (L2.CX P w) P w K mg base N qual (defScope st) f cdv A outer s H E) s1 (tAsg (tCallE (spHeap K) E0 (tCons (tVar 0) tNil)) (gName 1)) ∧
        PDSs K (cxOf (L2.CX P w) P w K mg base N qual (defScope st) f cdv A outer s H E) (WW E) rest t D)
    (hD : ∀ ns : List Int, ns.length ≤ 63 → SaysTrue (lawG n D ns)) :
    FnE P w K mg base (k + 1) f fd [prm] (spLaw K) := by
  refine fn_e Fd Sc (fun vs H Q E ⟨a, ns, e, _⟩ => by rw [e]; rfl) fun cdv hcv A outer s H vs Q E hg hr hsp => ?_
  obtain ⟨t, E0, p1, h2⟩ := hbody cdv hcv A outer s H E hg hr
  rw [hst]
  refine ⟨_, pss_cons p1 h2.ps, ?_⟩
  obtain ⟨a, ns, rfl, hS, hlen, _, hT, hq⟩ := hsp
  have e0 : L2.start N [V.ref a] = some (.ref a) :: none :: List.replicate n none := by
    unfold L2.start
    rw [hn]
    rfl
  rw [e0]
  refine ⟨_, rfl, a, ns, rfl, hS, fun H1 p q sm np nq dr => ?_⟩
  have apart : ∀ c, H c ≠ none → c ≠ p ∧ c ≠ q := fun c hc => ⟨fun z => hc (by rw [z]; exact np), fun z => hc (by rw [z]; exact nq)⟩
  show t _ (some (.ref a) :: some (.ref p) :: List.replicate n none) H1
  have hSa : SqL K (noT H) a (ns.map V.int) := seqLx (keepX_noT hT) hS
  have A0 : AtS K ⟨⟨some (p, q)⟩, noT H, H1, none⟩ (.dat (.scr ns) :: .src :: List.replicate n .no) (some (.ref a) :: some (.ref p) :: List.replicate n none) (noT H) H1 [] [] := by
    refine ⟨Step.refl (noT_same.trans sm), ⟨fun p' q' e => ?_, hT.ext sm, fun t m => ?_⟩, ?_, fun a m => by rw [List.count_nil] at m; omega, fun s m => ?_⟩
    · cases e
      exact ⟨dr, noT_none np, noT_none nq⟩
    · exact noT_at m
    · have tl : ∀ n : Nat, Ents K ⟨⟨some (p, q)⟩, noT H, H1, none⟩ (noT H) H1 (List.replicate n none) (List.replicate n .no) [] := fun n => by
        induction n with
        | zero => exact .nil
        | succ n ih => exact .cons (f := []) rfl ih
      exact .cons (f := []) ⟨_, rfl, .fz (.scr hSa)⟩ (.cons (f := []) ⟨rfl, p, q, rfl, rfl⟩ (tl n))
    · simp only [List.mem_cons, List.mem_replicate] at m
      rcases m with rfl | rfl | ⟨_, rfl⟩ <;> rfl
  refine h2.ev ⟨⟨some (p, q)⟩, noT H, H1, none⟩ _ _ H1 [] _ nv_nil ⟨noT H, [], A0⟩ (G.good_mono (fun o k => ?_) (fun e h => h.elim) (G.good_bind.mp (hD ns hlen)))
  cases o with
  | rt s =>
    have k : s = .dat (.bl true) := k
    subst k
    intro ρ' σ' H' v a'
    obtain rfl := a'.vBl
    exact hq H'
  | nx ρ' => cases k
  | bk ρ' => cases k
  | ct ρ' => cases k
theorem FnE.law {P : Program} {w : World} {K : PySem.W.Frag} {mg : Str → Option Value} {base : Heap} {k : Nat} {f : Addr} {fd : FuncData} {ps : List Str} (F : FnE P w K mg base k f fd ps (spLaw K)) : FnG P w K mg base k f fd ps (spLaw K) :=
  ⟨F.len, fun A outer s H args us vs Q E hg hr e0 hb rv q => codeAny_mono (F.go A outer s H args us vs Q (fun _ _ _ => False) hg hr e0 hb rv q) fun res s' hq => by
    cases res with
    | error e => exact absurd hq (by rintro ⟨_, _, _, _, _, _, h⟩; exact h.2.2.2.2.2.2)
    | ok fl => cases fl with
      | ret u => exact hq
      | next => cases hq
      | brk => cases hq
      | cont => cases hq⟩
end Ge

set_option maxHeartbeats 400000
namespace Ge
open PySem PySem.Spec PyProof.Rows L2 Sd
variable [HasT]
/-! ### x = y, where y is not read again: the list goes with it -/
def dMov (i j : Nat) : DS := fun ρ => match get ρ i with
  | .val o => .pure (.nx ((ρ.set i .no).set j (.val o))) | _ => .fail
mutual
/-- data without lists, instances, dicts -/
def Da.fixed : Da → Bool
  | .non => true | .bl _ => true | .int _ => true | .str _ => true | .tup ds => fixeds ds | _ => false
def fixeds : List Da → Bool
  | [] => true
  | d :: r => d.fixed && fixeds r
end
/-- f(source, x): the list x of one's own is looked at, and stays one's own: the answer has no list in it -/
def dCallT (Fn0 : Fn) (i j : Nat) : DE := fun ρ => if isSrc (get ρ i) = true then match get ρ j with
  | .val (.ol os) => (match allFz os with
    | some ds => (Fn0 [.src, .dat (.lst ds)]).bind fun s => match s with
      | .val (.fz d) => if d.fixed = true then .pure (.dat d) else .fail
      | _ => .fail
    | none => .fail)
  | _ => .fail else .fail
section
variable {K : PySem.W.Frag} {b : Bs} {ρ : List Sl} {σ : L2.St} {S H S' H' : Hp} {ps : List (V × Sl)} {v : V} {s : Sl} {F f : List Addr} {d : Da} {X : Cx} {W : WX} {m c c1 c2 c3 : Bool}
  {e e1 e2 e3 tg : Expr} {es : List Expr} {te ta tb tc : TE} {tt tu : TT} {tx : TA} {da db dc : DE} {dt du : DB} {dx : DA} {pos pos' : Pos} {st : Stmt} {rest : List Stmt} {t1 t2 : TS} {d1 : DS}
theorem pds_mov {i j : Nat} {x : Str} (hN : X.N.Nodup) (hi : X.N[j]? = some x) (hx : Loc X.env.scope x) (h : PE X e (tVar i)) (hs : swapsWith e (some (.Name x pos')) pos.line X.env = pure false := by rfl)
    (hf : X.fn x = true ∨ X.env.scope.names.lookup x = some .local := by first | exact .inl rfl | exact .inr rfl | assumption) : PDS K X W (.Assign [.Name x pos'] e pos) (tAsg (tVar i) (gName j)) (dMov i j) :=
  ⟨ps_set hN hi hx h hs hf, fun b ρ σ H ps D nv a q => by
    unfold dMov at q
    split at q
    · rename_i o eo
      obtain ⟨v, ev, a1⟩ := a.take eo
      exact ⟨v, ev, q _ _ (a1.store rfl)⟩
    · cases q⟩
/-- without one cell that is a list -/
def drop1 (S : Hp) (a : Addr) : Hp := fun c => if c = a then none else S c
theorem drop1_ne {a c : Addr} (h : c ≠ a) : drop1 S a c = S c := if_neg h
theorem drop1_same {a : Addr} : drop1 S a a = none := if_pos rfl
mutual
theorem fixed_rp {a : Addr} {xs : List V} (ha : S a = some (.lst xs)) : ∀ (d : Da) (v : V), d.fixed = true → Rp K S v d → Rp K (drop1 S a) v d
  | .non, _, _, h => by cases h; exact .non
  | .bl _, _, _, h => by cases h; exact .bl _
  | .int _, _, _, h => by cases h; exact .int _
  | .str _, _, _, h => by cases h; exact .str _
  | .tup ds, _, l, h => by
    cases h with
    | tup hs hd =>
      refine .tup ?_ (fixeds_rp ha ds _ (by simpa [Da.fixed] using l) hd)
      rcases hs with (h | ⟨o, h⟩) | h
      · exact .inl (.inl (by rw [drop1_ne (fun e => by rw [e, ha] at h; cases h)]; exact h))
      · exact .inl (.inr ⟨o, by rw [drop1_ne (fun e => by rw [e, ha] at h; cases h)]; exact h⟩)
      · exact .inr h
  | .lst _, _, l, _ => by simp [Da.fixed] at l
  | .obj _ _ _, _, l, _ => by simp [Da.fixed] at l
  | .raw _, _, l, _ => by simp [Da.fixed] at l
  | .dct _ _, _, l, _ => by simp [Da.fixed] at l
  | .scr _, _, l, _ => by simp [Da.fixed] at l
theorem fixeds_rp {a : Addr} {xs : List V} (ha : S a = some (.lst xs)) : ∀ (ds : List Da) (vs : List V), fixeds ds = true → Rps K S vs ds → Rps K (drop1 S a) vs ds
  | [], _, _, h => by cases h; exact .nil
  | d :: ds, _, l, h => by
    simp only [fixeds, Bool.and_eq_true] at l
    cases h with
    | cons r t => exact .cons (fixed_rp ha d _ l.1 r) (fixeds_rp ha ds _ l.2 t)
end
theorem eg_callT {Fn0 : Fn} {i j : Nat} : EvG K b W c (tCallE (spG K 2 Fn0) (WE W) (tCons (tVar i) (tCons (tVar j) tNil))) (dCallT Fn0 i j) := fun ρ σ H ps Q nv a q => by
  unfold dCallT at q
  split at q
  · rename_i hs
    have e0 : get ρ i = .src := by
      cases e : get ρ i with
      | src => rfl
      | no => rw [e] at hs; cases hs
      | val _ => rw [e] at hs; cases hs
      | view _ => rw [e] at hs; cases hs
      | slf => rw [e] at hs; cases hs
    split at q
    · rename_i os ej
      split at q
      · rename_i ds hd
        obtain ⟨S, F, A⟩ := id a
        obtain ⟨w, f, ew, r, _, _⟩ := A.en.slot (get_some (ρ := ρ) (i := i) (by rw [e0]; nofun))
        rw [e0] at r
        obtain ⟨rfl, p, q0, e1, rfl⟩ := r
        obtain ⟨w2, f2, ew2, r2, m2, _⟩ := A.en.slot (get_some (ρ := ρ) (i := j) (by rw [ej]; nofun))
        rw [ej] at r2
        obtain ⟨x, rfl, r2⟩ := r2
        cases r2 with
        | ol hx rx =>
          obtain ⟨rr, rfl⟩ := Okvs.fzs rx hd
          rename_i a0 xs _
          have cnt : 0 < F.count a0 := Nat.lt_of_lt_of_le (by simp) (m2 a0)
          obtain ⟨_, Sa, Ba, Oa⟩ := A.fr a0 cnt
          have sm : Same S (upd S a0 (.lst xs)) := same_new Sa
          refine ⟨_, ew, _, ew2, rfl, b.src, upd S a0 (.lst xs), [.src, .dat (.lst ds)], fun c u h => ?_, ⟨fun p' q' h => ?_, A.iv.tb, fun t m => (upd_ne (fun z => Oa.2 t m z.symm)).trans (A.iv.ts t m)⟩, ?_, ?_⟩
          · by_cases e : c = a0
            · subst e
              rw [upd_same] at h
              rw [← h]
              exact hx
            · rw [upd_ne e] at h
              exact A.sh c u h
          · obtain ⟨dr, h1, h2⟩ := A.iv.dr p' q' h
            obtain ⟨n1, n2⟩ := Oa.1 p' q' h
            exact ⟨dr, (upd_ne (Ne.symm n1)).trans h1, (upd_ne (Ne.symm n2)).trans h2⟩
          · exact .cons ⟨⟨rfl, p, q0, e1, rfl⟩, rfl⟩ (.cons ⟨⟨_, rfl, .fz (.lst upd_same (Rps.same sm _ _ rr))⟩, rfl⟩ .nil)
          · have back : ∀ {S' H' : Hp}, Step b.src (upd S a0 (.lst xs)) H S' H' → Inv0 (bs0 b.src (upd S a0 (.lst xs)) H) S' H' → AtS K b ρ σ (drop1 S' a0) H' ps F := fun {S' H'} st iv => by
              have sa : S' a0 = some (.lst xs) := st.ss _ _ upd_same
              refine A.step ⟨fun c u h => ?_, fun c u h => ?_, st.hh, fun c u h => ?_⟩ ⟨fun p' q' h => ?_, iv.tb, fun t m => (drop1_ne (fun z => Oa.2 t m z.symm)).trans (iv.ts t m)⟩
              · have n : c ≠ a0 := ne_of_none h Sa
                rw [drop1_ne n]
                exact st.ss _ _ (sm _ _ h)
              · by_cases e : c = a0
                · rw [e, drop1_same] at h; cases h
                · rw [drop1_ne e] at h
                  exact st.sh _ _ h
              · by_cases e : c = a0
                · rw [e, drop1_same] at h; cases h
                · rw [drop1_ne e] at h
                  rcases st.gr _ _ h with g | g
                  · rw [upd_ne e] at g
                    exact .inl g
                  · exact .inr g
              · obtain ⟨dr, h1, h2⟩ := iv.dr p' q' h
                obtain ⟨n1, n2⟩ := Oa.1 p' q' h
                exact ⟨dr, (drop1_ne (Ne.symm n1)).trans h1, (drop1_ne (Ne.symm n2)).trans h2⟩
            refine G.good_mono (fun s k => ?_) (fun e k => ?_) (G.good_bind.mp q)
            · intro S' H' v o f st iv es rv hf
              subst es
              cases o with
              | fz d =>
                dsimp only at k
                split at k
                · rename_i fx
                  cases rv with
                  | fz rd => exact k H' v ⟨_, F, (back st iv).pushD (fixed_rp (st.ss _ _ upd_same) d v fx rd)⟩
                · cases k
              | ol _ => cases k
              | od _ _ => cases k
            · intro S' H' dx st iv hx'
              exact k ρ σ H' dx ⟨_, F, back st iv⟩ hx'
      · cases q
    · cases q
  · cases q
section
variable {P : Program} {w : World} {mg : Str → Option Value} {base : Heap} {k n : Nat} {f0 : Addr} {fd : FuncData} {prm : List Str} {x : Str} {p : Pos} {Fn0 : Fn}
theorem pd_callT {i j : Nat} (G : FnE P w K mg base k f0 fd prm (spG K 2 Fn0)) (hP : X.prog = P) (hw : X.w = w) (hK : X.K = K) (hmg : X.mg = mg) (hB : X.base = base) (hg : X.A.guards = some []) (hr : Room k X.A) (hgl : Gl X x)
    (hm : mg x = some (.ref f0)) (hk : PySem.W.keepIn K (.ref f0) = true) (hb : Binds K fd prm []) (tk : Takes X W) (h1 : PE X e (tVar i)) (h2 : PE X e2 (tVar j)) (hs : starEach [e, e2] X.env = (false, eval e X.env) :: starEach [e2] X.env := by rfl)
    (hs2 : starEach [e2] X.env = (false, eval e2 X.env) :: starEach [] X.env := by rfl) (hdb : (x == ("__debug__" : Str)) = false := by decide) (hpl : (backTo pos (starEach [e2] X.env)).any (·.1) = false := by rfl) :
    PD K X W false (.Call (.Name x p) [e, e2] [] pos) (tCallE (spG K 2 Fn0) (WE W) (tCons (tVar i) (tCons (tVar j) tNil))) (dCallT Fn0 i j) := by
  subst hP hw hK hmg hB
  exact ⟨pe_callE G hg hr hgl hm hk hb tk (pa_cons h1 (pa_cons h2 pa_nil hs2) hs) hdb hs hpl, fun b => eg_callT⟩
end
end
end Ge

set_option maxHeartbeats 400000
namespace Ge
open PySem PySem.Spec PyProof.Rows L2 Sd
/-- the body of an own exception's __init__ with one value -/
def xBody1 (f : Str) (p0 p1 p2 p3 p4 p5 p6 p7 p8 p9 : Pos) : List Stmt :=
  [.Expr (.Call (.Attribute (.Call (.Name "super" p0) [] [] p1) "__init__" p2) [.Name f p3] [] p4) p5, .Assign [.Attribute (.Name "self" p6) f p7] (.Name f p8) p9]
/-- .. with two -/
def xBody2 (f f2 : Str) (p0 p1 p2 p3 q1 p4 p5 p6 p7 p8 p9 q2 q3 q4 q5 : Pos) : List Stmt :=
  [.Expr (.Call (.Attribute (.Call (.Name "super" p0) [] [] p1) "__init__" p2) [.Name f p3, .Name f2 q1] [] p4) p5, .Assign [.Attribute (.Name "self" p6) f p7] (.Name f p8) p9, .Assign [.Attribute (.Name "self" q2) f2 q3] (.Name f2 q4) q5]
section
variable {P : Program} {w : World} {K : PySem.W.Frag} {A : Around} {E : Value → Shared → Prop}
/-- ValueError.__init__ bound to the exception, called -/
theorem call_mw {h : Heap} {g : Array GenState} {d : Drawn} {t : Nat} {os : OsState} {u e t0 C : Addr} {rest : List Value} {Q : Value → Shared → Prop} (X : K.In h) (T : OexC K C) (he : h.get? e = some (PySem.HandSPX.excO C t0)) (hu : h.get? u = some (PySem.W.kxs_mw "ValueError.__init__" e)) (hrest : rest.length ≤ sizeLine)
    (hq : ∀ h' t1, (∀ b o, b ≠ e → h.get? b = some o → h'.get? b = some o) → h'.get? e = some (PySem.HandSPX.excO C t1) → Q .none ⟨h', g, d, t, os⟩) :
    wpAny (model P w) A (call (.ref u) rest) Q E ⟨h, g, d, t, os⟩ := by
  obtain ⟨nm, q, N, bs, bm, sn, sub, ab, col, dd, k0, k1, k2, k3, k5, hC, hbm⟩ := T.cls
  have hC := X _ _ hC
  refine wpAny_call (codeAny_of_tree ?_)
  show wpAny _ A.in1 (callAny (.ref u) ⟨rest, []⟩) _ _ _
  simp only [callAny]
  refine wpAny_bind (wpAny_load hu ?_)
  simp only [PySem.W.kxs_mw, show (Value.type "method-wrapper" == Value.type "method" || Value.type "method-wrapper" == Value.type "builtin_function_or_method" || Value.type "method-wrapper" == Value.type "method-wrapper") = true by decide, if_true]
  refine PySem.W.KFB.if_so (by decide) ?_
  refine wpAny_bind (PySem.ESX.check_bound F.excBase_ValueError hC he rfl ?_)
  refine wpAny_bind (wpAny_pure (wpAny_pure ?_))
  refine ⟨Code.quiet_builtin _ (by decide +kernel), codeAny_builtin F.excBase_ValueError.initEntry ?_⟩
  rw [Around.under_plainId F.excBase_ValueError.init.plain _]
  wp_walk
  refine hq _ h.objs.size (fun b o hb ho => ?_) ?_
  · rw [Heap.get?_update_other _ _ (Ne.symm hb)]
    exact Heap.get?_push_of_some _ ho
  · rw [Heap.get?_update_self _ (Heap.get?_push_of_some _ he) rfl]
    rfl
/-- what the written part says of an own exception class and its __init__ -/
structure XCls (P : Program) (K : PySem.W.Frag) (mg : Str → Option Value) (C : Addr) : Prop where
  T : OexC K C
  sub : PySem.W.mroIn K C (.ref C) = some true
  sup : mg "super" = none
  ini : PySem.W.ks_superIn K C C "__init__" = some (some (.builtin "ValueError.__init__"))
  opq : PySem.W.nsIn K cStatics "thirdparty.any" = some none
  bas : PySem.W.subIn K (.ref C) (.type "ValueError") = some true
  top : (P.main.scope.names.lookup ("super" : Str)).isSome = false
theorem XCls.cd {mg : Str → Option Value} {C : Addr} (x : XCls P K mg C) : ∃ cd, PySem.W.clsIn K C = some cd := by
  have h := x.ini
  unfold PySem.W.ks_superIn at h
  cases e : PySem.W.clsIn K C with
  | none => rw [e] at h; cases h
  | some cd => exact ⟨cd, rfl⟩
/-- super().__init__(..): what the first statement leaves -/
theorem super_first {mg : Str → Option Value} {base : Heap} {C L fI cda cc a t0 : Addr} {h : Heap} {g : Array GenState} {d : Drawn} {t : Nat} {os : OsState} {m : Str → Option Value} {qual : Str} {params : Arguments} {body : List Stmt} {scope : Scope} {dV kV doc pm ct oc : Value} {an od : Option Addr} {osl : Array (Option Value)}
    {ccl cl : Value} {cdd cld : Option Addr} {ccs csl : Array (Option Value)} {vs : Array Value} {file : Str} {tf : Tok} {ar : Arg} {e : Expr} {es : List Expr} {p0 p1 p2 p4 p5 : Pos} {bd : List Stmt} {Q : Flow → Shared → Prop}
    (M : L2.Mod K mg base) (x : XCls P K mg C) (X : K.In h) (hg : h.Ns mainGlobals mg) (hb : ∃ mb, h.Ns builtinsNs mb ∧ ∀ x : Str, x ≠ "__name__" → mb x = bootBuiltins x)
    (lkf : K.lookup fI = some ⟨oc, od, .func (PySem.W.ksFn "__init__" qual params body scope dV kV doc pm an (.ref cda) ct cc), osl⟩) (lkc : K.lookup cda = some ⟨ccl, cdd, .fields vs, ccs⟩) (hvs : vs[2]? = some (.str file tf)) (hfile : ((P.main.file : Str) == file) = true)
    (lkl : K.lookup cc = some ⟨cl, cld, .cell (some (.ref C)), csl⟩) (hp : (params.posonlyargs ++ params.args).head? = some ar) (har : ar.arg = "self")
    (hks : scope.names.lookup ("super" : Str) = some .globalImplicit) (hkc : scope.names.lookup ("__class__" : Str) = some .free) (hka : scope.names.lookup ("self" : Str) = some .local) (hk : scope.kind = .function)
    (hx : h.get? a = some (PySem.HandSPX.excO C t0)) (hn : h.Ns L m) (hms : m "self" = some (.ref a)) (us : List Value) (hus : us.length ≤ sizeLine)
    (harg : ∀ (s : Shared) (Q : List Value → Shared → Prop), s.heap.Ns L m → Q us s → wpAny (model P w) A (spliced (backTo p4 (starEach (e :: es) (PySem.W.ksEnv qual scope L fI (.ref cda) cc)))) Q E s)
    (he : starEach (e :: es) (PySem.W.ksEnv qual scope L fI (.ref cda) cc) = (false, eval e (PySem.W.ksEnv qual scope L fI (.ref cda) cc)) :: starEach es (PySem.W.ksEnv qual scope L fI (.ref cda) cc)) (hpl : (backTo p4 (starEach es (PySem.W.ksEnv qual scope L fI (.ref cda) cc))).any (·.1) = false)
    (hcl : eval (.Call (.Attribute (.Call (.Name "super" p0) [] [] p1) "__init__" p2) (e :: es) [] p4) (PySem.W.ksEnv qual scope L fI (.ref cda) cc) = (do
      let ov ← attributeBase (.Call (.Name "super" p0) [] [] p1) "__init__" (PySem.W.ksEnv qual scope L fI (.ref cda) cc) (eval (.Call (.Name "super" p0) [] [] p1) (PySem.W.ksEnv qual scope L fI (.ref cda) cc))
      standAt p2.atName
      let (f, first) ← holding [ov] (getMethod ov "__init__" (pure false))
      callWith p4 f first (backTo p4 (starEach (e :: es) (PySem.W.ksEnv qual scope L fI (.ref cda) cc))) []))
    (hi : interactive (PySem.W.ksEnv qual scope L fI (.ref cda) cc) = false) (hsw : swapsWith (.Call (.Attribute (.Call (.Name "super" p0) [] [] p1) "__init__" p2) (e :: es) [] p4) none p5.line (PySem.W.ksEnv qual scope L fI (.ref cda) cc) = pure false)
    (hq : ∀ h' t' t1, (∀ b o, b ≠ a → h.get? b = some o → h'.get? b = some o) → h'.get? a = some (PySem.HandSPX.excO C t1) → Q .next ⟨h', g, d, t', os⟩) :
    PySem.wpAt (model P w) A (.func bd (PySem.W.ksEnv qual scope L fI (.ref cda) cc)) (exec (.Expr (.Call (.Attribute (.Call (.Name "super" p0) [] [] p1) "__init__" p2) (e :: es) [] p4) p5) (PySem.W.ksEnv qual scope L fI (.ref cda) cc)) Q E ⟨h, g, d, t, os⟩ := by
  obtain ⟨cd, hcd⟩ := x.cd
  obtain ⟨mb, hb1, hb2⟩ := hb
  obtain ⟨oD, hD1, hD2⟩ : ∃ oD, h.get? C = some oD ∧ oD.data = .cls cd := by
    have hcd := hcd
    unfold PySem.W.clsIn at hcd
    split at hcd
    · rename_i c d cd' sl ho
      cases hcd
      exact ⟨_, X _ _ ho, rfl⟩
    · cases hcd
  have I : PySem.W.InstAt h a (PySem.HandSPX.excO C t0) C none := ⟨hx, rfl, rfl, trivial⟩
  refine PySem.ks_wpAt_Expr_any (PySem.ks_wpAt_MethodCall (pl := pure false) ?_ hcl) hi hsw
  refine PySem.ks_wpAt_super_base (env := PySem.W.ksEnv qual scope L fI (.ref cda) cc) hks hkc (by decide) rfl (X _ _ lkf) rfl hp rfl (X _ _ lkc) rfl hvs hfile x.top ?_
  refine PySem.W.ks_loadName_global hk hks (PySem.Calls.loadGlobal_builtin (env := PySem.W.ksEnv qual scope L fI (.ref cda) cc) hg x.sup hb1 ((hb2 _ (by decide)).trans (by rfl)) ⟨rfl, ?_⟩)
  refine wpAny_loadName_free hk hkc rfl ⟨_, X _ _ lkl, rfl⟩ ?_
  rw [har]
  refine wpAny_loadName_local hk hka hn hms ?_
  refine PySem.ks_wpAny_isType_cls hD1 hD2 ⟨rfl, ?_⟩
  refine PySem.ks_wpAny_call_super hD1 hD2 hx rfl (fun c e => by cases e) (PySem.W.looks_mroIn X x.sub) (fun h1 e1 k1 => ?_)
  have X1 : K.In h1 := X.keeps k1
  have hI : PySem.W.Looks (model P w) h1 (isInstance (.ref a) (.type "ValueError")) true := (PySem.W.InstAt.type (od := none) ⟨k1 _ _ hx, rfl, rfl, trivial⟩).andThen (PySem.W.looks_subIn X1 x.bas)
  refine PySem.W.kxs_getMethod PySem.W.kxs_ValueError e1 (PySem.W.looks_opaque X1 x.opq) (l₀ := cd.mro) (fun A Q E s k q => wpAny_bind ((PySem.W.looks_clsIn X1 hcd) A _ E s k (wpAny_pure q))) rfl X1 ?_ hI (PySem.W.ks_ne X I hcd) (by decide) ?_
  · have z := x.ini
    unfold PySem.W.ks_superIn at z
    rw [hcd] at z
    exact z
  · have k2 : ∀ b o, h.get? b = some o → (h1.push (PySem.W.kxs_mw "ValueError.__init__" a)).get? b = some o := fun b o q => Heap.get?_push_of_some _ (k1 _ _ q)
    show wpAny (model P w) A (callWith p4 (.ref h1.objs.size) [] (backTo p4 (starEach (e :: es) (PySem.W.ksEnv qual scope L fI (.ref cda) cc))) []) _ _ _
    have hA := harg ⟨h1.push (PySem.W.kxs_mw "ValueError.__init__" a), g, d, t + 1, os⟩
    rw [he] at hA ⊢
    refine PySem.W.kxs_callWith (i := "ValueError.__init__") (x := a) (by show (false || (backTo p4 (starEach es (PySem.W.ksEnv qual scope L fI (.ref cda) cc))).any (·.1)) = false; rw [hpl]; rfl) (PySem.Calls.evalArgs_plain ?_)
    refine hA _ (hn.keeps k2) ⟨Heap.get?_push_at rfl rfl, ?_⟩
    refine call_mw (X.keeps k2) x.T (k2 _ _ hx) (Heap.get?_push_at rfl rfl) hus fun h' t1 k3 e3 => ?_
    exact hq h' _ t1 (fun b o ne q => k3 b o ne (k2 _ _ q)) e3
end
end Ge

set_option maxHeartbeats 400000
namespace Ge
open PySem PySem.Spec PyProof.Rows L2 Sd
section
variable {P : Program} {w : World} {K : PySem.W.Frag} {A : Around} {E : Value → Shared → Prop} {mg : Str → Option Value} {base : Heap} {C L fI cda cc a t0 : Addr} {u u2 : Value} {f f2 : Str}
  {qual : Str} {params : Arguments} {scope : Scope} {dV kV doc pm ct oc : Value} {an od : Option Addr} {osl : Array (Option Value)}
  {ccl cl : Value} {cdd cld : Option Addr} {ccs csl : Array (Option Value)} {vs : Array Value} {file : Str} {tf : Tok} {ar : Arg} {p0 p1 p2 p3 p4 p5 p6 p7 p8 p9 q1 q2 q3 q4 q5 : Pos} {body : List Stmt} {R : Result → Shared → Prop}
/-- an exception of the class at C, with its own dict -/
abbrev excD (C t1 dx : Addr) : Obj := { cls := .ref C, dict := some dx, data := .fields #[.ref t1, .none, .none, .none, .bool false, .none] }
theorem cd_of (T : OexC K C) : ∃ cd, PySem.W.clsIn K C = some cd ∧ PySem.HandSPX.refsVE cd.mro = true ∧ cd.hasDict = true := by
  obtain ⟨nm, q, N, bs, bm, sn, sub, ab, col, dd, k0, k1, k2, k3, k5, hC, hbm⟩ := T.cls
  refine ⟨_, by unfold PySem.W.clsIn; rw [hC], hbm, rfl⟩
theorem ev_local {h : Heap} {g : Array GenState} {d : Drawn} {t : Nat} {os : OsState} {env : Env} {m : Str → Option Value} {x : Str} {pos : Pos} {v : Value} {Q : Value → Shared → Prop} (hn : h.Ns env.locals m) (hv : m x = some v) (hk : env.scope.kind = .function) (hl : env.kindOf x = some .local) (hd : (x == ("__debug__" : Str)) = false) (hq : Q v ⟨h, g, d, t, os⟩) :
    wpAny (model P w) A (eval (.Name x pos) env) Q E ⟨h, g, d, t, os⟩ := wpAny_Name (wpAny_loadName_local hk hl hn hv hq) hd
/-- self.f = f: the first one -/
theorem store_first {h : Heap} {g : Array GenState} {d : Drawn} {t : Nat} {os : OsState} {env : Env} {m : Str → Option Value} {Q : Flow → Shared → Prop} {p6 p7 p8 p9 : Pos} (X : K.In h) (T : OexC K C) (hno : PySem.W.findIn K (.ref C) f = some none) (he : h.get? a = some (PySem.HandSPX.excO C t0)) (hn : h.Ns env.locals m) (hs : m "self" = some (.ref a)) (hf : m f = some u)
    (hk : env.scope.kind = .function) (hl : env.kindOf "self" = some .local) (hlf : env.kindOf f = some .local) (hdf : (f == ("__debug__" : Str)) = false) (hsw : swapsWith (.Name f p8) (some (.Attribute (.Name "self" p6) f p7)) p9.line env = pure false)
    (hq : ∀ h' t' dx, (∀ b o, b ≠ a → h.get? b = some o → h'.get? b = some o) → h.objs.size ≤ dx → dx ≠ a → h'.get? a = some (excD C t0 dx) → h'.Ns1 dx (fun y => if y = f then some u else none) → Q .next ⟨h', g, d, t', os⟩) :
    wpAny (model P w) A (exec (.Assign [.Attribute (.Name "self" p6) f p7] (.Name f p8) p9) env) Q E ⟨h, g, d, t, os⟩ := by
  obtain ⟨cd, hcd, hm, hd⟩ := cd_of T
  refine plainObj_wpAny_Assign_Attribute (ev_local hn hf hk hlf hdf (ev_local hn hs hk hl (by decide) ?_)) hsw
  refine PySem.W.set_plain X (ox := PySem.HandSPX.excO C t0) (od := none) ⟨he, rfl, rfl, trivial⟩ T.sa ?_
  exact PySem.HandSPX.exc_osa X he hcd hm hd hno fun h' tk' dx k dn dne hx hns => hq h' tk' dx k dn dne hx hns
theorem store_more {h : Heap} {g : Array GenState} {d : Drawn} {t : Nat} {os : OsState} {env : Env} {m m0 : Str → Option Value} {nl : List Str} {dx : Addr} {Q : Flow → Shared → Prop} {p6 p7 p8 p9 : Pos} (X : K.In h) (T : OexC K C) (hno : PySem.W.findIn K (.ref C) f = some none) (he : h.get? a = some (excD C t0 dx)) (hns : h.Ns1 dx m0) (hw : Within m0 nl) (hz : nl.length ≤ 1000) (hn : h.Ns env.locals m) (hs : m "self" = some (.ref a)) (hf : m f = some u)
    (hk : env.scope.kind = .function) (hl : env.kindOf "self" = some .local) (hlf : env.kindOf f = some .local) (hdf : (f == ("__debug__" : Str)) = false) (hsw : swapsWith (.Name f p8) (some (.Attribute (.Name "self" p6) f p7)) p9.line env = pure false)
    (hq : ∀ h' t', (∀ b o, b ≠ dx → h.get? b = some o → h'.get? b = some o) → h'.Ns1 dx (fun y => if y = f then some u else m0 y) → Q .next ⟨h', g, d, t', os⟩) :
    wpAny (model P w) A (exec (.Assign [.Attribute (.Name "self" p6) f p7] (.Name f p8) p9) env) Q E ⟨h, g, d, t, os⟩ := by
  obtain ⟨cd, hcd, hm, hd⟩ := cd_of T
  obtain ⟨oD, _, _, hoD, _, _⟩ := hns.count hw
  refine plainObj_wpAny_Assign_Attribute (ev_local hn hf hk hlf hdf (ev_local hn hs hk hl (by decide) ?_)) hsw
  refine PySem.W.set_plain X (ox := excD C t0 dx) (od := some oD) ⟨he, rfl, rfl, hoD⟩ T.sa ?_
  exact PySem.OEX.osa_old X he hns hw hz hcd hm hd hno fun h' tk' k hn' => hq h' tk' k hn'
/-- the run of an __init__ with one value -/
theorem exc_init1 {s : Shared} (M : L2.Mod K mg base) (bk : ∀ b o, base.get? b = some o → s.heap.get? b = some o) (x : XCls P K mg C) (hno : PySem.W.findIn K (.ref C) f = some none)
    (lkf : K.lookup fI = some ⟨oc, od, .func (PySem.W.ksFn "__init__" qual params (xBody1 f p0 p1 p2 p3 p4 p5 p6 p7 p8 p9) scope dV kV doc pm an (.ref cda) ct cc), osl⟩) (hcd : PySem.W.codeIn K (.ref cda) qual = true) (lkc : K.lookup cda = some ⟨ccl, cdd, .fields vs, ccs⟩) (hvs : vs[2]? = some (.str file tf)) (hfile : ((P.main.file : Str) == file) = true)
    (lkl : K.lookup cc = some ⟨cl, cld, .cell (some (.ref C)), csl⟩) (hp : (params.posonlyargs ++ params.args).head? = some ar) (har : ar.arg = "self")
    (hks : scope.names.lookup ("super" : Str) = some .globalImplicit) (hkc : scope.names.lookup ("__class__" : Str) = some .free) (hka : scope.names.lookup ("self" : Str) = some .local) (hkf : scope.names.lookup f = some .local) (hk : scope.kind = .function)
    (hco : scope.isCoroutine = false) (hgen : scope.isGenerator = false) (hnc : ∀ x ∈ scope.names, x.2 ≠ .cell) (hdf : (f == ("__debug__" : Str)) = false) (hsf : f ≠ "self") (hroom : A.depth < recursionLimit)
    (hbind : BindsTo s (PySem.W.ksFn "__init__" qual params (xBody1 f p0 p1 p2 p3 p4 p5 p6 p7 p8 p9) scope dV kV doc pm an (.ref cda) ct cc) ⟨[.ref a, u], []⟩ [("self", .ref a), (f, u)])
    (he : ∀ L, starEach [.Name f p3] (PySem.W.ksEnv qual scope L fI (.ref cda) cc) = [(false, eval (.Name f p3) (PySem.W.ksEnv qual scope L fI (.ref cda) cc))]) (hbt : ∀ L, backTo p4 (starEach [.Name f p3] (PySem.W.ksEnv qual scope L fI (.ref cda) cc)) = [(false, eval (.Name f p3) (PySem.W.ksEnv qual scope L fI (.ref cda) cc))]) 
    (hcl : ∀ L, eval (.Call (.Attribute (.Call (.Name "super" p0) [] [] p1) "__init__" p2) [.Name f p3] [] p4) (PySem.W.ksEnv qual scope L fI (.ref cda) cc) = (do
      let ov ← attributeBase (.Call (.Name "super" p0) [] [] p1) "__init__" (PySem.W.ksEnv qual scope L fI (.ref cda) cc) (eval (.Call (.Name "super" p0) [] [] p1) (PySem.W.ksEnv qual scope L fI (.ref cda) cc))
      standAt p2.atName
      let (f1, first) ← holding [ov] (getMethod ov "__init__" (pure false))
      callWith p4 f1 first (backTo p4 (starEach [.Name f p3] (PySem.W.ksEnv qual scope L fI (.ref cda) cc))) []))
    (hi : ∀ L, interactive (PySem.W.ksEnv qual scope L fI (.ref cda) cc) = false) (hsw : ∀ L, swapsWith (.Call (.Attribute (.Call (.Name "super" p0) [] [] p1) "__init__" p2) [.Name f p3] [] p4) none p5.line (PySem.W.ksEnv qual scope L fI (.ref cda) cc) = pure false) (hsw2 : ∀ L, swapsWith (.Name f p8) (some (.Attribute (.Name "self" p6) f p7)) p9.line (PySem.W.ksEnv qual scope L fI (.ref cda) cc) = pure false)
    (hx : s.heap.get? a = some (PySem.HandSPX.excO C t0)) (hab : ∀ b o, base.get? b = some o → b ≠ a)
    (hq : ∀ h' t' t1 dx, (∀ b o, b ≠ a → s.heap.get? b = some o → h'.get? b = some o) → s.heap.objs.size ≤ dx → dx ≠ a → h'.get? a = some (excD C t1 dx) → h'.Ns1 dx (fun y => if y = f then some u else none) → R (.ok (.ret .none)) ⟨h', s.gens, s.drawn, t', s.os⟩) :
    codeAny (model P w) A (.call (.ref fI) ⟨[.ref a, u], []⟩) R s := by
  have X : K.In s.heap := M.kin.keeps bk
  have hal : a < s.heap.objs.size := Heap.lt_size hx
  refine PySem.ks_codeAny_call_defAt hroom (X _ _ lkf) rfl (M.nolimit.keeps bk) (PySem.W.codeRec_of X hcd) rfl hbind hnc (fun y hy => ?_) (fun h₀ hns k0 => ?_) hco hgen hk
  · simp only [List.mem_cons, List.not_mem_nil, or_false] at hy
    rcases hy with rfl | rfl
    · exact hka
    · exact hkf
  · show PySem.wpAt (model P w) (A.deeper (PySem.W.ksEnv qual scope s.heap.objs.size fI (.ref cda) cc)) (.func (xBody1 f p0 p1 p2 p3 p4 p5 p6 p7 p8 p9) (PySem.W.ksEnv qual scope s.heap.objs.size fI (.ref cda) cc)) (execs (xBody1 f p0 p1 p2 p3 p4 p5 p6 p7 p8 p9) (PySem.W.ksEnv qual scope s.heap.objs.size fI (.ref cda) cc)) _ _ _
    obtain ⟨hp0, g0, d0, t00, os0⟩ := s
    have X0 : K.In h₀ := X.keeps k0
    have hself : (fun x : Str => ([(("self" : Str), Value.ref a), (f, u)] : List (Str × Value)).reverse.lookup x) ("self" : Str) = some (.ref a) := by
      show ([(f, u), (("self" : Str), Value.ref a)] : List (Str × Value)).lookup ("self" : Str) = _
      rw [List.lookup_cons]
      split
      · rename_i e
        exact absurd (eq_of_beq e).symm hsf
      · rfl
    have hfu : (fun x : Str => ([(("self" : Str), Value.ref a), (f, u)] : List (Str × Value)).reverse.lookup x) f = some u := by
      show ([(f, u), ("self", Value.ref a)] : List (Str × Value)).lookup f = _
      rw [List.lookup_cons, beq_self_eq_true]
    have aL : hp0.objs.size ≠ a := Nat.ne_of_gt hal
    unfold xBody1
    refine PySem.ks_wpAt_execs_cons ?_
    refine super_first (m := fun x => ([("self", Value.ref a), (f, u)] : List (Str × Value)).reverse.lookup x) (us := [u]) (ar := ar) M x X0 ((M.glob.keeps bk).keeps k0) (by obtain ⟨mb, b1, b2⟩ := M.blt; exact ⟨mb, (b1.keeps bk).keeps k0, b2⟩) lkf lkc hvs hfile lkl hp har hks hkc hka hk (k0 _ _ hx) hns hself
      (by rw [sizeLine_eq]; show 1 ≤ _; decide) (fun s Q hn q => ?_) (he _) rfl (hcl _) (hi _) (hsw _) fun h' t' t1 k1 e1 => ?_
    · rw [hbt]
      obtain ⟨hp1, g1, d1, tt1, os1⟩ := s
      exact PySem.Calls.spliced_cons (ev_local (env := PySem.W.ksEnv qual scope hp0.objs.size fI (.ref cda) cc) hn hfu hk hkf hdf (PySem.Calls.spliced_nil q))
    · refine PySem.ks_wpAt_execs_cons (PySem.wpAt_of_wpAny ?_)
      have Xe : ∀ b o, b ≠ a → hp0.get? b = some o → h'.get? b = some o := fun b o ne q => k1 b o ne (k0 _ _ q)
      have ia : ∀ {b : Addr} {o : Obj}, K.lookup b = some o → b ≠ a := fun {b o} e => hab _ _ (M.kin _ _ e)
      have X1 : K.In h' := fun b o e => Xe b o (ia e) (X _ _ e)
      refine store_first (K := K) (C := C) (env := PySem.W.ksEnv qual scope hp0.objs.size fI (.ref cda) cc) (m := fun x => ([("self", Value.ref a), (f, u)] : List (Str × Value)).reverse.lookup x) X1 x.T hno e1 (hns.at fun o q => k1 _ _ aL q) hself hfu hk hka hkf hdf (hsw2 _) fun h2 t2 dx k2 dn dne e2 n2 => ?_
      refine PySem.wpAt_of_wpAny ?_
      show wpAny _ _ (pure Flow.next) _ _ _
      refine wpAny_pure ?_
      have hL : hp0.objs.size < h'.objs.size := by
        obtain ⟨oL, es, ep, hL, _⟩ := hns
        exact Heap.lt_size (k1 _ _ aL hL)
      exact hq h2 t2 t1 dx (fun b o ne q => k2 b o ne (Xe b o ne q)) (Nat.le_trans (Nat.le_of_lt hL) dn) dne e2 n2
/-- the run of an __init__ with two values -/
theorem exc_init2 {s : Shared} (M : L2.Mod K mg base) (bk : ∀ b o, base.get? b = some o → s.heap.get? b = some o) (x : XCls P K mg C) (hno : PySem.W.findIn K (.ref C) f = some none) (hno2 : PySem.W.findIn K (.ref C) f2 = some none)
    (lkf : K.lookup fI = some ⟨oc, od, .func (PySem.W.ksFn "__init__" qual params (xBody2 f f2 p0 p1 p2 p3 q1 p4 p5 p6 p7 p8 p9 q2 q3 q4 q5) scope dV kV doc pm an (.ref cda) ct cc), osl⟩) (hcd : PySem.W.codeIn K (.ref cda) qual = true) (lkc : K.lookup cda = some ⟨ccl, cdd, .fields vs, ccs⟩) (hvs : vs[2]? = some (.str file tf)) (hfile : ((P.main.file : Str) == file) = true)
    (lkl : K.lookup cc = some ⟨cl, cld, .cell (some (.ref C)), csl⟩) (hp : (params.posonlyargs ++ params.args).head? = some ar) (har : ar.arg = "self")
    (hks : scope.names.lookup ("super" : Str) = some .globalImplicit) (hkc : scope.names.lookup ("__class__" : Str) = some .free) (hka : scope.names.lookup ("self" : Str) = some .local) (hkf : scope.names.lookup f = some .local) (hkf2 : scope.names.lookup f2 = some .local) (hk : scope.kind = .function)
    (hco : scope.isCoroutine = false) (hgen : scope.isGenerator = false) (hnc : ∀ x ∈ scope.names, x.2 ≠ .cell) (hdf : (f == ("__debug__" : Str)) = false) (hsf : f ≠ "self") (hdf2 : (f2 == ("__debug__" : Str)) = false) (hsf2 : f2 ≠ "self") (hff : f ≠ f2) (hroom : A.depth < recursionLimit)
    (hbind : BindsTo s (PySem.W.ksFn "__init__" qual params (xBody2 f f2 p0 p1 p2 p3 q1 p4 p5 p6 p7 p8 p9 q2 q3 q4 q5) scope dV kV doc pm an (.ref cda) ct cc) ⟨[.ref a, u, u2], []⟩ [("self", .ref a), (f, u), (f2, u2)])
    (he : ∀ L, starEach [.Name f p3, .Name f2 q1] (PySem.W.ksEnv qual scope L fI (.ref cda) cc) = [(false, eval (.Name f p3) (PySem.W.ksEnv qual scope L fI (.ref cda) cc)), (false, eval (.Name f2 q1) (PySem.W.ksEnv qual scope L fI (.ref cda) cc))]) (hbt : ∀ L, backTo p4 (starEach [.Name f p3, .Name f2 q1] (PySem.W.ksEnv qual scope L fI (.ref cda) cc)) = [(false, eval (.Name f p3) (PySem.W.ksEnv qual scope L fI (.ref cda) cc)), (false, eval (.Name f2 q1) (PySem.W.ksEnv qual scope L fI (.ref cda) cc))]) 
    (hcl : ∀ L, eval (.Call (.Attribute (.Call (.Name "super" p0) [] [] p1) "__init__" p2) [.Name f p3, .Name f2 q1] [] p4) (PySem.W.ksEnv qual scope L fI (.ref cda) cc) = (do
      let ov ← attributeBase (.Call (.Name "super" p0) [] [] p1) "__init__" (PySem.W.ksEnv qual scope L fI (.ref cda) cc) (eval (.Call (.Name "super" p0) [] [] p1) (PySem.W.ksEnv qual scope L fI (.ref cda) cc))
      standAt p2.atName
      let (f1, first) ← holding [ov] (getMethod ov "__init__" (pure false))
      callWith p4 f1 first (backTo p4 (starEach [.Name f p3, .Name f2 q1] (PySem.W.ksEnv qual scope L fI (.ref cda) cc))) []))
    (hi : ∀ L, interactive (PySem.W.ksEnv qual scope L fI (.ref cda) cc) = false) (hsw : ∀ L, swapsWith (.Call (.Attribute (.Call (.Name "super" p0) [] [] p1) "__init__" p2) [.Name f p3, .Name f2 q1] [] p4) none p5.line (PySem.W.ksEnv qual scope L fI (.ref cda) cc) = pure false) (hsw2 : ∀ L, swapsWith (.Name f p8) (some (.Attribute (.Name "self" p6) f p7)) p9.line (PySem.W.ksEnv qual scope L fI (.ref cda) cc) = pure false)
    (hsw3 : ∀ L, swapsWith (.Name f2 q4) (some (.Attribute (.Name "self" q2) f2 q3)) q5.line (PySem.W.ksEnv qual scope L fI (.ref cda) cc) = pure false)
    (hx : s.heap.get? a = some (PySem.HandSPX.excO C t0)) (hab : ∀ b o, base.get? b = some o → b ≠ a)
    (hq : ∀ h' t' t1 dx, (∀ b o, b ≠ a → s.heap.get? b = some o → h'.get? b = some o) → s.heap.objs.size ≤ dx → dx ≠ a → h'.get? a = some (excD C t1 dx) → h'.Ns1 dx (fun y => if y = f2 then some u2 else if y = f then some u else none) → R (.ok (.ret .none)) ⟨h', s.gens, s.drawn, t', s.os⟩) :
    codeAny (model P w) A (.call (.ref fI) ⟨[.ref a, u, u2], []⟩) R s := by
  have X : K.In s.heap := M.kin.keeps bk
  have hal : a < s.heap.objs.size := Heap.lt_size hx
  refine PySem.ks_codeAny_call_defAt hroom (X _ _ lkf) rfl (M.nolimit.keeps bk) (PySem.W.codeRec_of X hcd) rfl hbind hnc (fun y hy => ?_) (fun h₀ hns k0 => ?_) hco hgen hk
  · simp only [List.mem_cons, List.not_mem_nil, or_false] at hy
    rcases hy with rfl | rfl | rfl
    · exact hka
    · exact hkf
    · exact hkf2
  · show PySem.wpAt (model P w) (A.deeper (PySem.W.ksEnv qual scope s.heap.objs.size fI (.ref cda) cc)) (.func (xBody2 f f2 p0 p1 p2 p3 q1 p4 p5 p6 p7 p8 p9 q2 q3 q4 q5) (PySem.W.ksEnv qual scope s.heap.objs.size fI (.ref cda) cc)) (execs (xBody2 f f2 p0 p1 p2 p3 q1 p4 p5 p6 p7 p8 p9 q2 q3 q4 q5) (PySem.W.ksEnv qual scope s.heap.objs.size fI (.ref cda) cc)) _ _ _
    obtain ⟨hp0, g0, d0, t00, os0⟩ := s
    have X0 : K.In h₀ := X.keeps k0
    have hself : (fun x : Str => ([(("self" : Str), Value.ref a), (f, u), (f2, u2)] : List (Str × Value)).reverse.lookup x) ("self" : Str) = some (.ref a) := by
      show ([(f2, u2), (f, u), (("self" : Str), Value.ref a)] : List (Str × Value)).lookup ("self" : Str) = _
      rw [List.lookup_cons]
      split
      · rename_i e
        exact absurd (eq_of_beq e).symm hsf2
      · rw [List.lookup_cons]
        split
        · rename_i e
          exact absurd (eq_of_beq e).symm hsf
        · rfl
    have hfu : (fun x : Str => ([(("self" : Str), Value.ref a), (f, u), (f2, u2)] : List (Str × Value)).reverse.lookup x) f = some u := by
      show ([(f2, u2), (f, u), ("self", Value.ref a)] : List (Str × Value)).lookup f = _
      rw [List.lookup_cons]
      split
      · rename_i e
        exact absurd (eq_of_beq e) hff
      · rw [List.lookup_cons, beq_self_eq_true]
    have hfu2 : (fun x : Str => ([(("self" : Str), Value.ref a), (f, u), (f2, u2)] : List (Str × Value)).reverse.lookup x) f2 = some u2 := by
      show ([(f2, u2), (f, u), ("self", Value.ref a)] : List (Str × Value)).lookup f2 = _
      rw [List.lookup_cons, beq_self_eq_true]
    have aL : hp0.objs.size ≠ a := Nat.ne_of_gt hal
    unfold xBody2
    refine PySem.ks_wpAt_execs_cons ?_
    refine super_first (m := fun x => ([("self", Value.ref a), (f, u), (f2, u2)] : List (Str × Value)).reverse.lookup x) (us := [u, u2]) (ar := ar) M x X0 ((M.glob.keeps bk).keeps k0) (by obtain ⟨mb, b1, b2⟩ := M.blt; exact ⟨mb, (b1.keeps bk).keeps k0, b2⟩) lkf lkc hvs hfile lkl hp har hks hkc hka hk (k0 _ _ hx) hns hself
      (by rw [sizeLine_eq]; show 2 ≤ _; decide) (fun s Q hn q => ?_) (he _) rfl (hcl _) (hi _) (hsw _) fun h' t' t1 k1 e1 => ?_
    · rw [hbt]
      obtain ⟨hp1, g1, d1, tt1, os1⟩ := s
      exact PySem.Calls.spliced_cons (ev_local (env := PySem.W.ksEnv qual scope hp0.objs.size fI (.ref cda) cc) hn hfu hk hkf hdf (PySem.Calls.spliced_cons (ev_local (env := PySem.W.ksEnv qual scope hp0.objs.size fI (.ref cda) cc) hn hfu2 hk hkf2 hdf2 (PySem.Calls.spliced_nil q))))
    · refine PySem.ks_wpAt_execs_cons (PySem.wpAt_of_wpAny ?_)
      have Xe : ∀ b o, b ≠ a → hp0.get? b = some o → h'.get? b = some o := fun b o ne q => k1 b o ne (k0 _ _ q)
      have ia : ∀ {b : Addr} {o : Obj}, K.lookup b = some o → b ≠ a := fun {b o} e => hab _ _ (M.kin _ _ e)
      have X1 : K.In h' := fun b o e => Xe b o (ia e) (X _ _ e)
      refine store_first (K := K) (C := C) (env := PySem.W.ksEnv qual scope hp0.objs.size fI (.ref cda) cc) (m := fun x => ([("self", Value.ref a), (f, u), (f2, u2)] : List (Str × Value)).reverse.lookup x) X1 x.T hno e1 (hns.at fun o q => k1 _ _ aL q) hself hfu hk hka hkf hdf (hsw2 _) fun h2 t2 dx k2 dn dne e2 n2 => ?_
      have X2 : K.In h2 := fun b o e => k2 b o (ia e) (X1 _ _ e)
      refine PySem.ks_wpAt_execs_cons (PySem.wpAt_of_wpAny ?_)
      refine store_more (K := K) (C := C) (env := PySem.W.ksEnv qual scope hp0.objs.size fI (.ref cda) cc) (m := fun x => ([("self", Value.ref a), (f, u), (f2, u2)] : List (Str × Value)).reverse.lookup x) X2 x.T hno2 e2 n2 (Within.cons f u Within.nil) (by show 1 ≤ 1000; decide) ((hns.at fun o q => k1 _ _ aL q).at fun o q => k2 _ _ aL q) hself hfu2 hk hka hkf2 hdf2 (hsw3 _) fun h3 t3 k3 n3 => ?_
      refine PySem.wpAt_of_wpAny ?_
      show wpAny _ _ (pure Flow.next) _ _ _
      refine wpAny_pure ?_
      have hL : hp0.objs.size < h'.objs.size := by
        obtain ⟨oL, es, ep, hL, _⟩ := hns
        exact Heap.lt_size (k1 _ _ aL hL)
      have nd : ∀ {b : Addr} {o : Obj}, h'.get? b = some o → b ≠ dx := fun {b o} q => Nat.ne_of_lt (Nat.lt_of_lt_of_le (Heap.lt_size q) dn)
      exact hq h3 t3 t1 dx (fun b o ne q => k3 b o (nd (Xe b o ne q)) (k2 b o ne (Xe b o ne q))) (Nat.le_trans (Nat.le_of_lt hL) dn) dne (k3 _ _ (Ne.symm dne) e2) n3
end
end Ge

set_option maxHeartbeats 400000
namespace Ge
open PySem PySem.Spec PyProof.Rows L2 Sd
/-- an own exception class whose __init__ keeps its values as fields -/
structure XOk (P : Program) (K : PySem.W.Frag) (mg : Str → Option Value) (C : Addr) (fs : List Str) : Prop where
  x : XCls P K mg C
  nd : fs.Nodup
  few : fs.length ≤ 2
  run : ∃ fI, PySem.W.findIn K (.ref C) "__init__" = some (some (.ref fI)) ∧ PySem.W.typeIn K (.ref fI) = some (.type "function") ∧
    ∀ (base : Heap), L2.Mod K mg base → ∀ (w : World) (A : Around) (s : Shared) (a t0 : Addr) (us : List Value) (R : Result → Shared → Prop), us.length = fs.length → (∀ b o, base.get? b = some o → s.heap.get? b = some o) → (∀ b o, base.get? b = some o → b ≠ a) → A.depth < recursionLimit → s.heap.get? a = some (PySem.HandSPX.excO C t0) →
      (∀ h' t' t1 dx mA, (∀ b o, b ≠ a → s.heap.get? b = some o → h'.get? b = some o) → s.heap.objs.size ≤ dx → dx ≠ a → h'.get? a = some (excD C t1 dx) → h'.Ns1 dx mA → (∀ (vs : List V), Vals vs us → ∀ g, RelO ((fs.zip vs).reverse.lookup g) (mA g)) → R (.ok (.ret .none)) ⟨h', s.gens, s.drawn, t', s.os⟩) →
      codeAny (model P w) A (.call (.ref fI) ⟨.ref a :: us, []⟩) R s
/-- C(e, ..) in a raise -/
def tMkX (C : Addr) (fs : List Str) (ta : TA) : L2.St → Hp → XK → Prop := fun σ H Q => ta σ H fun vs H1 => vs.length = fs.length ∧ ∀ dx, H1 dx = none → Q (.ref C) (some dx) (upd H1 dx (.xd (fs.zip vs).reverse))
theorem pmk_x {X : Cx} {x : Str} {C : Addr} {fs : List Str} {e : Expr} {es : List Expr} {ta : TA} {p pos : Pos} {k : Nat} (o : XOk X.prog X.K X.mg C fs) (hr : Room (k + 1) X.A) (hg : Gl X x) (hm : X.mg x = some (.ref C)) (ha : PA X (e :: es) ta)
    (hdb : (x == ("__debug__" : Str)) = false := by decide) (he : starEach (e :: es) X.env = (false, eval e X.env) :: starEach es X.env := by rfl) (hpl : (backTo pos (starEach es X.env)).any (·.1) = false := by rfl) :
    PMk X (.Call (.Name x p) (e :: es) [] pos) (tMkX C fs ta) := by
  intro pins s σ H Q I h
  have T := o.x.T
  obtain ⟨fI, iC, tI, run⟩ := o.run
  obtain ⟨nm, q, N, bs, bm, sn, sub, ab, col, dd, k0, k1, k2, k3, k5, hC, hbm⟩ := T.cls
  refine wpAny_Call_Name_kw (ld_glob I hg hm ?_ hdb)
  refine PySem.W.callWith_K (h₀ := X.base) I.ok.mod.kin T.kC (thn (ha.run pos pins s σ H _ I h) fun us s1 ⟨vs, H1, I1, r1, hz, q1⟩ => ⟨I1.kIn, ?_⟩) he hpl
  show wpAny _ _ (call (.ref C) us) _ _ _
  obtain ⟨hp, g, dr, tk, os⟩ := s1
  have kk : ∀ b o, hp.get? b = some o → ((hp.push (PySem.W.kdv_tup us)).push (PySem.HandSPX.excO C hp.objs.size)).get? b = some o := fun b o e => Heap.get?_push_of_some _ (Heap.get?_push_of_some _ e)
  have hget : ((hp.push (PySem.W.kdv_tup us)).push (PySem.HandSPX.excO C hp.objs.size)).get? (hp.objs.size + 1) = some (PySem.HandSPX.excO C hp.objs.size) := by heap_get
  have hlen : us.length = fs.length := by rw [← Paired.length r1, hz]
  have hus : us.length ≤ sizeLine := by
    rw [hlen, sizeLine_eq]
    have := o.few
    omega
  have bk : ∀ b o, X.base.get? b = some o → hp.get? b = some o := fun b o e => I1.bk b o e
  have bsz : ∀ b o, X.base.get? b = some o → b ≠ hp.objs.size + 1 := fun b o e => Nat.ne_of_lt (Nat.lt_succ_of_lt (Heap.lt_size (bk b o e)))
  refine wpAny_call (PySem.HandSPX.call_own F.excBase_ValueError (fun Y => PySem.HandSPX.refsVE_contains Y bm hbm) (I1.kIn _ _ hC) (PySem.W.looks_findIn I1.kIn iC) (fun self => PySem.W.bind_fn I1.kIn self tI) hus ?_)
  refine run X.base I.ok.mod X.w _ ⟨(hp.push (PySem.W.kdv_tup us)).push (PySem.HandSPX.excO C hp.objs.size), g, dr, tk, os⟩ (hp.objs.size + 1) _ us _ hlen (fun b o e => kk b o (bk b o e)) bsz ?_ hget fun h' t' t1 dx mA k4 dn dne e4 n4 rel => ?_
  · have := (hr.make C us []).dp
    omega
  · refine ⟨rfl, ?_⟩
    have k5 : ∀ b o, hp.get? b = some o → b ≠ hp.objs.size + 1 := fun b o e => Nat.ne_of_lt (Nat.lt_succ_of_lt (Heap.lt_size e))
    obtain ⟨G, g1, g2⟩ := restrict h' fun b => decide (b ≠ hp.objs.size + 1)
    have gk : ∀ b, b ≠ hp.objs.size + 1 → G.get? b = h'.get? b := fun b hb => g1 b (decide_eq_true hb)
    have ge : G.get? (hp.objs.size + 1) = none := g2 _ (by simp)
    have dsz : hp.objs.size ≤ dx := Nat.le_trans (by rw [Heap.size_push, Heap.size_push]; omega) dn
    have J : Inv X pins σ (upd H1 dx (.xd (fs.zip vs).reverse)) ⟨G, g, dr, t', os⟩ := I1.laid (t' := t') (a := dx) (o := .xd (fs.zip vs).reverse) (h' := G) (fun b o e => by
      rw [gk b (k5 b o e)]
      exact k4 b o (k5 b o e) (kk b o e)) dsz ⟨mA, n4.at fun o e => by rw [gk dx dne]; exact e, rel vs r1⟩
    refine ⟨hp.objs.size + 1, _, _, ⟨G, g, dr, t', os⟩, _, .ref C, some dx, rfl, J, fun b o e => ?_, ge, e4, ⟨rfl, rfl⟩, rfl, rfl, ?_, rfl, I1.bare, raises_own T.exC T.tyC, q1 dx (I1.hok.fresh dsz)⟩
    · by_cases hb : b = hp.objs.size + 1
      · rw [hb, ge] at e
        cases e
      · rw [← gk b hb]
        exact e
    · rw [upd_ne (Ne.symm dne)]
      exact I1.hok.fresh (Nat.le_succ _)
end Ge

set_option maxHeartbeats 1000000
namespace Ge
open PySem PySem.Spec PyProof.Rows L2 Sd
/-- several except clauses, each with the name n, at slot i -/
def wMs (K : PySem.W.Frag) (i : Nat) (D : Ends) : List (Value × (Addr → Value → Option Addr → TS)) → WX
  | [] => fun _ _ _ _ => False
  | (c, ts) :: r => fun cls d σ H => ∃ b, PySem.W.exmOne K cls c = some b ∧
      (b = true → ∀ a, H a = none → ts a cls d { nx := fun σ' H' => D.nx (σ'.set i none) H', rt := D.rt, bk := fun σ' H' => D.bk (σ'.set i none) H', ct := fun σ' H' => D.ct (σ'.set i none) H' } (σ.set i (some (.ref a))) H) ∧ (b = false → wMs K i D r cls d σ H)
inductive HdsN (X : Cx) (n : Str) : List ExceptHandler → List (Value × (Addr → Value → Option Addr → TS)) → Prop
  | nil : HdsN X n [] []
  | cons {x : Str} {c : Value} {ts : Addr → Value → Option Addr → TS} {b₀ : Stmt} {suite : List Stmt} {np pos' : Pos} {hds : List ExceptHandler} {l : List (Value × (Addr → Value → Option Addr → TS))} (hc : Names X x c)
      (hsu : ∀ (a : Addr) (oe : Obj) (cls : Value) (d : Option Addr) (pn : List (Addr × Obj)), Zc cls d oe → (∃ vs, oe.data = .fields vs) → PSs (X.suite a ((a, oe) :: pn)) (b₀ :: suite) (ts a cls d)) (r : HdsN X n hds l) :
      HdsN X n (.ExceptHandler (some (.Name x np)) (some n) (b₀ :: suite) pos' :: hds) ((c, ts) :: l)
section
variable {X : Cx} {n : Str} {i : Nat} {body : List Stmt} {h₀ : ExceptHandler} {hds : List ExceptHandler} {l : List (Value × (Addr → Value → Option Addr → TS))} {pos : Pos} {tb : WX → TS}
theorem ps_try_ms (hs : X.stack = X.env :: X.outer) (hf : X.env.frame = some X.env.locals) (hN : X.N.Nodup) (hi : X.N[i]? = some n) (hln : X.env.kindOf n = some .local)
    (hb : ∀ (W : WX) (pn : List (Addr × Obj)) (xe : Value → Shared → Prop), Takes (X.tr pn xe) W → PassesOwn (model X.prog X.w) X.A X.env xe → PSs (X.tr pn xe) body (tb W))
    (hh : HdsN X n (h₀ :: hds) l) : PS X (.Try body (h₀ :: hds) [] [] pos) (fun D σ H => tb (wMs X.K i D l) D σ H) := by
  refine ⟨fun pins s σ H D I h => ?_⟩
  have ok := I.ok
  have hfr : X.A.frames = some (X.env :: X.outer) := by rw [ok.frames, hs]
  have hloc : Loc X.env.scope n := .inl hln
  refine wpAny_Try_except ?_
  refine wpAny_mono ((hb (wMs X.K i D l) (X.pn ++ pins) (fun e s₁ => wpAny (model X.prog X.w) X.A (noteFrame e X.env) (fun _ s₂ => wpAny (model X.prog X.w) X.A (setFlight e none) (fun _ s₃ =>
    wpAny (model X.prog X.w) X.A (handleBy e X.env (h₀ :: hds)) (SP X pins D) X.xe s₃) X.xe s₂) X.xe s₁) (fun u s' xx => ?_) PassesOwn.looking).run [] s σ H D (I.toTry _) h) (fun f s1 hsp => ?_) (fun e s1 he => he)
  · obtain ⟨a, B, sI, pins', σ', H', cls, d, rfl, J', nb, up, sky, na, os, ag, w⟩ := xx
    have J : Inv X pins σ' H' sI := J'.ofTry ok
    have sky' : Sky B (X.env :: X.outer) a (Zc cls d) X.env.locals s'.heap := by rw [← hs]; exact sky
    show wpAny (model X.prog X.w) X.A (noteFrame (.ref a) X.env) _ _ _
    refine Sky.land Zc.steady hfr hf sky' fun h3 fl3 up3 => ?_
    have J3 : Inv X pins σ' H' { s' with heap := h3 } := J.landed nb fl3.1 (up.trans up3) os ag
    obtain ⟨oe3, vs3, he3, hz3, hd3⟩ := fl3.there
    have nfr : a ∉ frs (X.env :: X.outer) := fun hm => by
      obtain ⟨_, o', e', hnf⟩ := fl3.2.2.1.mem hm
      rw [he3] at e'
      cases e'
      exact hnf _ hd3
    have nL : a ≠ X.env.locals := fun z => nfr (List.mem_filterMap.mpr ⟨X.env, List.mem_cons_self, by rw [hf, z]⟩)
    have nF : a ∉ X.fs := fun hm => by
      obtain ⟨e, he, q⟩ := List.mem_filterMap.mp hm
      exact nfr (List.mem_filterMap.mpr ⟨e, List.mem_cons_of_mem _ he, q⟩)
    have S3 := J3.suite he3 hd3 na nL nF
    have go : ∀ {hds' : List ExceptHandler} {l' : List (Value × (Addr → Value → Option Addr → TS))}, HdsN X n hds' l' → wMs X.K i D l' cls d σ' H' →
        wpAny (model X.prog X.w) X.A (handleBy (.ref a) X.env hds') (SP X pins D) X.xe { s' with heap := h3 } := by
      intro hds' l' hk
      induction hk with
      | nil => exact fun w => w.elim
      | @cons x c ts b₀ suite np pos' hds2 l2 hc hsu r ih =>
        intro w
        obtain ⟨b, hb1, hyes, hno⟩ := w
        refine wpAny_handleBy_cons (codeAny_handlers_test ?_) (by intro q; cases q)
        have LT : PySem.W.Looks (model X.prog X.w) h3 (typeOf (.ref a)) cls := fun A Q E s k q => wpAny_typeOf_ref (k _ _ he3) (by rw [hz3.1]; exact q)
        have LM := PySem.W.exm_one (M := model X.prog X.w) (J3.kIn) LT hb1
        have test : ∀ {Q : Value → Shared → Prop} {E : Value → Shared → Prop}, Q c { s' with heap := h3 } → wpAny (model X.prog X.w) (X.A.mark (some (.ref a))) (eval (.Name x np) X.env) Q E { s' with heap := h3 } := fun {Q E} q => by
          obtain ⟨hg, hdbg, hm | ⟨hm, hv, hnn⟩⟩ := hc
          · exact ld_glob (X := X.suite a ((a, oe3) :: (X.pn ++ pins))) S3 hg hm q hdbg
          · exact ld_blt (X := X.suite a ((a, oe3) :: (X.pn ++ pins))) S3 hg hm hv q hnn hdbg
        refine test (LM.here ?_)
        cases b with
        | true =>
          refine codeAny_handlers_suite_as ?_
          refine HandSPX.lands_againZ fl3 fun h4 fl4 up4 => ?_
          have J4 : Inv X pins σ' H' { s' with heap := h4 } := J.landed nb fl4.1 ((up.trans up3).trans up4) os ag
          obtain ⟨oe4, vs4, he4, hz4, hd4⟩ := fl4.there
          have S4 := J4.suite he4 hd4 na nL nF
          refine store_ok (X := X.suite a ((a, oe4) :: (X.pn ++ pins))) (v := .ref a) S4 hN hi hloc rfl (fun s5 S5 => ?_) (.inr hln)
          refine wpAny_mono ((hsu a oe4 cls d (X.pn ++ pins) hz4 ⟨_, hd4⟩).run [] s5 _ H' _ S5 (hyes rfl a na)) (fun f s6 hsp => ?_) (fun _ _ z => False.elim z)
          have end_ : ∀ {σ6 : L2.St} {H6 : Hp} {Q : Shared → Prop}, Inv (X.suite a ((a, oe4) :: (X.pn ++ pins))) [] σ6 H6 s6 → (∀ s7, Inv X pins (σ6.set i none) H6 s7 → Q s7) →
              wpAny (model X.prog X.w) X.A (do bindName X.env n .none; unbindBehindTheSuite X.env n pos') (fun _ s7 => Q s7) X.xe s6 := fun {σ6 H6 Q} S6 hq => gone_ok (S6.unsuite ok) hN hi hln hq
          cases f with
          | ret u =>
            obtain ⟨v6, σ6, H6, S6, r6, q6⟩ := hsp
            exact end_ S6 fun s7 J7 => ⟨_, _, _, J7, r6, q6⟩
          | _ =>
            obtain ⟨σ6, H6, S6, q6⟩ := hsp
            exact end_ S6 fun s7 J7 => ⟨_, _, J7, q6⟩
        | false =>
          show wpAny _ X.A (handleBy (.ref a) X.env hds2) _ _ _
          exact ih (hno rfl)
    exact go hh w
  · cases f with
    | next =>
      obtain ⟨σ', H', J', q⟩ := hsp
      exact wpAny_execs_nil ⟨σ', H', J'.ofTry ok, q⟩
    | ret u =>
      obtain ⟨v, σ', H', J', r, q⟩ := hsp
      exact ⟨v, σ', H', J'.ofTry ok, r, q⟩
    | _ =>
      obtain ⟨σ', H', J', q⟩ := hsp
      exact ⟨σ', H', J'.ofTry ok, q⟩
end
end Ge

set_option maxHeartbeats 400000
namespace Ge
open PySem PySem.Spec PyProof.Rows L2 Sd
variable [HasT]
/-! ### raise -/
def dRaise (C : Addr) (fs : List Str) (dx : DA) : DS := fun ρ => (dx ρ).bind fun l => match ows l with
  | some os => (match flVs (frzs os) with | some vs => if vs.length = fs.length then .thr ⟨C, (fs.zip vs).reverse⟩ else .fail | none => .fail)
  | none => .fail
section
variable {P : Program} {w : World} {K : PySem.W.Frag} {mg : Str → Option Value} {base : Heap} {b : Bs} {ρ : List Sl} {σ : L2.St} {S H S' H' : Hp} {ps : List (V × Sl)} {X : Cx} {W : WX} {m c c1 c2 c3 : Bool}
  {e e1 e2 e3 tg : Expr} {es : List Expr} {te ta tb tc : TE} {tt tu : TT} {tx : TA} {da db dc : DE} {dt du : DB} {dx : DA} {pos pos' p : Pos} {C : Addr} {fs : List Str} {x : Str} {k : Nat}
theorem pds_raise (o : XOk P K mg C fs) (hP : X.prog = P) (hK : X.K = K) (hmg : X.mg = mg) (hr : Room (k + 1) X.A) (hc : X.calm = true) (tk : Takes X W) (hg : Gl X x) (hm : mg x = some (.ref C)) (ha : PDA K X W c (e :: es) tx dx)
    (hdb : (x == ("__debug__" : Str)) = false := by decide) (he : starEach (e :: es) X.env = (false, eval e X.env) :: starEach es X.env := by rfl) (hpl : (backTo pos (starEach es X.env)).any (·.1) = false := by rfl) :
    PDS K X W (.Raise (some (.Call (.Name x p) (e :: es) [] pos)) none pos') (fun _ σ H => tMkX C fs tx σ H fun cls d H' => W cls d σ H') (dRaise C fs dx) := by
  subst hP hK hmg
  refine ⟨ps_raise hc tk (pmk_x o hr hg hm ha.pa hdb he hpl), fun b ρ σ H ps D nv a q => ?_⟩
  show tx σ H _
  refine ha.ev b ρ σ H ps _ (fun _ => nv) a (G.good_mono (fun l k H1 us hl a1 => ?_) (fun _ h => h) (G.good_bind.mp q))
  clear q
  split at k
  · rename_i os ho
    split at k
    · rename_i vs hv
      split at k
      · rename_i hlen
        obtain ⟨T, F, A, r⟩ := At.args hl ho a1
        have ev := rps_flVs r hv
        subst ev
        refine ⟨hlen, fun dd nd => ?_⟩
        have k' : Thr X.K b W ps ⟨C, (fs.zip us).reverse⟩ := k
        exact k' ρ σ _ dd ⟨T, F, A.newH nd⟩ upd_same
      · exact k.elim
    · exact k.elim
  · exact k.elim
end
/-! ### try: body / except C: return a constant -/
def G.catchE {α : Type} : G α → (Exn → G α) → G α
  | .pure a, _ => .pure a | .fail, _ => .fail | .draw m k, f => .draw m fun v => (k v).catchE f | .thr e, f => f e
theorem G.good_catch {α : Type} {N : α → Prop} {E : Exn → Prop} {f : Exn → G α} : ∀ {g : G α}, (g.catchE f).good N E → g.good N fun e => (f e).good N E
  | .pure a, h => h
  | .fail, h => h
  | .thr e, h => h
  | .draw m k, h => ⟨h.1, h.2.1, fun v x y => G.good_catch (h.2.2 v x y)⟩
/-- which classes an except clause takes -/
abbrev Isub := Addr → Addr → Option Bool
def dTryR (is : Isub) (C : Addr) (r : Da) (body : DS) : DS := fun ρ => (body ρ).catchE fun e => match is e.c C with
  | some true => .pure (.rt (.dat r)) | some false => .thr e | none => .fail
section
variable {K : PySem.W.Frag} {X : Cx} {W : WX} {C : Addr} {x : Str} {np pos pos' p1 p2 : Pos} {body : List Stmt} {tb : WX → TS} {d : DS} {is : Isub} {kk : Nat} {bv : Bool}
theorem pds_tryR (his : ∀ a b r, is a b = some r → PySem.W.exmOne K (.ref a) (.ref b) = some r) (hK : X.K = K) (hs : X.stack = X.env :: X.outer) (hf : X.env.frame = some X.env.locals) (hg : Gl X x) (hm : X.mg x = some (.ref C)) (tk : Takes X W)
    (hb : ∀ (W' : WX) (pn : List (Addr × Obj)) (xe : Value → Shared → Prop), Takes (X.tr pn xe) W' → PDSs K (X.tr pn xe) W' body (tb W') d) (hdb : (x == ("__debug__" : Str)) = false := by decide) :
    PDS K X W (.Try body [.ExceptHandler (some (.Name x np)) none [.Return (some (.Constant (.bool bv) kk p1)) p2] pos'] [] [] pos) (fun D σ H => tb (wOnly X.K (.ref C) (fun _ _ _ => tRet (tC (.bl bv))) W D) D σ H) (dTryR is C (.bl bv) d) := by
  subst hK
  refine ⟨ps_try_only hs hf ⟨hg, hdb, .inl hm⟩ tk (fun W' pn xe tk' _ => (hb W' pn xe tk').ps) fun a oe cls dd pn _ _ => pss_one (ps_ret pe_bl), fun b ρ σ H ps D nv a q => ?_⟩
  have q := G.good_catch q
  refine (hb _ [] (fun _ _ => True) (fun _ _ _ => trivial)).ev b ρ σ H ps D nv a (G.good_mono (fun _ h => h) (fun e h => ?_) q)
  intro ρ' σ' H' dx a' hdx
  cases r : is e.c C with
  | none => rw [r] at h; exact h.elim
  | some bb =>
    refine ⟨bb, his _ _ _ r, fun hb a0 _ => ?_, fun hb => ?_⟩
    · subst hb
      rw [r] at h
      exact h ρ' σ' H' _ (a'.bl bv)
    · subst hb
      rw [r] at h
      exact h ρ' σ' H' dx a' hdx
end
end Ge

set_option maxHeartbeats 400000
namespace Ge
open PySem PySem.Spec PyProof.Rows L2 Sd
variable [HasT]
/-- a flat value as data -/
def vDa : V → Option Da
  | .int i => some (.int i) | .str z => some (.str z) | .non => some .non | .bl c => some (.bl c) | _ => none
theorem vDa_rp {K : PySem.W.Frag} {S : Hp} {v : V} {d : Da} (h : vDa v = some d) : Rp K S v d := by
  cases v <;> cases h
  · exact .non
  · exact .bl _
  · exact .int _
  · exact .str _
/-! ### isinstance of a caught error with a dict -/
def rIsX (K : PySem.W.Frag) (a : Addr) (cls : Value) (d : Option Addr) : List V → Hp → VK → Prop := fun xs H Q => ∃ (D : Addr) (c : V) (cv : Value) (b : Bool) (dd : Addr) (fs : List (Str × V)), xs = [.ref a, c] ∧ cls = .ref D ∧ d = some dd ∧ H dd = some (.xd fs) ∧ ExcC K D ∧
  (∀ u, RelV c u → u = cv) ∧ PySem.W.kitOne K (.ref D) cv = some b ∧ Q (.bl b) H
theorem call_isX {X : Cx} {a : Addr} {oe : Obj} {cls : Value} {d : Option Addr} {pn : List (Addr × Obj)} (hz : Zc cls d oe) (hf : ∃ vs, oe.data = .fields vs) : CallR (X.suite a ((a, oe) :: pn)) (.builtin "isinstance") (rIsX X.K a cls d) := by
  intro pins s σ H xs us Q I r h
  obtain ⟨D, c, cv, b, dd, fs, rfl, rfl, rfl, hx, C, hcv, e, q⟩ := h
  obtain ⟨u1, u2, rfl, r1, r2⟩ := Vals.two r
  cases r1
  have ec := hcv _ r2
  subst ec
  obtain ⟨hget, _⟩ := I.pin (a, oe) (List.mem_append.mpr (.inl List.mem_cons_self))
  obtain ⟨vs, hv⟩ := hf
  have hx : ObjOk X.prog X.w H s.heap dd (.xd fs) := I.hok dd _ hx
  obtain ⟨mA, hns, hr⟩ := hx
  obtain ⟨od, ho, hl⟩ := lookIn_ns hns
  have J : PySem.W.InstAt s.heap a oe D (some od) := ⟨hget, hz.1, by unfold PySem.W.notCls; rw [hv], by rw [hz.2]; exact ho⟩
  obtain ⟨cd, hcd, _⟩ := PySem.W.any_some C.hd
  exact PySem.W.kia_one (PySem.W.kitx_exc (by rw [hcd]; rfl) C.hg C.hk C.hs C.ha C.hn C.ht C.hm) I.kIn J e (fun z => nomatch z) fun tk => ⟨.bl b, H, I.kept (t' := tk) fun _ _ z => z, rfl, q⟩
def xfAdd (f1 f2 : List (Str × V) → Option V) : List (Str × V) → Option V := fun fs => match f1 fs, f2 fs with | some (.str x), some (.str y) => if small (x.length + y.length) = true then some (.str (x ++ y)) else none | _, _ => none
def xfCons (f : List (Str × V) → Option V) (fx : List (Str × V) → Option (List V)) : List (Str × V) → Option (List V) := fun fs => match f fs, fx fs with | some v, some vs => some (v :: vs) | _, _ => none
def xfNil : List (Str × V) → Option (List V) := fun _ => some []
def xfC (v : V) : List (Str × V) → Option V := fun _ => some v
def xfF (F : Str) : List (Str × V) → Option V := fun fs => fs.lookup F
/-- an expression of a suite, of an error of the class C: flat, from the error's fields -/
structure XV (X : Cx) (C : Addr) (i : Nat) (e : Expr) (te : Addr → Value → Option Addr → TE) (f : List (Str × V) → Option V) : Prop where
  pe : ∀ (a : Addr) (oe : Obj) (cls : Value) (d : Option Addr) (pn : List (Addr × Obj)), Zc cls d oe → (∃ vs, oe.data = .fields vs) → PE (X.suite a ((a, oe) :: pn)) e (te a cls d)
  ev : ∀ (a dd : Addr) (fs : List (Str × V)) (v : V) (σZ : L2.St) (H : Hp) (Q : VK), H dd = some (.xd fs) → σZ[i]? = some (some (.ref a)) → f fs = some v → Q v H → te a (.ref C) (some dd) σZ H Q
structure XT (X : Cx) (C : Addr) (i : Nat) (e : Expr) (tt : Addr → Value → Option Addr → TT) (g : Bool) : Prop where
  pt : ∀ (a : Addr) (oe : Obj) (cls : Value) (d : Option Addr) (pn : List (Addr × Obj)), Zc cls d oe → (∃ vs, oe.data = .fields vs) → PT (X.suite a ((a, oe) :: pn)) e (tt a cls d)
  ev : ∀ (a dd : Addr) (fs : List (Str × V)) (σZ : L2.St) (H : Hp) (Q : Bool → Hp → Prop), H dd = some (.xd fs) → σZ[i]? = some (some (.ref a)) → Q g H → tt a (.ref C) (some dd) σZ H Q
structure XA (X : Cx) (C : Addr) (i : Nat) (es : List Expr) (ta : Addr → Value → Option Addr → TA) (f : List (Str × V) → Option (List V)) : Prop where
  pa : ∀ (a : Addr) (oe : Obj) (cls : Value) (d : Option Addr) (pn : List (Addr × Obj)), Zc cls d oe → (∃ vs, oe.data = .fields vs) → PA (X.suite a ((a, oe) :: pn)) es (ta a cls d)
  ev : ∀ (a dd : Addr) (fs : List (Str × V)) (vs : List V) (σZ : L2.St) (H : Hp) (Q : List V → Hp → Prop), H dd = some (.xd fs) → σZ[i]? = some (some (.ref a)) → f fs = some vs → Q vs H → ta a (.ref C) (some dd) σZ H Q
section
variable {X : Cx} {C : Addr} {i : Nat} {e e1 e2 : Expr} {es : List Expr} {te ta tb : Addr → Value → Option Addr → TE} {tt tu : Addr → Value → Option Addr → TT} {tx : Addr → Value → Option Addr → TA} {f f1 f2 : List (Str × V) → Option V} {fx : List (Str × V) → Option (List V)} {g g1 g2 : Bool} {pos p p1 p2 : Pos} {n : Str} {z : Str} {kk : Nat}
theorem xv_str : XV X C i (.Constant (.str z) kk pos) (fun _ _ _ => tC (.str z)) (xfC (.str z)) :=
  ⟨fun _ _ _ _ _ _ _ => pe_str, fun _ _ _ v _ _ Q _ _ e q => by cases e; exact q⟩
theorem xv_fld {F : Str} {K : PySem.W.Frag} (hK : X.K = K) (T : XfC K C) (hno : PySem.W.findIn K (.ref C) F = some none) (hi : X.N[i]? = some n) (hv : ∀ a oe pn, PE (X.suite a ((a, oe) :: pn)) (.Name n p) (tVar i)) (hb : ∀ a oe pn, attributeBase (.Name n p) F (X.suite a ((a, oe) :: pn)).env (eval (.Name n p) (X.suite a ((a, oe) :: pn)).env) = eval (.Name n p) (X.suite a ((a, oe) :: pn)).env) :
    XV X C i (.Attribute (.Name n p) F pos) (fun a cls d => tXf a cls d C F (tVar i)) (xfF F) :=
  ⟨fun a oe cls d pn hz hf => pe_xf (hK ▸ T) (hK ▸ hno) hz hf (hv a oe pn) (hb a oe pn), fun a dd fs v σZ H Q hx hs e q => ⟨_, hs, rfl, rfl, dd, fs, v, rfl, hx, e, q⟩⟩
theorem xt_is {B : Addr} {nb : Str} {b : Bool} {K : PySem.W.Frag} {mg : Str → Option Value} (hK : X.K = K) (hmg : X.mg = mg) (T : ExcC K C) (hk : PySem.W.kitOne K (.ref C) (.ref B) = some b) (hm : mg nb = some (.ref B)) (hmi : mg "isinstance" = none) (hv : ∀ a oe pn, PE (X.suite a ((a, oe) :: pn)) (.Name n p) (tVar i))
    (hg : ∀ a oe pn, Gl (X.suite a ((a, oe) :: pn)) "isinstance") (hg2 : ∀ a oe pn, Gl (X.suite a ((a, oe) :: pn)) nb) (hd : (nb == ("__debug__" : Str)) = false)
    (he : ∀ a oe pn, starEach [.Name n p, .Name nb p2] (X.suite a ((a, oe) :: pn)).env = (false, eval (.Name n p) (X.suite a ((a, oe) :: pn)).env) :: starEach [.Name nb p2] (X.suite a ((a, oe) :: pn)).env) (he2 : ∀ a oe pn, starEach [.Name nb p2] (X.suite a ((a, oe) :: pn)).env = (false, eval (.Name nb p2) (X.suite a ((a, oe) :: pn)).env) :: starEach [] (X.suite a ((a, oe) :: pn)).env) (hpl : ∀ a oe pn, (backTo pos (starEach [.Name nb p2] (X.suite a ((a, oe) :: pn)).env)).any (·.1) = false) :
    XV X C i (.Call (.Name "isinstance" p1) [.Name n p, .Name nb p2] [] pos) (fun a cls d => tCB (rIsX K a cls d) (tCons (tVar i) (tCons (tC (.ref B)) tNil))) (xfC (.bl b)) := by
  subst hK hmg
  exact ⟨fun a oe cls d pn hz hf => pe_callB (call_isX hz hf) (hg a oe pn) hmi (by decide +kernel) (pa_cons (hv a oe pn) (pa_cons (pe_glob (v := .ref B) (hg2 a oe pn) hm rfl hd) pa_nil (he2 a oe pn)) (he a oe pn)) (by decide) (by decide) (he a oe pn) (hpl a oe pn),
    fun a dd fs v σZ H Q hx hs e q => by
      cases e
      exact ⟨_, hs, C, .ref B, .ref B, b, dd, fs, rfl, rfl, rfl, hx, T, fun u r => r, hk, q⟩⟩
theorem xt_val (h : XV X C i e te (xfC (.bl g))) (he : ∀ a oe pn whole, isTrue e (X.suite a ((a, oe) :: pn)).env whole = (do let v ← whole; standAt e.pos; holding [v] (truthy v))) : XT X C i e (fun a cls d => tB (te a cls d)) g :=
  ⟨fun a oe cls d pn hz hf => pt_val (h.pe a oe cls d pn hz hf) (he a oe pn), fun a dd fs σZ H Q hx hs q => h.ev a dd fs (.bl g) σZ H _ hx hs rfl ⟨g, rfl, q⟩⟩
theorem xt_not (h : XT X C i e tt g) : XT X C i (.UnaryOp .Not e pos) (fun a cls d => tNot (tt a cls d)) (!g) :=
  ⟨fun a oe cls d pn hz hf => pt_not (h.pt a oe cls d pn hz hf), fun a dd fs σZ H Q hx hs q => h.ev a dd fs σZ H _ hx hs q⟩
theorem xt_and (h1 : XT X C i e1 tt g1) (h2 : XT X C i e2 tu g2) : XT X C i (.BoolOp .And [e1, e2] pos) (fun a cls d => tAnd (tt a cls d) (tu a cls d)) (g1 && g2) :=
  ⟨fun a oe cls d pn hz hf => (pw_and (h1.pt a oe cls d pn hz hf) (pw_and1 (h2.pt a oe cls d pn hz hf))).pt, fun a dd fs σZ H Q hx hs q => h1.ev a dd fs σZ H _ hx hs (by
    cases g1 with
    | true => exact h2.ev a dd fs σZ H _ hx hs q
    | false => exact q)⟩
theorem xv_if (h : XT X C i e tt g) (h1 : XV X C i e1 ta f1) (h2 : XV X C i e2 tb f2) : XV X C i (.IfExp e e1 e2 pos) (fun a cls d => tIf (tt a cls d) (ta a cls d) (tb a cls d)) (if g = true then f1 else f2) :=
  ⟨fun a oe cls d pn hz hf => pe_ifExp (h.pt a oe cls d pn hz hf) (h1.pe a oe cls d pn hz hf) (h2.pe a oe cls d pn hz hf), fun a dd fs v σZ H Q hx hs e q => h.ev a dd fs σZ H _ hx hs (by
    cases g with
    | true => exact h1.ev a dd fs v σZ H _ hx hs e q
    | false => exact h2.ev a dd fs v σZ H _ hx hs e q)⟩
theorem xv_add (h1 : XV X C i e1 ta f1) (h2 : XV X C i e2 tb f2) : XV X C i (.BinOp e1 .Add e2 pos) (fun a cls d => tOp (fun x y H Q => ∃ i j, x = .str i ∧ y = .str j ∧ i.length + j.length ≤ sizeLine ∧ Q (.str (i ++ j)) H) (ta a cls d) (tb a cls d))
    (xfAdd f1 f2) :=
  ⟨fun a oe cls d pn hz hf => pe_op op_add_str (h1.pe a oe cls d pn hz hf) (h2.pe a oe cls d pn hz hf), fun a dd fs v σZ H Q hx hs e q => by
    unfold xfAdd at e
    split at e
    · rename_i x y k1 k2
      split at e
      · rename_i hl
        cases e
        exact h1.ev a dd fs _ σZ H _ hx hs k1 (h2.ev a dd fs _ σZ H _ hx hs k2 ⟨x, y, rfl, rfl, by rw [sizeLine_eq]; exact Nat.le_trans (of_decide_eq_true hl) (by decide), q⟩)
      · cases e
    · cases e⟩
theorem xa_nil : XA X C i [] (fun _ _ _ => tNil) xfNil := ⟨fun _ _ _ _ _ _ _ => pa_nil, fun _ _ _ _ _ _ _ _ _ e q => by cases e; exact q⟩
theorem xa_cons (h : XV X C i e te f) (t : XA X C i es tx fx) (hs : ∀ a oe pn, starEach (e :: es) (X.suite a ((a, oe) :: pn)).env = (false, eval e (X.suite a ((a, oe) :: pn)).env) :: starEach es (X.suite a ((a, oe) :: pn)).env) :
    XA X C i (e :: es) (fun a cls d => tCons (te a cls d) (tx a cls d)) (xfCons f fx) :=
  ⟨fun a oe cls d pn hz hf => pa_cons (h.pe a oe cls d pn hz hf) (t.pa a oe cls d pn hz hf) (hs a oe pn), fun a dd fs vs σZ H Q hx hs e q => by
    unfold xfCons at e
    split at e
    · rename_i v ws k1 k2
      cases e
      exact h.ev a dd fs v σZ H _ hx hs k1 (t.ev a dd fs ws σZ H _ hx hs k2 q)
    · cases e⟩
end
end Ge

set_option maxHeartbeats 2000000
namespace Ge
open PySem PySem.Spec PyProof.Rows L2 Sd
/-- a lambda handed to a def: of what stands, only the tables change -/
def tLamP (T : List (Addr × Str)) (TT : (XK → Hp → VK → Prop) → Hp → VK → Prop) (t : XK → TE) : TE := fun σ H Q => LamX.Tabs T H ∧ ∀ H1, (∀ b o, H b = some o → (∀ t ∈ T, b ≠ t.1) → H1 b = some o) → LamX.Tabs T H1 → TT (fun E H' Q' => t E σ H' Q') H1 Q
section
variable {X : Cx} {pins : List (Addr × Obj)} {σ : L2.St} {H : Hp} {s : Shared}
/-- the lambda is made: its code object is new, or found in the table -/
theorem lam_makeP {T : List (Addr × Str)} {c P : Addr} {params : Arguments} {body : Expr} {scope : Scope} {pos : Pos} {E : Value → Shared → Prop} {Q : Value → Shared → Prop} (I : Inv X pins σ H s) (TB : LamX.TabB X.base X.mg c P) (hcode : X.env.code = .ref c)
    (hm : (P, X.env.qual ++ "<lambda>") ∈ T) (hu : ∀ p ∈ T, p.1 = P → p.2 = X.env.qual ++ "<lambda>") (hT : LamX.Tabs T H) (hdef : defaultsOf params X.env = ([], [])) (hfree : ∀ y ∈ scope.names, y.2 = .free → ∃ c, X.env.cells.lookup y.1 = some c)
    (h : ∀ (f c' : Addr) (pm ctv : Value) (H1 : Hp) (s' : Shared), Inv X pins σ H1 s' → (∀ b o, H b = some o → (∀ t ∈ T, b ≠ t.1) → H1 b = some o) → LamX.Tabs T H1 →
      s'.heap.get? f = some (PySem.W.kla_obj "<lambda>" (X.env.qual ++ "<lambda>") params body scope (cloFrom X.env.cells scope.names []) pm c' ctv) → H1 f = none → f ∉ frs X.stack → H1 c' = some (LamX.CodeO c' (X.env.qual ++ "<lambda>")) → Q (.ref f) s') :
    wpAny (model X.prog X.w) X.A (eval (.Lambda params body scope pos) X.env) Q E s := by
  obtain ⟨ps, hP, ht, ha⟩ := hT _ hm
  refine PySem.W.kla_eval hdef ?_
  have bP : s.heap.BuiltinsAt X.mg P := TB.bm.keeps I.bk
  have hP' : s.heap.get? P = some { cls := .none, data := .fields ps } := I.hok P _ hP
  have nofr : ∀ f, s.heap.objs.size ≤ f → f ∉ frs X.stack := fun f hf z => by
    rcases List.mem_cons.mp (I.stkSub _ z) with e | e
    · have h1 := I.lt
      rw [← e] at h1
      exact Nat.lt_irrefl _ (Nat.lt_of_lt_of_le h1 hf)
    · exact I.nofs hf e
  cases hc : codeAmong pos ps.toList with
  | none =>
    refine PySem.W.kla_makeFunction (mg := X.mg) (c := c) (P := P) (ps := ps) (closure_ok hfree) I.ok.glob (I.mod.glob.keeps I.bk) hcode (TB.code.keeps I.bk) hP' ht hc TB.gP bP fun c' ctv h' tk hx hge hlt hrec htb => ?_
    obtain ⟨c2, oc, vs, t, e2, hoc, hd, hv⟩ := hrec
    cases e2
    have hsz : s.heap.objs.size ≤ h'.objs.size := Nat.le_trans hge (Nat.le_of_lt hlt)
    have nC : H c' = none := I.hok.fresh hge
    have I1 := LamX.inv_table (t' := tk) (more := #[rawInt pos.line, rawInt pos.col, .ref c']) (h' := h'.push (PySem.W.kla_obj "<lambda>" (X.env.qual ++ "<lambda>") params body scope (cloFrom X.env.cells scope.names []) ((X.mg "__name__").getD .none) c' ctv)) I hP
      (fun b o hb e => Heap.get?_push_of_some _ (hx b o hb e)) (Heap.get?_push_of_some _ htb) hge ⟨oc, vs, t, Heap.get?_push_of_some _ hoc, hd, hv⟩
    have hE : ∀ b o, H b = some o → b ≠ P → (upd (upd H P (.tbl (ps ++ #[rawInt pos.line, rawInt pos.col, .ref c']))) c' (LamX.CodeO c' (X.env.qual ++ "<lambda>"))) b = some o := fun b o e n => by
      rw [upd_ne (ne_of_none e nC), upd_ne n]
      exact e
    have eL : (ps ++ #[rawInt pos.line, rawInt pos.col, .ref c']).toList = ps.toList ++ [rawInt pos.line, rawInt pos.col, .ref c'] := by simp
    refine h h'.objs.size c' ((X.mg "__name__").getD .none) ctv _ _ I1 (fun b o e n => hE b o e (n _ hm)) (fun p hp => ?_) (Heap.get?_push_size _ rfl) ?_ (nofr _ hsz) upd_same
    · by_cases hb : p.1 = P
      · rw [hu p hp hb, hb]
        refine ⟨_, by rw [upd_ne (ne_of_none hP nC), upd_same], by rw [eL]; exact PySem.TriplesOk_snoc _ _ _ _ ht, fun p' cv hcv => ?_⟩
        rw [eL] at hcv
        rcases LamX.among_app _ ht hcv with z | z
        · obtain ⟨c0, e1, e2⟩ := ha p' cv z
          exact ⟨c0, e1, hE _ _ e2 fun z => by
            rw [z, hP] at e2
            exact LamX.codeO_ne ps (Option.some.inj e2).symm⟩
        · exact ⟨c', z, upd_same⟩
      · obtain ⟨ps', a1, a2, a3⟩ := hT p hp
        refine ⟨ps', by rw [upd_ne (ne_of_none a1 nC), upd_ne hb]; exact a1, a2, fun p' cv hcv => ?_⟩
        obtain ⟨c0, e1, e2⟩ := a3 p' cv hcv
        exact ⟨c0, e1, hE _ _ e2 fun z => by
            rw [z, hP] at e2
            exact LamX.codeO_ne ps (Option.some.inj e2).symm⟩
    · have n1 : h'.objs.size ≠ c' := Nat.ne_of_gt hlt
      have n2 : h'.objs.size ≠ P := Nat.ne_of_gt (Nat.lt_of_lt_of_le (Heap.lt_size hP') hsz)
      rw [upd_ne n1, upd_ne n2]
      exact I.hok.fresh hsz
  | some cv =>
    obtain ⟨c', e, hco⟩ := ha pos cv hc
    subst e
    refine PySem.W.kla_makeFunctionHit (mg := X.mg) (c := c) (P := P) (ps := ps) (closure_ok hfree) I.ok.glob (I.mod.glob.keeps I.bk) hcode (TB.code.keeps I.bk) hP' ht hc bP fun ctv h' tk hx hsz => ?_
    have I1 : Inv X pins σ H { s with heap := h'.push (PySem.W.kla_obj "<lambda>" (X.env.qual ++ "<lambda>") params body scope (cloFrom X.env.cells scope.names []) ((X.mg "__name__").getD .none) c' ctv), toks := tk } := I.kept fun b o e => Heap.get?_push_of_some _ (hx b o e)
    exact h h'.objs.size c' ((X.mg "__name__").getD .none) ctv H _ I1 (fun b o e _ => e) hT (Heap.get?_push_size _ rfl) (I.hok.fresh hsz) (nofr _ hsz) hco
/-- x(lambda: body) -/
theorem pe_lamcallP {T : List (Addr × Str)} {TT : (XK → Hp → VK → Prop) → Hp → VK → Prop} {x a : Str} {g c P : Addr} {k : Nat} {pg : Arguments} {bg : List Stmt} {sg : Scope} {dV kV doc pm cdv ct oc : Value} {an od : Option Addr} {osl : Array (Option Value)} {Ng : List Str}
    {params : Arguments} {body : Expr} {scope : Scope} {t : XK → TE} {p lpos pos : Pos} (hg : Gl X x) (hm : X.mg x = some (.ref g)) (hk : PySem.W.keepIn X.K (.ref g) = true)
    (lk : X.K.lookup g = some ⟨oc, od, .func (PySem.W.fnOf x x pg bg sg dV kV doc pm an cdv ct), osl⟩) (hcg : PySem.W.codeIn X.K cdv x = true) (hb : L2.Binds X.K (PySem.W.fnOf x x pg bg sg dV kV doc pm an cdv ct) [a] []) (Sg : FnScope Ng [a] sg) (hNg : Ng[0]? = some a) (hva : Vis sg a)
    (hG : LamX.GivesTo X Ng x sg g cdv bg a (X.env.qual ++ "<lambda>") TT)
    (TB : LamX.TabB X.base X.mg c P) (hcode : X.env.code = .ref c) (hmT : (P, X.env.qual ++ "<lambda>") ∈ T) (hu : ∀ p ∈ T, p.1 = P → p.2 = X.env.qual ++ "<lambda>") (hr : Room (k + 2) X.A) (L : LamX.LamS X.env.scope scope) (hdef : defaultsOf params X.env = ([], []))
    (hbind : ∀ (q : Str) (cl : List (Str × Addr)) (pm cv ctv : Value), bindArgs (PySem.W.kla_fn "<lambda>" q params body scope cl pm cv ctv) ⟨[], []⟩ = pure [])
    (hbody : ∀ (A : Around) (outer : List Env) (s : Shared) (H : Hp) (E : XK) (f c' : Addr), Room k (A.deeper (LamX.lamEnv X scope s.heap.objs.size f c')) → PE (LamX.lamCx X A outer s H E scope f c') body (t E))
    (hdb : (x == ("__debug__" : Str)) = false := by decide) (hd : (a == ("__debug__" : Str)) = false := by decide) (hcd : (a == ("__classdict__" : Str)) = false := by decide) :
    PE X (.Call (.Name x p) [.Lambda params body scope lpos] [] pos) (tLamP T TT t) := by
  refine ⟨fun pins s σ H Q I h => ?_⟩
  obtain ⟨hT, h⟩ := h
  refine wpAny_Call_Name_kw (ld_glob I hg hm ?_ hdb)
  refine PySem.W.callWith_K (h₀ := X.base) I.ok.mod.kin hk ?_ (by rfl) (by rfl)
  show wpAny _ _ (spliced ((false, eval (.Lambda params body scope lpos) X.env) :: backTo pos (starEach [] X.env))) _ _ s
  refine Calls.spliced_cons (lam_makeP I TB hcode hmT hu hT hdef (L.has I.ok) fun f c' pm' ctv H1 s' I1 eN T1 hf hfn hfr hco => ?_)
  refine Calls.spliced_nil ⟨I1.kIn, ?_⟩
  have rc : codeAny (model X.prog X.w) X.A (.call (.ref g) ⟨[.ref f], []⟩) (CR C8.CX0 X.stack X.prog X.w H1 s' Q C8.E0) s' := by
    refine LamX.run_ofS (N := Ng) (ps := [a]) (us := [.ref f]) (vs := [.ref f]) lk hcg Sg hr I1.env0 (hb s' [.ref f] I1.kIn rfl) (.cons rfl .nil) rfl fun hr' => ?_
    obtain ⟨t', ht', hq'⟩ := hG f c' s' H1 Q (fun E H' Q' => t E σ H' Q') (fun W pn xe E p1 p2 tk hW => LamX.pe_act (i := 0) I1 L hf hfn hfr (hbind _ _ _ _ _) tk hW hr' (fun A outer s H hr2 => hbody A outer s H E f c' hr2) hNg hva hd hcd) hco (h H1 eN T1)
    exact ⟨t', ht'.nox, hq'⟩
  refine wpAny_call (codeAny_mono rc fun r s2 hq => ?_)
  cases r with
  | error e => exact (show False from hq).elim
  | ok fl =>
    cases fl with
    | ret u => exact I1.after hq
    | next => exact False.elim hq
    | brk => exact False.elim hq
    | cont => exact False.elim hq
end
end Ge

set_option maxHeartbeats 400000
namespace Ge
open PySem PySem.Spec PyProof.Rows L2 Sd
variable [HasT]
def vDas : List V → Option (List Da)
  | [] => some []
  | v :: r => match vDa v, vDas r with | some d, some ds => some (d :: ds) | _, _ => none
theorem vDas_rp {K : PySem.W.Frag} {S : Hp} : ∀ {vs : List V} {ds : List Da}, vDas vs = some ds → Rps K S vs ds
  | [], ds, h => by cases h; exact .nil
  | v :: r, ds, h => by
    unfold vDas at h
    split at h
    · rename_i d es h1 h2
      cases h
      exact .cons (vDa_rp h1) (vDas_rp h2)
    · cases h
def xrV (f : List (Str × V) → Option V) : List (Str × V) → Option Da := fun fs => (f fs).bind vDa
def xrT (fx : List (Str × V) → Option (List V)) : List (Str × V) → Option Da := fun fs => ((fx fs).bind vDas).bind fun ds => if small ds.length = true then some (.tup ds) else none
/-- what an except clause returns -/
structure XR (K : PySem.W.Frag) (X : Cx) (C : Addr) (i : Nat) (e : Expr) (te : Addr → Value → Option Addr → TE) (f : List (Str × V) → Option Da) : Prop where
  pe : ∀ (a : Addr) (oe : Obj) (cls : Value) (d : Option Addr) (pn : List (Addr × Obj)), Zc cls d oe → (∃ vs, oe.data = .fields vs) → PE (X.suite a ((a, oe) :: pn)) e (te a cls d)
  ev : ∀ (b : Bs) (ρ : List Sl) (σ : L2.St) (ps : List (V × Sl)) (a dd : Addr) (fs : List (Str × V)) (da : Da) (σZ : L2.St) (H : Hp) (Q : VK), At K b ρ σ H ps → H dd = some (.xd fs) → σZ[i]? = some (some (.ref a)) → f fs = some da → (∀ H' v, At K b ρ σ H' ((v, .dat da) :: ps) → Q v H') → te a (.ref C) (some dd) σZ H Q
section
variable {K : PySem.W.Frag} {X : Cx} {C : Addr} {i : Nat} {e e1 e2 : Expr} {es : List Expr} {te ta tb : Addr → Value → Option Addr → TE} {tt : Addr → Value → Option Addr → TT} {tx : Addr → Value → Option Addr → TA} {f : List (Str × V) → Option V} {f1 f2 : List (Str × V) → Option Da} {fx : List (Str × V) → Option (List V)} {g : Bool} {pos : Pos} {x1 : Nat}
theorem xr_v (h : XV X C i e te f) : XR K X C i e te (xrV f) := ⟨h.pe, fun b ρ σ ps a dd fs da σZ H Q A hx hs e q => by
  obtain ⟨v, e1, e2⟩ := Option.bind_eq_some_iff.mp (show (f fs).bind vDa = some da from e)
  exact h.ev a dd fs v σZ H Q hx hs e1 (q H v (A.pushD fun S => vDa_rp e2))⟩
theorem xr_tup (h : XA X C i es tx fx) : XR K X C i (.Tuple es x1 pos) (fun a cls d => tTup (tx a cls d)) (xrT fx) :=
  ⟨fun a oe cls d pn hz hf => pe_tup (h.pa a oe cls d pn hz hf), fun b ρ σ ps a dd fs da σZ H Q A hx hs e q => by
    obtain ⟨ds, e0, e3⟩ := Option.bind_eq_some_iff.mp (show (((fx fs).bind vDas).bind fun ds => if small ds.length = true then some (Da.tup ds) else none) = some da from e)
    obtain ⟨vs, e1, e2⟩ := Option.bind_eq_some_iff.mp e0
    split at e3
    · rename_i hsm
      cases e3
      have hl : vs.length = ds.length := (vDas_rp (K := K) (S := H) e2).len
      exact h.ev a dd fs vs σZ H _ hx hs e1 ⟨by rw [hl, sizeLine_eq]; exact Nat.le_trans (of_decide_eq_true hsm) (by decide), fun p np => q _ _ (A.newT np fun S F A => vDas_rp e2)⟩
    · cases e3⟩
theorem xr_if (h : XT X C i e tt g) (h1 : XR K X C i e1 ta f1) (h2 : XR K X C i e2 tb f2) : XR K X C i (.IfExp e e1 e2 pos) (fun a cls d => tIf (tt a cls d) (ta a cls d) (tb a cls d)) (if g = true then f1 else f2) :=
  ⟨fun a oe cls d pn hz hf => pe_ifExp (h.pt a oe cls d pn hz hf) (h1.pe a oe cls d pn hz hf) (h2.pe a oe cls d pn hz hf), fun b ρ σ ps a dd fs da σZ H Q A hx hs e q => h.ev a dd fs σZ H _ hx hs (by
    cases g with
    | true => exact h1.ev b ρ σ ps a dd fs da σZ H Q A hx hs e q
    | false => exact h2.ev b ρ σ ps a dd fs da σZ H Q A hx hs e q)⟩
end
/-- what the clauses make of an error -/
def xhF (is : Isub) : List (Addr × (List (Str × V) → Option Da)) → Exn → Option Da
  | [], _ => none
  | (C, f) :: r, e => match is e.c C with
    | some true => if e.c = C then f e.fs else none | some false => xhF is r e | none => none
inductive HdX (K : PySem.W.Frag) (X : Cx) (n : Str) (i : Nat) : List ExceptHandler → List (Value × (Addr → Value → Option Addr → TS)) → List (Addr × (List (Str × V) → Option Da)) → Prop
  | nil : HdX K X n i [] [] []
  | cons {x : Str} {C : Addr} {e : Expr} {te : Addr → Value → Option Addr → TE} {f : List (Str × V) → Option Da} {np pr pos' : Pos} {hds : List ExceptHandler} {l : List (Value × (Addr → Value → Option Addr → TS))} {cl : List (Addr × (List (Str × V) → Option Da))}
      (hg : Gl X x) (hdb : (x == ("__debug__" : Str)) = false) (hm : X.mg x = some (.ref C)) (h : XR K X C i e te f) (r : HdX K X n i hds l cl) :
      HdX K X n i (.ExceptHandler (some (.Name x np)) (some n) [.Return (some e) pr] pos' :: hds) ((.ref C, fun a cls d => tRet (te a cls d)) :: l) ((C, f) :: cl)
theorem HdX.hds {K : PySem.W.Frag} {X : Cx} {n : Str} {i : Nat} {hds : List ExceptHandler} {l : List (Value × (Addr → Value → Option Addr → TS))} {cl : List (Addr × (List (Str × V) → Option Da))} (h : HdX K X n i hds l cl) : HdsN X n hds l := by
  induction h with
  | nil => exact .nil
  | cons hg hdb hm h r ih => exact .cons ⟨hg, hdb, .inl hm⟩ (fun a oe cls d pn hz hf => pss_one (ps_ret (h.pe a oe cls d pn hz hf))) ih
theorem HdX.go {K : PySem.W.Frag} {X : Cx} {n : Str} {i : Nat} {is : Isub} {hds : List ExceptHandler} {l : List (Value × (Addr → Value → Option Addr → TS))} {cl : List (Addr × (List (Str × V) → Option Da))} (his : ∀ a b r, is a b = some r → PySem.W.exmOne K (.ref a) (.ref b) = some r) (h : HdX K X n i hds l cl)
    {b : Bs} {ρ : List Sl} {σ : L2.St} {ps : List (V × Sl)} {e : Exn} {dd : Addr} {da : Da} {σZ : L2.St} {H : Hp} {D : Ends} (A : At K b ρ σ H ps) (hx : H dd = some (.xd e.fs)) (hi : i < σZ.length) (hf : xhF is cl e = some da) (q : ∀ H' v, At K b ρ σ H' ((v, .dat da) :: ps) → D.rt v H') :
    wMs K i D l (.ref e.c) (some dd) σZ H := by
  induction h with
  | nil => cases hf
  | @cons x C ex te f np pr pos' hds l cl hg hdb hm h r ih =>
    unfold xhF at hf
    split at hf
    · rename_i hs
      split at hf
      · rename_i ec
        refine ⟨true, his _ _ _ hs, fun _ a na => ?_, fun z => (by cases z)⟩
        rw [ec]
        exact h.ev b ρ σ ps a dd e.fs da _ H _ A hx (List.getElem?_set_self hi) hf q
      · cases hf
    · rename_i hs
      exact ⟨false, his _ _ _ hs, fun z => (by cases z), fun _ => ih hf⟩
    · cases hf
/-! ### what a def makes of a lambda that it calls -/
def G.told (N : Ow → Option Da) (Xh : Exn → Option Da) : G Sl → G Sl
  | .pure (.val o) => optG ((N o).map Sl.dat) | .thr e => optG ((Xh e).map Sl.dat) | _ => .fail
def dTold (N : Ow → Option Da) (Xh : Exn → Option Da) (d : DE) : DE := fun ρ => (d ρ).told N Xh
theorem told_good {N : Ow → Option Da} {Xh : Exn → Option Da} {M : Sl → Prop} {E : Exn → Prop} {g : G Sl} (h : (g.told N Xh).good M E) : g.good (fun s => ∃ o d, s = .val o ∧ N o = some d ∧ M (.dat d)) fun e => ∃ d, Xh e = some d ∧ M (.dat d) := by
  cases g with
  | pure s =>
    cases s with
    | val o =>
      have h : (optG ((N o).map Sl.dat)).good M E := h
      obtain ⟨s, e, m⟩ := optG_some h
      obtain ⟨d, e1, rfl⟩ := Option.map_eq_some_iff.mp e
      exact ⟨o, d, rfl, e1, m⟩
    | _ => exact h.elim
  | fail => exact h.elim
  | draw _ _ => exact h.elim
  | thr e =>
    have h : (optG ((Xh e).map Sl.dat)).good M E := h
    obtain ⟨s, e0, m⟩ := optG_some h
    obtain ⟨d, e1, rfl⟩ := Option.map_eq_some_iff.mp e0
    exact ⟨d, e1, m⟩
/-- the wish of the clauses, whatever the slots -/
def echW (K : PySem.W.Frag) (i m : Nat) (l : List (Value × (Addr → Value → Option Addr → TS))) (Q : VK) : XK := fun cls d H' => ∀ σZ : L2.St, σZ.length = m → wMs K i { nx := fun _ H' => Q .non H', rt := Q } l cls d σZ H'
/-- the three ways of a def that tells: the value of a tuple with a word, the value itself, a constant -/
def ttTup (K : PySem.W.Frag) (z : Str) (i m : Nat) (l : List (Value × (Addr → Value → Option Addr → TS))) : (XK → Hp → VK → Prop) → Hp → VK → Prop := fun tl H Q =>
  tl (echW K i m l Q) H fun v H' => [V.str z, v].length ≤ sizeLine ∧ ∀ p, H' p = none → Q (.ref p) (upd H' p (.tup [.str z, v]))
def ttRaw (K : PySem.W.Frag) (i m : Nat) (l : List (Value × (Addr → Value → Option Addr → TS))) : (XK → Hp → VK → Prop) → Hp → VK → Prop := fun tl H Q => tl (echW K i m l Q) H Q
def ttCst (K : PySem.W.Frag) (c : V) (i m : Nat) (l : List (Value × (Addr → Value → Option Addr → TS))) : (XK → Hp → VK → Prop) → Hp → VK → Prop := fun tl H Q => tl (echW K i m l Q) H fun _ H' => Q c H'
end Ge

set_option maxHeartbeats 400000
namespace Ge
open PySem PySem.Spec PyProof.Rows L2 Sd
variable [HasT]
theorem takes_len {X : Cx} {W : WX} (tk : Takes X W) : Takes X (fun c d σ H => σ.length = X.N.length → W c d σ H) := fun u s' ⟨a, B, sI, pins, σ, H, cls, d, e, I, nb, up, sky, na, os, ag, w⟩ => tk u s' ⟨a, B, sI, pins, σ, H, cls, d, e, I, nb, up, sky, na, os, ag, w I.len⟩
section
variable {K : PySem.W.Frag} {X : Cx} {Ng : List Str} {x a n q : Str} {sg : Scope} {g : Addr} {cdg : Value} {i : Nat} {hds : List ExceptHandler} {h₀ : ExceptHandler} {l : List (Value × (Addr → Value → Option Addr → TS))} {cl : List (Addr × (List (Str × V) → Option Da))} {p1 p2 p3 p4 p5 p6 p7 : Pos} {x1 kk kk2 : Nat} {z : Str}
/-- the context of the def that tells -/
abbrev toldCx (X : Cx) (Ng : List Str) (x : Str) (sg : Scope) (g : Addr) (cdg : Value) (s : Shared) (H : Hp) : Cx := (cxOf C8.CX0 X.prog X.w X.K X.mg X.base Ng x sg g cdg X.A X.stack s H C8.E0).nox
theorem start_len {f : Addr} (h : 1 ≤ Ng.length) : (L2.start Ng [V.ref f]).length = Ng.length := by
  unfold L2.start
  simp
  omega
theorem gives_tup (h0 : ∀ f : Addr, (L2.start Ng [V.ref f])[0]? = some (some (V.ref f))) (hN : Ng.Nodup) (hi : Ng[i]? = some n) (hln : sg.names.lookup n = some .local)
    (hh : ∀ s H, HdsN (toldCx X Ng x sg g cdg s H) n (h₀ :: hds) l)
    (hs1 : ∀ s H pn xe, starEach [.Constant (.str z) kk p4, .Call (.Name a p1) [] [] p2] ((toldCx X Ng x sg g cdg s H).tr pn xe).env = (false, eval (.Constant (.str z) kk p4) ((toldCx X Ng x sg g cdg s H).tr pn xe).env) :: starEach [.Call (.Name a p1) [] [] p2] ((toldCx X Ng x sg g cdg s H).tr pn xe).env ∧
      starEach [.Call (.Name a p1) [] [] p2] ((toldCx X Ng x sg g cdg s H).tr pn xe).env = (false, eval (.Call (.Name a p1) [] [] p2) ((toldCx X Ng x sg g cdg s H).tr pn xe).env) :: starEach [] ((toldCx X Ng x sg g cdg s H).tr pn xe).env) :
    LamX.GivesTo X Ng x sg g cdg [.Try [.Return (some (.Tuple [.Constant (.str z) kk p4, .Call (.Name a p1) [] [] p2] x1 p5)) p3] (h₀ :: hds) [] [] p6] a q (ttTup X.K z i Ng.length l) := by
  intro f c' s H Q tl act hc h
  refine ⟨_, pss_one (ps_try_ms (X := toldCx X Ng x sg g cdg s H) (i := i) (tb := fun W D σ H => ∃ Ech : XK, (∀ cls d σ' H', Ech cls d H' → σ'.length = Ng.length → W cls d σ' H') ∧ σ[0]? = some (some (.ref f)) ∧ H c' = some (LamX.CodeO c' q) ∧ tl Ech H fun v H' => [V.str z, v].length ≤ sizeLine ∧ ∀ p, H' p = none → D.rt (.ref p) (upd H' p (.tup [.str z, v])))
      rfl rfl hN hi hln (fun W pn xe tk _ => ?_) (hh s H)), ?_⟩
  · refine ⟨fun pins s' σ H' D I h' => ?_⟩
    obtain ⟨Ech, hW, k1, k2, k3⟩ := h'
    obtain ⟨e1, e2⟩ := hs1 s H pn xe
    have hq := pss_one (ps_ret (pos := p3) (pe_tup (pos := p5) (x1 := x1) (pa_cons (pe_str (x := z) (j := kk) (pos := p4)) (pa_cons (act _ pn xe Ech p1 p2 (takes_len tk) hW) pa_nil e2) e1)))
    exact hq.run pins s' σ H' D I ⟨k1, k2, k3⟩
  · refine ⟨echW X.K i Ng.length l Q, fun cls d σ' H' k hlen => k σ' hlen, h0 f, hc, h⟩
theorem gives_raw (h0 : ∀ f : Addr, (L2.start Ng [V.ref f])[0]? = some (some (V.ref f))) (hN : Ng.Nodup) (hi : Ng[i]? = some n) (hln : sg.names.lookup n = some .local)
    (hh : ∀ s H, HdsN (toldCx X Ng x sg g cdg s H) n (h₀ :: hds) l) :
    LamX.GivesTo X Ng x sg g cdg [.Try [.Return (some (.Call (.Name a p1) [] [] p2)) p3] (h₀ :: hds) [] [] p6] a q (ttRaw X.K i Ng.length l) := by
  intro f c' s H Q tl act hc h
  refine ⟨_, pss_one (ps_try_ms (X := toldCx X Ng x sg g cdg s H) (i := i) (tb := fun W D σ H => ∃ Ech : XK, (∀ cls d σ' H', Ech cls d H' → σ'.length = Ng.length → W cls d σ' H') ∧ σ[0]? = some (some (.ref f)) ∧ H c' = some (LamX.CodeO c' q) ∧ tl Ech H D.rt)
      rfl rfl hN hi hln (fun W pn xe tk _ => ?_) (hh s H)), ?_⟩
  · refine ⟨fun pins s' σ H' D I h' => ?_⟩
    obtain ⟨Ech, hW, k1, k2, k3⟩ := h'
    have hq := pss_one (ps_ret (pos := p3) (act _ pn xe Ech p1 p2 (takes_len tk) hW))
    exact hq.run pins s' σ H' D I ⟨k1, k2, k3⟩
  · exact ⟨echW X.K i Ng.length l Q, fun cls d σ' H' k hlen => k σ' hlen, h0 f, hc, h⟩
end
end Ge

set_option maxHeartbeats 400000
namespace Ge
open PySem PySem.Spec PyProof.Rows L2 Sd
section
variable {X : Cx} {pins : List (Addr × Obj)} {σ : L2.St} {H HZ : Hp} {s s1 : Shared}
/-- what leaves the lambda's body -/
theorem takes_lam {A : Around} {outer : List Env} {E : XK} {scope : Scope} {f c' : Addr} : Takes (LamX.lamCx X A outer s HZ E scope f c') (fun cls d _ H => E cls d H) :=
  takes_of (E₁ := fun e' s'' => L2.CX X.prog X.w outer HZ s E e' s'') rfl rfl rfl rfl
theorem owns_lam {A : Around} {outer : List Env} {E : XK} {scope : Scope} {f c' : Addr} : PassesOwn (model X.prog X.w) (LamX.lamCx X A outer s HZ E scope f c').A (LamX.lamCx X A outer s HZ E scope f c').env (LamX.lamCx X A outer s HZ E scope f c').xe :=
  passes_of (X := LamX.lamCx X A outer s HZ E scope f c') (K := fun e s'' => L2.CX X.prog X.w outer HZ s E e s'') (E₁ := fun e' s'' => L2.CX X.prog X.w outer HZ s E e' s'') rfl
/-- the lambda called, told with what stands around -/
theorem pe_actG {CXg : CXT} {Eg : XK} {Ng : List Str} {qg : Str} {sg : Scope} {g f c' : Addr} {cdg pm ctv : Value} {params : Arguments} {body : Expr} {scope : Scope} {k i : Nat} {a : Str} {pn : List (Addr × Obj)} {xe : Value → Shared → Prop} {W : WX} {E : XK} {tb : TE} {p1 p2 : Pos}
    (I : Inv X pins σ H s) (L : LamX.LamS X.env.scope scope) (hf : s.heap.get? f = some (PySem.W.kla_obj "<lambda>" (X.env.qual ++ "<lambda>") params body scope (cloFrom X.env.cells scope.names []) pm c' ctv)) (hfn : H f = none) (hfr : f ∉ frs X.stack)
    (hbind : bindArgs (PySem.W.kla_fn "<lambda>" (X.env.qual ++ "<lambda>") params body scope (cloFrom X.env.cells scope.names []) pm (.ref c') ctv) ⟨[], []⟩ = pure [])
    (tk : Takes ((cxOf CXg X.prog X.w X.K X.mg X.base Ng qg sg g cdg X.A X.stack s H Eg).tr pn xe) W) (hW : ∀ cls d σ' H', E cls d H' → W cls d σ' H') (hr : Room (k + 1) (X.A.deeper (envOfC qg sg s.heap.objs.size g cdg)))
    (hbody : ∀ (A : Around) (outer : List Env) (s : Shared) (H : Hp), A.guards = X.A.guards → Room k (A.deeper (LamX.lamEnv X scope s.heap.objs.size f c')) → PE (LamX.lamCx X A outer s H E scope f c') body tb)
    (hN : Ng[i]? = some a) (hv : Vis sg a) (hd : (a == ("__debug__" : Str)) = false := by decide) (hcd : (a == ("__classdict__" : Str)) = false := by decide) :
    PE ((cxOf CXg X.prog X.w X.K X.mg X.base Ng qg sg g cdg X.A X.stack s H Eg).tr pn xe) (.Call (.Name a p1) [] [] p2)
      (fun σZ HZ Q => σZ[i]? = some (some (.ref f)) ∧ HZ c' = some (LamX.CodeO c' (X.env.qual ++ "<lambda>")) ∧ tb σ HZ Q) := by
  refine ⟨fun pinsZ sZ σZ HZ Q IZ h => ?_⟩
  obtain ⟨hs, hc, ht⟩ := h
  refine wpAny_Call_Name_kw (thn ((pe_var (pos := p1) (i := i) hN hv hd hcd).run pinsZ sZ σZ HZ (fun v H1 => v = .ref f ∧ H1 = HZ) IZ ⟨.ref f, hs, rfl, rfl⟩) fun u s1 ⟨v, H1, I1, r1, q1⟩ => ?_)
  obtain ⟨ev, eH⟩ := q1
  subst ev
  rw [eH] at I1
  obtain rfl : u = Value.ref f := r1
  have of1 : s1.heap.get? f = some (PySem.W.kla_obj "<lambda>" (X.env.qual ++ "<lambda>") params body scope (cloFrom X.env.cells scope.names []) pm c' ctv) := I1.base.keep f _ hf hfn hfr (fun z => nomatch (show f ∈ ([] : List Addr) from z))
  refine PySem.W.callWith_F0 ⟨_, _, _, _, of1⟩ ?_
  have un : Un (frs X.stack) [] H HZ s.heap s1.heap := I1.base
  obtain ⟨⟨oc, vs, t, hoc, hdc, hvc⟩, _, _⟩ := I1.hok c' _ hc
  have rc : codeAny (model X.prog X.w) (X.A.deeper (envOfC qg sg s.heap.objs.size g cdg)) (.call (.ref f) ⟨[], []⟩) (CR (L2.CX X.prog X.w) (envOfC qg sg s.heap.objs.size g cdg :: X.stack) X.prog X.w HZ s1 Q E) s1 := by
    refine PySem.W.kla_callFunE hr.depth of1 rfl L.co L.gen rfl ⟨c', oc, vs, t, rfl, hoc, hdc, hvc⟩ ?_
    rw [hbind]
    refine wpAny_pure (wpAny_newFunctionEnv (fun y hy => (L.own y hy).2) (fun y hy => absurd hy (by simp)) (fun h₁ hns hsb => ⟨I1.nolimit.fresh _ hsb, ?_⟩) L.kind)
    show codeAny _ _ (.expr body (LamX.lamEnv X scope s1.heap.objs.size f c')) _ _
    have kp : ∀ b o, s1.heap.get? b = some o → h₁.get? b = some o := fun b o e => hsb.extBut b o (Nat.ne_of_lt (Heap.lt_size e)) (Heap.get?_push_of_some _ e)
    have J : Inv (LamX.lamCx X (X.A.deeper (envOfC qg sg s.heap.objs.size g cdg)) (envOfC qg sg s.heap.objs.size g cdg :: X.stack) s1 HZ E scope f c') [] σ HZ { s1 with heap := h₁, toks := s1.toks + ([] : List (Str × Value)).length } :=
      LamX.lam_start2 I L I1.env0 hr.hd un hns kp
    refine PySem.W.kla_codeExpr (wpAny_mono ((hbody (X.A.deeper (envOfC qg sg s.heap.objs.size g cdg)) _ s1 HZ rfl (hr.deeper _)).run [] _ _ HZ Q J ht) (fun v s' hq => ?_) fun e s' hq => hq)
    obtain ⟨w', H', J', rv, q⟩ := hq
    exact ⟨w', H', J'.os, J'.bare, J'.base, J'.hok, rv, q⟩
  have hx : Passes (L2.CX X.prog X.w) ((cxOf CXg X.prog X.w X.K X.mg X.base Ng qg sg g cdg X.A X.stack s H Eg).tr pn xe) E := passes_call tk hW
  refine wpAny_call (codeAny_mono rc fun r s' hq => ?_)
  cases r with
  | error e => exact hx pinsZ σZ HZ s1 e s' I1 hq
  | ok fl =>
    cases fl with
    | ret u => exact I1.after hq
    | next => exact False.elim hq
    | brk => exact False.elim hq
    | cont => exact False.elim hq
end
section
variable {X : Cx} {pins : List (Addr × Obj)} {σ : L2.St} {H : Hp} {s : Shared}
/-- x(lambda: body) -/
theorem pe_lamcallG {T : List (Addr × Str)} {TT : (XK → Hp → VK → Prop) → Hp → VK → Prop} {x a : Str} {g c P : Addr} {k : Nat} {pg : Arguments} {bg : List Stmt} {sg : Scope} {dV kV doc pm cdv ct oc : Value} {an od : Option Addr} {osl : Array (Option Value)} {Ng : List Str}
    {params : Arguments} {body : Expr} {scope : Scope} {t : XK → TE} {p lpos pos : Pos} (hg : Gl X x) (hm : X.mg x = some (.ref g)) (hk : PySem.W.keepIn X.K (.ref g) = true)
    (lk : X.K.lookup g = some ⟨oc, od, .func (PySem.W.fnOf x x pg bg sg dV kV doc pm an cdv ct), osl⟩) (hcg : PySem.W.codeIn X.K cdv x = true) (hb : L2.Binds X.K (PySem.W.fnOf x x pg bg sg dV kV doc pm an cdv ct) [a] []) (Sg : FnScope Ng [a] sg) (hNg : Ng[0]? = some a) (hva : Vis sg a)
    (hG : LamX.GivesTo X Ng x sg g cdv bg a (X.env.qual ++ "<lambda>") TT)
    (TB : LamX.TabB X.base X.mg c P) (hcode : X.env.code = .ref c) (hmT : (P, X.env.qual ++ "<lambda>") ∈ T) (hu : ∀ p ∈ T, p.1 = P → p.2 = X.env.qual ++ "<lambda>") (hr : Room (k + 2) X.A) (L : LamX.LamS X.env.scope scope) (hdef : defaultsOf params X.env = ([], []))
    (hbind : ∀ (q : Str) (cl : List (Str × Addr)) (pm cv ctv : Value), bindArgs (PySem.W.kla_fn "<lambda>" q params body scope cl pm cv ctv) ⟨[], []⟩ = pure [])
    (hbody : ∀ (A : Around) (outer : List Env) (s : Shared) (H : Hp) (E : XK) (f c' : Addr), A.guards = X.A.guards → Room k (A.deeper (LamX.lamEnv X scope s.heap.objs.size f c')) → PE (LamX.lamCx X A outer s H E scope f c') body (t E))
    (hdb : (x == ("__debug__" : Str)) = false := by decide) (hd : (a == ("__debug__" : Str)) = false := by decide) (hcd : (a == ("__classdict__" : Str)) = false := by decide) :
    PE X (.Call (.Name x p) [.Lambda params body scope lpos] [] pos) (tLamP T TT t) := by
  refine ⟨fun pins s σ H Q I h => ?_⟩
  obtain ⟨hT, h⟩ := h
  refine wpAny_Call_Name_kw (ld_glob I hg hm ?_ hdb)
  refine PySem.W.callWith_K (h₀ := X.base) I.ok.mod.kin hk ?_ (by rfl) (by rfl)
  show wpAny _ _ (spliced ((false, eval (.Lambda params body scope lpos) X.env) :: backTo pos (starEach [] X.env))) _ _ s
  refine Calls.spliced_cons (lam_makeP I TB hcode hmT hu hT hdef (L.has I.ok) fun f c' pm' ctv H1 s' I1 eN T1 hf hfn hfr hco => ?_)
  refine Calls.spliced_nil ⟨I1.kIn, ?_⟩
  have rc : codeAny (model X.prog X.w) X.A (.call (.ref g) ⟨[.ref f], []⟩) (CR C8.CX0 X.stack X.prog X.w H1 s' Q C8.E0) s' := by
    refine LamX.run_ofS (N := Ng) (ps := [a]) (us := [.ref f]) (vs := [.ref f]) lk hcg Sg hr I1.env0 (hb s' [.ref f] I1.kIn rfl) (.cons rfl .nil) rfl fun hr' => ?_
    obtain ⟨t', ht', hq'⟩ := hG f c' s' H1 Q (fun E H' Q' => t E σ H' Q') (fun W pn xe E p1 p2 tk hW => pe_actG (i := 0) I1 L hf hfn hfr (hbind _ _ _ _ _) tk hW hr' (fun A outer s H hgu hr2 => hbody A outer s H E f c' hgu hr2) hNg hva hd hcd) hco (h H1 eN T1)
    exact ⟨t', ht'.nox, hq'⟩
  refine wpAny_call (codeAny_mono rc fun r s2 hq => ?_)
  cases r with
  | error e => exact (show False from hq).elim
  | ok fl =>
    cases fl with
    | ret u => exact I1.after hq
    | next => exact False.elim hq
    | brk => exact False.elim hq
    | cont => exact False.elim hq
end
end Ge

set_option maxHeartbeats 400000
namespace Ge
open PySem PySem.Spec PyProof.Rows L2 Sd
variable [HasT]
/-- .. where an error leaves all slots as they were -/
def EvGF (K : PySem.W.Frag) (b : Bs) (W : WX) (c : Bool) (te : TE) (d : DE) : Prop := ∀ ρ σ H ps (Q : VK), (c = true → NV ps) → At K b ρ σ H ps → (d ρ).good (fun s => ∀ H' v, At K b ρ σ H' ((v, s) :: ps) → Q v H') (fun e => ∀ H' dx, At K b ρ σ H' ps → H' dx = some (.xd e.fs) → W (.ref e.c) (some dx) σ H') → te σ H Q
def dCalm (dx : DA) : DA := fun ρ => (dx ρ).calm
structure PDF (K : PySem.W.Frag) (X : Cx) (W : WX) (c : Bool) (e : Expr) (te : TE) (d : DE) : Prop where
  pe : PE X e te
  ev : ∀ b, EvGF K b W c te d
section
variable {K : PySem.W.Frag} {b : Bs} {ρ : List Sl} {σ : L2.St} {S H S' H' : Hp} {ps : List (V × Sl)} {v : V} {s : Sl} {F f : List Addr} {d : Da} {X : Cx} {W : WX} {c : Bool} {n m0 : Nat} {Fn0 : Fn}
  {e e1 : Expr} {es : List Expr} {te ta : TE} {tx : TA} {da db : DE} {dx : DA} {pos : Pos} {C : Addr} {ns : List Str}
theorem eg_callF (h : EvGA K b W c tx dx) (ln : LenIs n dx) : EvGF K b W c (tCallE (spG K n Fn0) (WE W) tx) (dCall Fn0 (dCalm dx)) := fun ρ σ H ps Q nv a q => by
  refine h ρ σ H ps _ nv a (G.good_mono (fun l ⟨hn, k⟩ H1 us hl a1 => ?_) (fun _ h => h.elim) (ln ρ _ _ (G.good_calm (G.good_bind.mp q))))
  clear q
  split at k
  · rename_i os ho
    obtain ⟨T, F, A, r⟩ := At.args hl ho a1
    exact call_go A (by rw [hl, hn]) (paired_dat r) (G.good_mono (fun s k => k) (fun e k H' dx a' hx => k H' dx a' hx) k)
  · cases k
theorem eg_callKF {gV : List V → List V} {gD : List Da → List Da} (h : EvGA K b W c tx dx) (ln : LenIs m0 dx) (hg : ∀ S us ds, us.length = m0 → Rps K S us ds → (gV us).length = n ∧ Rps K S (gV us) (gD ds)) :
    EvGF K b W c (tCallKE (spG K n Fn0) m0 gV (WE W) tx) (dCallK Fn0 gD (dCalm dx)) := fun ρ σ H ps Q nv a q => by
  refine h ρ σ H ps _ nv a (G.good_mono (fun l ⟨hn, k⟩ H1 us hl a1 => ?_) (fun _ h => h.elim) (ln ρ _ _ (G.good_calm (G.good_bind.mp q))))
  clear q
  split at k
  · rename_i os ho
    obtain ⟨T, F, A, r⟩ := At.args hl ho a1
    obtain ⟨g1, g2⟩ := hg T us _ (by rw [hl, hn]) r
    exact ⟨by rw [hl, hn], call_go A g1 (paired_dat g2) (G.good_mono (fun s k => k) (fun e k H' dx a' hx => k H' dx a' hx) k)⟩
  · cases k
theorem eg_makeF {n : Nat} {Fi : FnI} (h : EvGA K b W c tx dx) (ln : LenIs n dx) : EvGF K b W c (tMakeE C (spIG K C ns (n + 1) Fi) (WE W) tx) (dMake C ns Fi (dCalm dx)) := fun ρ σ H ps Q nv a q => by
  refine h ρ σ H ps _ nv a (G.good_mono (fun l ⟨hn, k⟩ H1 us hl a1 => ?_) (fun _ h => h.elim) (ln ρ _ _ (G.good_calm (G.good_bind.mp q))))
  clear q
  split at k
  · rename_i os ho
    obtain ⟨T, F, A, r⟩ := At.args hl ho a1
    intro x dx nx ndx nex
    have tx : T x = none := A.sh.free nx
    have up : ∀ a o, H1 a = some o → (upd (upd H1 dx (.own x)) x (.ins C dx [])) a = some o := fun a o e => by
      rw [upd_ne (ne_of_none e nx), upd_ne (ne_of_none e ndx)]
      exact e
    have tb1 : LamX.Tabs HasT.T0 (upd (upd H1 dx (.own x)) x (.ins C dx [])) := A.iv.tb.ext up
    have gr0 : ∀ {S' H' : Hp}, (∀ a o, S' a = some o → T a = some o ∨ (upd (upd H1 dx (.own x)) x (.ins C dx [])) a = none) → ∀ a o, S' a = some o → T a = some o ∨ H1 a = none := fun {S' H'} gr a o e => by
      rcases gr a o e with z | z
      · exact .inl z
      · right
        cases y : H1 a with
        | none => rfl
        | some u => rw [up a u y] at z; cases z
    have kx : ∀ {H' : Hp}, (∀ a o, a ≠ x → off ⟨none⟩ a → (upd (upd H1 dx (.own x)) x (.ins C dx [])) a = some o → H' a = some o) → KeepX H1 H' := fun {H'} k2 a o e n => k2 a o (ne_of_none e nx) ⟨fun p q z => (by cases z), tabs_ne A.iv.tb e n⟩ (up a o e)
    have hh0 : ∀ {H' : Hp}, (∀ a o, a ≠ x → off ⟨none⟩ a → (upd (upd H1 dx (.own x)) x (.ins C dx [])) a = some o → H' a = some o) → ∀ a o, off b.src a → H1 a = some o → H' a = some o := fun {H'} k2 a o f e => k2 a o (ne_of_none e nx) ⟨fun p q z => (by cases z), f.2⟩ (up a o e)
    refine ⟨by rw [List.length_cons, hl, hn], T, x, dx, us, (frzs os).map Sl.dat, rfl, fun a o e => up a o (A.sh a o e), ⟨fun p q z => (by cases z), tb1, A.iv.ts⟩, tx, upd_same, ?_, G.good_mono (fun fs k2 => ?_) (fun e k2 => ?_) (G.good_bind.mp k)⟩
    · exact paired_dat r
    · intro S' H' xs e1 e2 iv e3 k3 gr hx hl2 rx
      have A3 : AtS K b ρ σ (upd S' x (.ins C dx (ns.zip xs))) H' ps F := by
        refine A.step ⟨fun a o e => ?_, fun a o e => ?_, hh0 k3, fun a o e => ?_⟩ ⟨fun p q e => ?_, iv.tb, fun t m => ?_⟩
        · rw [upd_ne (ne_of_none e tx)]
          exact e1 a o e
        · by_cases ha : a = x
          · subst ha
            rw [upd_same] at e
            rw [← e]; exact hx
          · rw [upd_ne ha] at e
            exact e2 a o e
        · by_cases ha : a = x
          · subst ha
            exact .inr nx
          · rw [upd_ne ha] at e
            exact gr0 (H' := H') gr a o e
        · obtain ⟨dr0, h1, h2⟩ := A.iv.dr p q e
          have n1 := dr0.apart nx
          have f : ∀ a, H1 a ≠ none → T a = none → S' a = none := fun a n1 n2 => by
            cases z : S' a with
            | none => rfl
            | some o =>
              rcases gr0 (H' := H') gr a o z with w | w
              · rw [n2] at w; cases w
              · exact absurd w n1
          refine ⟨Dr.keepX dr0 (kx k3), ?_, ?_⟩
          · rw [upd_ne n1.1.symm]
            refine f p ?_ h1
            obtain ⟨cs, sti, g1, g2, _⟩ := dr0
            rw [g1]; nofun
          · rw [upd_ne n1.2.symm]
            refine f q ?_ h2
            obtain ⟨cs, sti, g1, g2, _⟩ := dr0
            rw [g2]; nofun
        · rw [upd_ne (A.iv.tne nx t m)]
          exact iv.ts t m
      exact ⟨rfl, k2 H' _ ⟨_, F, A3.pushD (.obj upd_same hl2 (Rps.same (same_new e3) _ _ rx))⟩⟩
    · intro H' d k3 tb hd
      refine k2 H' d ⟨T, F, A.step ⟨Same.refl T, fun a o e => ?_, hh0 k3, fun a o e => .inl e⟩ ⟨fun p q e => ?_, tb, A.iv.ts⟩⟩ hd
      · have e' := A.sh a o e
        exact k3 a o (ne_of_none e' nx) ⟨fun p q z => (by cases z), fun t m z => by
          rw [z, A.iv.ts t m] at e
          cases e⟩ (up a o e')
      · obtain ⟨dr, h1, h2⟩ := A.iv.dr p q e
        exact ⟨Dr.keepX dr (kx k3), h1, h2⟩
  · cases k
theorem pdf_call (h : PD K X W c e (tCallE (spG K n Fn0) (WE W) tx) (dCall Fn0 dx)) (ha : ∀ b, EvGA K b W c tx dx) (ln : LenIs n dx) : PDF K X W c e (tCallE (spG K n Fn0) (WE W) tx) (dCall Fn0 (dCalm dx)) := ⟨h.pe, fun b => eg_callF (ha b) ln⟩
theorem pdf_callK {gV : List V → List V} {gD : List Da → List Da} (h : PD K X W c e (tCallKE (spG K n Fn0) m0 gV (WE W) tx) (dCallK Fn0 gD dx)) (ha : ∀ b, EvGA K b W c tx dx) (ln : LenIs m0 dx) (hg : ∀ S us ds, us.length = m0 → Rps K S us ds → (gV us).length = n ∧ Rps K S (gV us) (gD ds)) :
    PDF K X W c e (tCallKE (spG K n Fn0) m0 gV (WE W) tx) (dCallK Fn0 gD (dCalm dx)) := ⟨h.pe, fun b => eg_callKF (ha b) ln hg⟩
theorem pdf_make {Fi : FnI} (h : PD K X W c e (tMakeE C (spIG K C ns (n + 1) Fi) (WE W) tx) (dMake C ns Fi dx)) (ha : ∀ b, EvGA K b W c tx dx) (ln : LenIs n dx) : PDF K X W c e (tMakeE C (spIG K C ns (n + 1) Fi) (WE W) tx) (dMake C ns Fi (dCalm dx)) := ⟨h.pe, fun b => eg_makeF (ha b) ln⟩
end
end Ge

set_option maxHeartbeats 400000
namespace Ge
open PySem PySem.Spec PyProof.Rows L2 Sd
variable [HasT]
/-- only the tables have changed -/
theorem At.tabs {K : PySem.W.Frag} {b : Bs} {ρ : List Sl} {σ : L2.St} {H H1 : Hp} {ps : List (V × Sl)} (a : At K b ρ σ H ps) (h : ∀ c o, H c = some o → (∀ t ∈ HasT.T0, c ≠ t.1) → H1 c = some o) (T1 : LamX.Tabs HasT.T0 H1) : At K b ρ σ H1 ps := by
  obtain ⟨S, F, A⟩ := a
  have hS : ∀ c o, S c = some o → ∀ t ∈ HasT.T0, c ≠ t.1 := fun c o e t m z => by
    rw [z, A.iv.ts t m] at e
    cases e
  have kx : KeepX H H1 := fun c o e n => h c o e (tabs_ne A.iv.tb e n)
  exact ⟨S, F, A.step ⟨Same.refl S, fun c o e => h c o (A.sh c o e) (hS c o e), fun c o f e => h c o e f.2, fun c o e => .inl e⟩ ⟨fun p q e => ⟨Ge.Dr.keepX (A.iv.dr p q e).1 kx, (A.iv.dr p q e).2⟩, T1, A.iv.ts⟩⟩
/-- a def that calls the lambda that it gets, and tells -/
structure Tells (K : PySem.W.Frag) (mg : Str → Option Value) (x a : Str) (g : Addr) (TT : (XK → Hp → VK → Prop) → Hp → VK → Prop) (N : Ow → Option Da) (Xh : Exn → Option Da) : Prop where
  run : ∃ (pg : Arguments) (bg : List Stmt) (sg : Scope) (dV kV doc pm cdv ct oc : Value) (an od : Option Addr) (osl : Array (Option Value)) (Ng : List Str), PySem.W.keepIn K (.ref g) = true ∧ K.lookup g = some ⟨oc, od, .func (PySem.W.fnOf x x pg bg sg dV kV doc pm an cdv ct), osl⟩ ∧
    PySem.W.codeIn K cdv x = true ∧ L2.Binds K (PySem.W.fnOf x x pg bg sg dV kV doc pm an cdv ct) [a] [] ∧ FnScope Ng [a] sg ∧ Ng[0]? = some a ∧ Vis sg a ∧ ∀ (X : Cx) (q : Str), X.K = K → X.mg = mg → LamX.GivesTo X Ng x sg g cdv bg a q TT
  rd : ∀ (X : Cx), X.K = K → X.mg = mg → ∀ (t : XK → TE) (d : DE) (b : Bs) (c : Bool) (W : WX), (∀ E : XK, EvGF K b (fun cls d _ H' => E cls d H') c (t E) d) → EvG K b W c (tLamP HasT.T0 TT t) (dTold N Xh d)
section
variable {K : PySem.W.Frag} {mg : Str → Option Value} {X : Cx} {W : WX} {c : Bool} {x a : Str} {g cA P : Addr} {TT : (XK → Hp → VK → Prop) → Hp → VK → Prop} {N : Ow → Option Da} {Xh : Exn → Option Da} {k : Nat} {params : Arguments} {body : Expr} {scope : Scope} {t : XK → TE} {d : DE} {p lpos pos : Pos}
theorem pd_told (Tl : Tells K mg x a g TT N Xh) (hK : X.K = K) (hmg : X.mg = mg) (hr : Room (k + 2) X.A) (hg : Gl X x) (hm : mg x = some (.ref g)) (TB : LamX.TabB X.base X.mg cA P) (hcode : X.env.code = .ref cA) (hmT : (P, X.env.qual ++ "<lambda>") ∈ HasT.T0) (hu : ∀ p ∈ HasT.T0, p.1 = P → p.2 = X.env.qual ++ "<lambda>")
    (L : LamX.LamS X.env.scope scope) (hdef : defaultsOf params X.env = ([], []))
    (hbind : ∀ (q : Str) (cl : List (Str × Addr)) (pm cv ctv : Value), bindArgs (PySem.W.kla_fn "<lambda>" q params body scope cl pm cv ctv) ⟨[], []⟩ = pure [])
    (hb : ∀ (A : Around) (outer : List Env) (s : Shared) (H : Hp) (E : XK) (f c' : Addr), A.guards = X.A.guards → Room k (A.deeper (LamX.lamEnv X scope s.heap.objs.size f c')) → PDF K (LamX.lamCx X A outer s H E scope f c') (fun cls d _ H' => E cls d H') c body (t E) d)
    (hdb : (x == ("__debug__" : Str)) = false := by decide) (hd : (a == ("__debug__" : Str)) = false := by decide) (hcd : (a == ("__classdict__" : Str)) = false := by decide) :
    PD K X W c (.Call (.Name x p) [.Lambda params body scope lpos] [] pos) (tLamP HasT.T0 TT t) (dTold N Xh d) := by
  subst hK hmg
  obtain ⟨pg, bg, sg, dV, kV, doc, pm, cdv, ct, oc, an, od, osl, Ng, h1, h2, h3, h4, h5, h6, h7, h8⟩ := Tl.run
  exact ⟨pe_lamcallG hg hm h1 h2 h3 h4 h5 h6 h7 (h8 X _ rfl rfl) TB hcode hmT hu hr L hdef hbind (fun A outer s H E f c' hgu hr2 => (hb A outer s H E f c' hgu hr2).pe) hdb hd hcd, fun b => Tl.rd X rfl rfl t d b c W fun E => (hb (X.A.deeper X.env) X.outer X.s_0 X.H_0 E 0 0 rfl ((hr.deeper _).deeper _)).ev b⟩
end
section
variable {K : PySem.W.Frag} {mg : Str → Option Value} {b : Bs} {W : WX} {c : Bool} {t : XK → TE} {d : DE} {X0 : Cx} {n z : Str} {i m : Nat} {hds : List ExceptHandler} {l : List (Value × (Addr → Value → Option Addr → TS))} {cl : List (Addr × (List (Str × V) → Option Da))} {is : Isub} {cv : V} {dv : Da}
theorem rd_cls (his : ∀ a b r, is a b = some r → PySem.W.exmOne K (.ref a) (.ref b) = some r) (hX : HdX K X0 n i hds l cl) (hi : i < m) {Q : VK} {ρ : List Sl} {σ : L2.St} {ps : List (V × Sl)} {e : Exn} (h : ∃ d, xhF is cl e = some d ∧ ∀ H' v, At K b ρ σ H' ((v, .dat d) :: ps) → Q v H') :
    ∀ H' dx, At K b ρ σ H' ps → H' dx = some (.xd e.fs) → echW K i m l Q (.ref e.c) (some dx) H' := by
  obtain ⟨dd, hx, hM⟩ := h
  intro H' dx A hd σZ hl
  exact hX.go (D := { nx := fun _ H' => Q .non H', rt := Q }) his A hd (by omega) hx hM
theorem rd_tup (his : ∀ a b r, is a b = some r → PySem.W.exmOne K (.ref a) (.ref b) = some r) (hX : HdX K X0 n i hds l cl) (hi : i < m) (h : ∀ E : XK, EvGF K b (fun cls d _ H' => E cls d H') c (t E) d) :
    EvG K b W c (tLamP HasT.T0 (ttTup K z i m l) t) (dTold (fun o => some (.tup [.str z, o.frz])) (xhF is cl) d) := fun ρ σ H ps Q nv a q => by
  have q := told_good q
  obtain ⟨S, F, A⟩ := id a
  refine ⟨A.iv.tb, fun H1 e1 T1 => ?_⟩
  refine h (echW K i m l Q) ρ σ H1 ps _ nv (a.tabs e1 T1) (G.good_mono (fun s k H' v a1 => ?_) (fun e k => rd_cls his hX hi k) q)
  obtain ⟨o, dd, rfl, eo, hM⟩ := k
  cases eo
  obtain ⟨T, F, A, r⟩ := At.args (us := [v]) (l := [.val o]) rfl rfl a1
  refine ⟨by rw [sizeLine_eq]; show 2 ≤ _; decide, fun p np => hM _ _ ?_⟩
  exact ⟨_, F, (A.new (o := .tup [.str z, v]) np).pushD (.tup (SqT.of upd_same) (Rps.same (same_new (A.sh.free np)) _ _ (.cons (.str z) r)))⟩
theorem rd_raw (his : ∀ a b r, is a b = some r → PySem.W.exmOne K (.ref a) (.ref b) = some r) (hX : HdX K X0 n i hds l cl) (hi : i < m) (h : ∀ E : XK, EvGF K b (fun cls d _ H' => E cls d H') c (t E) d) :
    EvG K b W c (tLamP HasT.T0 (ttRaw K i m l) t) (dTold (fun o => some o.frz) (xhF is cl) d) := fun ρ σ H ps Q nv a q => by
  have q := told_good q
  obtain ⟨S, F, A⟩ := id a
  refine ⟨A.iv.tb, fun H1 e1 T1 => ?_⟩
  refine h (echW K i m l Q) ρ σ H1 ps _ nv (a.tabs e1 T1) (G.good_mono (fun s k H' v a1 => ?_) (fun e k => rd_cls his hX hi k) q)
  obtain ⟨o, dd, rfl, eo, hM⟩ := k
  cases eo
  exact hM _ _ a1.freeze1
end
end Ge

set_option maxHeartbeats 400000
namespace Ge
open PySem PySem.Spec PyProof.Rows L2 Sd
variable [HasT]
/-- the clauses' wish, where the def goes on to return a constant -/
def echC (K : PySem.W.Frag) (i m : Nat) (cv : V) (l : List (Value × (Addr → Value → Option Addr → TS))) (Q : VK) : XK := fun cls d H' => ∀ σZ : L2.St, σZ.length = m → wMs K i { nx := fun _ H' => Q cv H', rt := Q } l cls d σZ H'
def ttCon (K : PySem.W.Frag) (cv : V) (i m : Nat) (l : List (Value × (Addr → Value → Option Addr → TS))) : (XK → Hp → VK → Prop) → Hp → VK → Prop := fun tl H Q => tl (echC K i m cv l Q) H fun _ H' => Q cv H'
section
variable {K : PySem.W.Frag} {X : Cx} {Ng : List Str} {x a n q : Str} {sg : Scope} {g : Addr} {cdg : Value} {i : Nat} {hds : List ExceptHandler} {h₀ : ExceptHandler} {l : List (Value × (Addr → Value → Option Addr → TS))} {cl : List (Addr × (List (Str × V) → Option Da))} {p1 p2 p3 p4 p5 p6 p7 : Pos} {x1 kk kk2 : Nat} {z : Str} {ec : Expr} {cv : V}
theorem gives_con (h0 : ∀ f : Addr, (L2.start Ng [V.ref f])[0]? = some (some (V.ref f))) (hN : Ng.Nodup) (hi : Ng[i]? = some n) (hln : sg.names.lookup n = some .local)
    (hh : ∀ s H, HdsN (toldCx X Ng x sg g cdg s H) n (h₀ :: hds) l) (hc0 : ∀ X : Cx, PE X ec (tC cv)) :
    LamX.GivesTo X Ng x sg g cdg [.Try [.Expr (.Call (.Name a p1) [] [] p2) p3] (h₀ :: hds) [] [] p6, .Return (some ec) p7] a q (ttCon X.K cv i Ng.length l) := by
  intro f c' s H Q tl act hc h
  refine ⟨_, pss_cons (ps_try_ms (X := toldCx X Ng x sg g cdg s H) (i := i) (tb := fun W D σ H => ∃ Ech : XK, (∀ cls d σ' H', Ech cls d H' → σ'.length = Ng.length → W cls d σ' H') ∧ σ[0]? = some (some (.ref f)) ∧ H c' = some (LamX.CodeO c' q) ∧ tl Ech H fun _ H' => D.nx σ H')
      rfl rfl hN hi hln (fun W pn xe tk _ => ?_) (hh s H)) (pss_one (ps_ret (hc0 _))), ?_⟩
  · refine ⟨fun pins s' σ H' D I h' => ?_⟩
    obtain ⟨Ech, hW, k1, k2, k3⟩ := h'
    have hq := pss_one (ps_expr (pos := p3) (act _ pn xe Ech p1 p2 (takes_len tk) hW))
    exact hq.run pins s' σ H' D I ⟨k1, k2, k3⟩
  · exact ⟨echC X.K i Ng.length cv l Q, fun cls d σ' H' k hlen => k σ' hlen, h0 f, hc, h⟩
end
section
variable {K : PySem.W.Frag} {mg : Str → Option Value} {b : Bs} {W : WX} {c : Bool} {t : XK → TE} {d : DE} {X0 : Cx} {n z : Str} {i m : Nat} {hds : List ExceptHandler} {l : List (Value × (Addr → Value → Option Addr → TS))} {cl : List (Addr × (List (Str × V) → Option Da))} {is : Isub} {cv : V} {dv : Da}
theorem rd_con (hcv : vDa cv = some dv) (his : ∀ a b r, is a b = some r → PySem.W.exmOne K (.ref a) (.ref b) = some r) (hX : HdX K X0 n i hds l cl) (hi : i < m) (h : ∀ E : XK, EvGF K b (fun cls d _ H' => E cls d H') c (t E) d) :
    EvG K b W c (tLamP HasT.T0 (ttCon K cv i m l) t) (dTold (fun _ => some dv) (xhF is cl) d) := fun ρ σ H ps Q nv a q => by
  have q := told_good q
  obtain ⟨S, F, A⟩ := id a
  refine ⟨A.iv.tb, fun H1 e1 T1 => ?_⟩
  refine h (echC K i m cv l Q) ρ σ H1 ps _ nv (a.tabs e1 T1) (G.good_mono (fun s k H' v a1 => ?_) (fun e k H' dx A hd σZ hl => ?_) q)
  · obtain ⟨o, dd, rfl, eo, hM⟩ := k
    cases eo
    exact hM _ _ (a1.drop.pushD fun S => vDa_rp hcv)
  · obtain ⟨dd, hx, hM⟩ := k
    exact hX.go (D := { nx := fun _ H' => Q cv H', rt := Q }) his A hd (by omega) hx hM
end
/-! ### such defs -/
section
variable {K : PySem.W.Frag} {mg : Str → Option Value} {is : Isub} {x a n z : Str} {g : Addr} {i kk x1 : Nat} {pg : Arguments} {sg : Scope} {dV kV doc pm cdv ct oc : Value} {an od : Option Addr} {osl : Array (Option Value)} {Ng : List Str} {p1 p2 p3 p4 p5 p6 p7 : Pos} {h₀ : ExceptHandler} {hds : List ExceptHandler}
  {l : List (Value × (Addr → Value → Option Addr → TS))} {cl : List (Addr × (List (Str × V) → Option Da))} {ec : Expr} {cv : V} {dv : Da}
/-- the clauses, wherever the def is called -/
def HdAll (K : PySem.W.Frag) (mg : Str → Option Value) (Ng : List Str) (x : Str) (sg : Scope) (g : Addr) (cdv : Value) (n : Str) (i : Nat) (hds : List ExceptHandler) (l : List (Value × (Addr → Value → Option Addr → TS))) (cl : List (Addr × (List (Str × V) → Option Da))) : Prop :=
  ∀ (X : Cx) (s : Shared) (H : Hp), X.K = K → X.mg = mg → HdX K (toldCx X Ng x sg g cdv s H) n i hds l cl
theorem hdx_cons {X : Cx} {e : Expr} {te : Addr → Value → Option Addr → TE} {f : List (Str × V) → Option Da} {C : Addr} {np pr pos' : Pos} (hmg : X.mg = mg)
      (hg : Gl X x) (hdb : (x == ("__debug__" : Str)) = false) (hm : mg x = some (.ref C)) (h : XR K X C i e te f) (r : HdX K X n i hds l cl) :
      HdX K X n i (.ExceptHandler (some (.Name x np)) (some n) [.Return (some e) pr] pos' :: hds) ((.ref C, fun a cls d => tRet (te a cls d)) :: l) ((C, f) :: cl) := .cons hg hdb (hmg ▸ hm) h r
/-- the facts about a def that tells -/
structure TellsD (K : PySem.W.Frag) (mg : Str → Option Value) (is : Isub) (x a n : Str) (g : Addr) (i : Nat) (Ng : List Str) (bg : List Stmt) (hds : List ExceptHandler) (l : List (Value × (Addr → Value → Option Addr → TS))) (cl : List (Addr × (List (Str × V) → Option Da)))
    (pg : Arguments) (sg : Scope) (dV kV doc pm cdv ct oc : Value) (an od : Option Addr) (osl : Array (Option Value)) : Prop where
  his : ∀ a b r, is a b = some r → PySem.W.exmOne K (.ref a) (.ref b) = some r
  hk : PySem.W.keepIn K (.ref g) = true
  lk : K.lookup g = some ⟨oc, od, .func (PySem.W.fnOf x x pg bg sg dV kV doc pm an cdv ct), osl⟩
  hcd : PySem.W.codeIn K cdv x = true
  hb : L2.Binds K (PySem.W.fnOf x x pg bg sg dV kV doc pm an cdv ct) [a] []
  Sg : FnScope Ng [a] sg
  hva : Vis sg a
  h0 : ∀ f : Addr, (L2.start Ng [V.ref f])[0]? = some (some (V.ref f))
  hN0 : Ng[0]? = some a
  hN : Ng.Nodup
  hi : Ng[i]? = some n
  hln : sg.names.lookup n = some .local
  H : HdAll K mg Ng x sg g cdv n i hds l cl
theorem TellsD.small {bg : List Stmt} {hds : List ExceptHandler} (T : TellsD K mg is x a n g i Ng bg hds l cl pg sg dV kV doc pm cdv ct oc an od osl) : i < Ng.length := by
  obtain ⟨h, _⟩ := List.getElem?_eq_some_iff.mp T.hi
  exact h
theorem tells_tup (T : TellsD K mg is x a n g i Ng [.Try [.Return (some (.Tuple [.Constant (.str z) kk p4, .Call (.Name a p1) [] [] p2] x1 p5)) p3] (h₀ :: hds) [] [] p6] (h₀ :: hds) l cl pg sg dV kV doc pm cdv ct oc an od osl) :
    Tells K mg x a g (ttTup K z i Ng.length l) (fun o => some (.tup [.str z, o.frz])) (xhF is cl) := by
  refine ⟨⟨pg, _, sg, dV, kV, doc, pm, cdv, ct, oc, an, od, osl, Ng, T.hk, T.lk, T.hcd, T.hb, T.Sg, T.hN0, T.hva, fun X q hK hmg => ?_⟩, fun X hK hmg t d b c W h => ?_⟩
  · subst hK hmg
    exact gives_tup T.h0 T.hN T.hi T.hln (fun s H => (T.H X s H rfl rfl).hds) fun s H pn xe => ⟨rfl, rfl⟩
  · subst hK hmg
    exact rd_tup T.his (T.H X X.s_0 X.H_0 rfl rfl) T.small h
theorem tells_raw (T : TellsD K mg is x a n g i Ng [.Try [.Return (some (.Call (.Name a p1) [] [] p2)) p3] (h₀ :: hds) [] [] p6] (h₀ :: hds) l cl pg sg dV kV doc pm cdv ct oc an od osl) :
    Tells K mg x a g (ttRaw K i Ng.length l) (fun o => some o.frz) (xhF is cl) := by
  refine ⟨⟨pg, _, sg, dV, kV, doc, pm, cdv, ct, oc, an, od, osl, Ng, T.hk, T.lk, T.hcd, T.hb, T.Sg, T.hN0, T.hva, fun X q hK hmg => ?_⟩, fun X hK hmg t d b c W h => ?_⟩
  · subst hK hmg
    exact gives_raw T.h0 T.hN T.hi T.hln fun s H => (T.H X s H rfl rfl).hds
  · subst hK hmg
    exact rd_raw T.his (T.H X X.s_0 X.H_0 rfl rfl) T.small h
theorem tells_con (hc0 : ∀ X : Cx, PE X ec (tC cv)) (hcv : vDa cv = some dv) (T : TellsD K mg is x a n g i Ng [.Try [.Expr (.Call (.Name a p1) [] [] p2) p3] (h₀ :: hds) [] [] p6, .Return (some ec) p7] (h₀ :: hds) l cl pg sg dV kV doc pm cdv ct oc an od osl) :
    Tells K mg x a g (ttCon K cv i Ng.length l) (fun _ => some dv) (xhF is cl) := by
  refine ⟨⟨pg, _, sg, dV, kV, doc, pm, cdv, ct, oc, an, od, osl, Ng, T.hk, T.lk, T.hcd, T.hb, T.Sg, T.hN0, T.hva, fun X q hK hmg => ?_⟩, fun X hK hmg t d b c W h => ?_⟩
  · subst hK hmg
    exact gives_con T.h0 T.hN T.hi T.hln (fun s H => (T.H X s H rfl rfl).hds) hc0
  · subst hK hmg
    exact rd_con hcv T.his (T.H X X.s_0 X.H_0 rfl rfl) T.small h
end
end Ge

set_option maxHeartbeats 400000
namespace Ge
open PySem PySem.Spec PyProof.Rows L2 Sd
/-- what is asked of an exception class's __init__ with one value -/
theorem xok1 {P : Program} {K : PySem.W.Frag} {mg : Str → Option Value} {C fI cda cc : Addr} {f qual : Str} {params : Arguments} {scope : Scope} {dV kV doc pm ct oc : Value} {an od : Option Addr} {osl : Array (Option Value)} {p0 p1 p2 p3 p4 p5 p6 p7 p8 p9 : Pos} {ccl cl : Value} {cdd cld : Option Addr} {ccs csl : Array (Option Value)} {vs : Array Value} {file : Str} {tf : Tok} {ar : Arg}
    (x : XCls P K mg C) (iC : PySem.W.findIn K (.ref C) "__init__" = some (some (.ref fI))) (tI : PySem.W.typeIn K (.ref fI) = some (.type "function"))
    (lkf : K.lookup fI = some ⟨oc, od, .func (PySem.W.ksFn "__init__" qual params (xBody1 f p0 p1 p2 p3 p4 p5 p6 p7 p8 p9) scope dV kV doc pm an (.ref cda) ct cc), osl⟩) (hcd : PySem.W.codeIn K (.ref cda) qual = true) (lkc : K.lookup cda = some ⟨ccl, cdd, .fields vs, ccs⟩) (hvs : vs[2]? = some (.str file tf)) (hfile : ((P.main.file : Str) == file) = true)
    (lkl : K.lookup cc = some ⟨cl, cld, .cell (some (.ref C)), csl⟩) (hno : PySem.W.findIn K (.ref C) f = some none) (hp : (params.posonlyargs ++ params.args).head? = some ar) (har : ar.arg = "self")
    (hks : scope.names.lookup ("super" : Str) = some .globalImplicit) (hkc : scope.names.lookup ("__class__" : Str) = some .free) (hka : scope.names.lookup ("self" : Str) = some .local) (hkf : scope.names.lookup f = some .local) (hk : scope.kind = .function)
    (hco : scope.isCoroutine = false) (hgen : scope.isGenerator = false) (hnc : ∀ x ∈ scope.names, x.2 ≠ .cell) (hdf : (f == ("__debug__" : Str)) = false) (hsf : f ≠ "self")
    (hbind : ∀ us : List Value, us.length = 2 → bindArgs (PySem.W.ksFn "__init__" qual params (xBody1 f p0 p1 p2 p3 p4 p5 p6 p7 p8 p9) scope dV kV doc pm an (.ref cda) ct cc) ⟨us, []⟩ = pure ([("self" : Str), f].zip us))
    (he : ∀ L, starEach [.Name f p3] (PySem.W.ksEnv qual scope L fI (.ref cda) cc) = [(false, eval (.Name f p3) (PySem.W.ksEnv qual scope L fI (.ref cda) cc))]) (hbt : ∀ L, backTo p4 (starEach [.Name f p3] (PySem.W.ksEnv qual scope L fI (.ref cda) cc)) = [(false, eval (.Name f p3) (PySem.W.ksEnv qual scope L fI (.ref cda) cc))]) 
    (hcl : ∀ L, eval (.Call (.Attribute (.Call (.Name "super" p0) [] [] p1) "__init__" p2) [.Name f p3] [] p4) (PySem.W.ksEnv qual scope L fI (.ref cda) cc) = (do
      let ov ← attributeBase (.Call (.Name "super" p0) [] [] p1) "__init__" (PySem.W.ksEnv qual scope L fI (.ref cda) cc) (eval (.Call (.Name "super" p0) [] [] p1) (PySem.W.ksEnv qual scope L fI (.ref cda) cc))
      standAt p2.atName
      let (f1, first) ← holding [ov] (getMethod ov "__init__" (pure false))
      callWith p4 f1 first (backTo p4 (starEach [.Name f p3] (PySem.W.ksEnv qual scope L fI (.ref cda) cc))) []))
    (hi : ∀ L, interactive (PySem.W.ksEnv qual scope L fI (.ref cda) cc) = false) (hsw : ∀ L, swapsWith (.Call (.Attribute (.Call (.Name "super" p0) [] [] p1) "__init__" p2) [.Name f p3] [] p4) none p5.line (PySem.W.ksEnv qual scope L fI (.ref cda) cc) = pure false) (hsw2 : ∀ L, swapsWith (.Name f p8) (some (.Attribute (.Name "self" p6) f p7)) p9.line (PySem.W.ksEnv qual scope L fI (.ref cda) cc) = pure false) : XOk P K mg C [f] := by
  refine ⟨x, by simp, Nat.le_succ 1, fI, iC, tI, fun base M w A s a t0 us R hl bk hab hd hx hq => ?_⟩
  match us, hl with
  | [u], _ =>
    refine exc_init1 M bk x hno lkf hcd lkc hvs hfile lkl hp har hks hkc hka hkf hk hco hgen hnc hdf hsf hd (.of_eq (hbind _ rfl)) he hbt hcl hi hsw hsw2 hx hab fun h' t' t1 dx k1 dn dne e n => ?_
    refine hq h' t' t1 dx _ k1 dn dne e n fun vs r g => ?_
    match vs, r with
    | [v], .cons rv .nil =>
      show RelO ([(f, v)].lookup g) (if g = f then some u else none)
      rw [List.lookup_cons]
      by_cases hg : g = f
      · subst hg
        rw [beq_self_eq_true, if_pos rfl]
        exact rv
      · rw [if_neg hg, beq_false_of_ne hg]
        exact True.intro
/-- what is asked of an exception class's __init__ with two -/
theorem xok2 {P : Program} {K : PySem.W.Frag} {mg : Str → Option Value} {C fI cda cc : Addr} {f f2 qual : Str} {params : Arguments} {scope : Scope} {dV kV doc pm ct oc : Value} {an od : Option Addr} {osl : Array (Option Value)} {p0 p1 p2 p3 q1 p4 p5 p6 p7 p8 p9 q2 q3 q4 q5 : Pos} {ccl cl : Value} {cdd cld : Option Addr} {ccs csl : Array (Option Value)} {vs : Array Value} {file : Str} {tf : Tok} {ar : Arg}
    (x : XCls P K mg C) (iC : PySem.W.findIn K (.ref C) "__init__" = some (some (.ref fI))) (tI : PySem.W.typeIn K (.ref fI) = some (.type "function"))
    (lkf : K.lookup fI = some ⟨oc, od, .func (PySem.W.ksFn "__init__" qual params (xBody2 f f2 p0 p1 p2 p3 q1 p4 p5 p6 p7 p8 p9 q2 q3 q4 q5) scope dV kV doc pm an (.ref cda) ct cc), osl⟩) (hcd : PySem.W.codeIn K (.ref cda) qual = true) (lkc : K.lookup cda = some ⟨ccl, cdd, .fields vs, ccs⟩) (hvs : vs[2]? = some (.str file tf)) (hfile : ((P.main.file : Str) == file) = true)
    (lkl : K.lookup cc = some ⟨cl, cld, .cell (some (.ref C)), csl⟩) (hno : PySem.W.findIn K (.ref C) f = some none) (hno2 : PySem.W.findIn K (.ref C) f2 = some none) (hp : (params.posonlyargs ++ params.args).head? = some ar) (har : ar.arg = "self")
    (hks : scope.names.lookup ("super" : Str) = some .globalImplicit) (hkc : scope.names.lookup ("__class__" : Str) = some .free) (hka : scope.names.lookup ("self" : Str) = some .local) (hkf : scope.names.lookup f = some .local) (hkf2 : scope.names.lookup f2 = some .local) (hk : scope.kind = .function)
    (hco : scope.isCoroutine = false) (hgen : scope.isGenerator = false) (hnc : ∀ x ∈ scope.names, x.2 ≠ .cell) (hdf : (f == ("__debug__" : Str)) = false) (hsf : f ≠ "self") (hdf2 : (f2 == ("__debug__" : Str)) = false) (hsf2 : f2 ≠ "self") (hff : f ≠ f2)
    (hbind : ∀ us : List Value, us.length = 3 → bindArgs (PySem.W.ksFn "__init__" qual params (xBody2 f f2 p0 p1 p2 p3 q1 p4 p5 p6 p7 p8 p9 q2 q3 q4 q5) scope dV kV doc pm an (.ref cda) ct cc) ⟨us, []⟩ = pure ([("self" : Str), f, f2].zip us))
    (he : ∀ L, starEach [.Name f p3, .Name f2 q1] (PySem.W.ksEnv qual scope L fI (.ref cda) cc) = [(false, eval (.Name f p3) (PySem.W.ksEnv qual scope L fI (.ref cda) cc)), (false, eval (.Name f2 q1) (PySem.W.ksEnv qual scope L fI (.ref cda) cc))]) (hbt : ∀ L, backTo p4 (starEach [.Name f p3, .Name f2 q1] (PySem.W.ksEnv qual scope L fI (.ref cda) cc)) = [(false, eval (.Name f p3) (PySem.W.ksEnv qual scope L fI (.ref cda) cc)), (false, eval (.Name f2 q1) (PySem.W.ksEnv qual scope L fI (.ref cda) cc))]) 
    (hcl : ∀ L, eval (.Call (.Attribute (.Call (.Name "super" p0) [] [] p1) "__init__" p2) [.Name f p3, .Name f2 q1] [] p4) (PySem.W.ksEnv qual scope L fI (.ref cda) cc) = (do
      let ov ← attributeBase (.Call (.Name "super" p0) [] [] p1) "__init__" (PySem.W.ksEnv qual scope L fI (.ref cda) cc) (eval (.Call (.Name "super" p0) [] [] p1) (PySem.W.ksEnv qual scope L fI (.ref cda) cc))
      standAt p2.atName
      let (f1, first) ← holding [ov] (getMethod ov "__init__" (pure false))
      callWith p4 f1 first (backTo p4 (starEach [.Name f p3, .Name f2 q1] (PySem.W.ksEnv qual scope L fI (.ref cda) cc))) []))
    (hi : ∀ L, interactive (PySem.W.ksEnv qual scope L fI (.ref cda) cc) = false) (hsw : ∀ L, swapsWith (.Call (.Attribute (.Call (.Name "super" p0) [] [] p1) "__init__" p2) [.Name f p3, .Name f2 q1] [] p4) none p5.line (PySem.W.ksEnv qual scope L fI (.ref cda) cc) = pure false) (hsw2 : ∀ L, swapsWith (.Name f p8) (some (.Attribute (.Name "self" p6) f p7)) p9.line (PySem.W.ksEnv qual scope L fI (.ref cda) cc) = pure false) (hsw3 : ∀ L, swapsWith (.Name f2 q4) (some (.Attribute (.Name "self" q2) f2 q3)) q5.line (PySem.W.ksEnv qual scope L fI (.ref cda) cc) = pure false) : XOk P K mg C [f, f2] := by
  refine ⟨x, by simp [hff], Nat.le_refl 2, fI, iC, tI, fun base M w A s a t0 us R hl bk hab hd hx hq => ?_⟩
  match us, hl with
  | [u, u2], _ =>
    refine exc_init2 M bk x hno hno2 lkf hcd lkc hvs hfile lkl hp har hks hkc hka hkf hkf2 hk hco hgen hnc hdf hsf hdf2 hsf2 hff hd (.of_eq (hbind _ rfl)) he hbt hcl hi hsw hsw2 hsw3 hx hab fun h' t' t1 dx k1 dn dne e n => ?_
    refine hq h' t' t1 dx _ k1 dn dne e n fun vs r g => ?_
    match vs, r with
    | [v, v2], .cons rv (.cons rv2 .nil) =>
      show RelO ([(f2, v2), (f, v)].lookup g) (if g = f2 then some u2 else if g = f then some u else none)
      rw [List.lookup_cons]
      by_cases hg : g = f2
      · subst hg
        rw [beq_self_eq_true, if_pos rfl]
        exact rv2
      · rw [if_neg hg, beq_false_of_ne hg]
        show RelO ([(f, v)].lookup g) (if g = f then some u else none)
        rw [List.lookup_cons]
        by_cases hg : g = f
        · subst hg
          rw [beq_self_eq_true, if_pos rfl]
          exact rv
        · rw [if_neg hg, beq_false_of_ne hg]
          exact True.intro
end Ge

set_option maxHeartbeats 400000
namespace Ge
open PySem PySem.Spec PyProof.Rows L2 Sd
/-! ### the end of a law with tables of code objects -/
/-- what is tracked when the law begins: the tables, and at most the script -/
structure BeginT (K : PySem.W.Frag) (H : Hp) (a : Addr) (vs : List Value) (ns : List Int) (ts : List Addr) : Prop where
  seq : SqL K H a (ns.map V.int)
  tab : ∀ t ∈ ts, H t = some (.tbl #[])
  one : ∀ b, H b = none ∨ (b = a ∧ H b = some (.frz (scr vs) (.lst (ns.map V.int))) ∧ K.lookup a = none) ∨ b ∈ ts
theorem beginT_ex {K : PySem.W.Frag} {h : Heap} {a : Addr} {vs : List Value} {ns : List Int} {ts : List Addr} (hK : K.In h) (ha : h.get? a = some (scr vs)) (hi : IntsAre vs ns) (hl : ns.length ≤ sizeLine) (nt : a ∉ ts) : ∃ H, BeginT K H a vs ns ts := by
  obtain ⟨H, B⟩ := begin_ex hK ha hi hl
  have off : ∀ b, b ∉ ts → (if b ∈ ts then some (HO.tbl #[]) else H b) = H b := fun b n => if_neg n
  refine ⟨fun b => if b ∈ ts then some (.tbl #[]) else H b, ?_, fun t m => if_pos m, fun b => ?_⟩
  · rcases B.seq with (z | ⟨o, z⟩) | z
    · exact .inl (.inl ((off a nt).trans z))
    · exact .inl (.inr ⟨o, (off a nt).trans z⟩)
    · exact .inr z
  · by_cases m : b ∈ ts
    · exact .inr (.inr m)
    · have e := off b m
      rcases B.one b with z | ⟨z1, z2, z3⟩
      · exact .inl (e.trans z)
      · exact .inr (.inl ⟨z1, e.trans z2, z3⟩)
/-- the tables of the head, each with its code object -/
structure Heads (h : Heap) (K : PySem.W.Frag) (cs : List (Addr × Addr)) : Prop where
  emp : ∀ p ∈ cs, h.get? p.2 = some (PySem.W.tabObj #[])
  out : ∀ p ∈ cs, K.lookup p.2 = none
  hd : ∀ p ∈ cs, PySem.W.CodeHd h p.1 p.2
theorem law_gT {P : Program} {w : World} {K : PySem.W.Frag} {mg mb : Str → Option Value} {k : Nat} {fa a : Addr} {fd : FuncData} {x : Str} {sp : Sp} {cs : List (Addr × Addr)}
    {s1 : Shared} {vs : List Value} {ns : List Int} (hK : K.In s1.heap) (hm : s1.heap.Ns mainGlobals mg) (hb : s1.heap.Ns builtinsNs mb)
    (hbb : ∀ x : Str, x ≠ "__name__" → mb x = bootBuiltins x) (hlim : s1.heap.NoLimit) (hg : s1.gens = #[]) (C : Heads s1.heap K cs)
    (hbm : ∃ (bm : Addr) (ob : Obj), mg "__builtins__" = some (.ref bm) ∧ bm ≠ builtinsNs ∧ s1.heap.get? bm = some ob ∧ ob.cls = .type "module" ∧ ob.dict = some builtinsNs ∧ ob.data = .plain)
    (ha : s1.heap.get? a = some (scr vs)) (hi : IntsAre vs ns) (hl : ns.length ≤ sizeLine) (hr : Room k callerA)
    (F : ∀ base : Heap, K.In base → base.Ns mainGlobals mg → (∀ p ∈ cs, LamX.TabB base mg p.1 p.2) → FnG P w K mg base k fa fd [x] sp)
    (bind : ∀ (s : Shared) (u : Value), BindsTo s fd ⟨[u], []⟩ [(x, u)])
    (hsp : ∀ H : Hp, (∀ p ∈ cs, H p.2 = some (.tbl #[])) → SqL K H a (ns.map V.int) → sp [.ref a] H (fun v _ => v = .bl true) fun _ _ _ => False) :
    codeAny (model P w) callerA (.call (.ref fa) ⟨[.ref a], []⟩)
      (fun r s' => r = .ok (.ret (.bool true)) ∧ OldK s1.heap s'.heap ∧ s'.os = s1.os ∧ AllBare s'.gens) s1 := by
  have at2 : ∀ {t}, t ∈ cs.map (·.2) → s1.heap.get? t = some (PySem.W.tabObj #[]) := fun {t} m => by
    obtain ⟨p, hp, rfl⟩ := List.mem_map.mp m
    exact C.emp p hp
  have mem2 : ∀ p ∈ cs, p.2 ∈ cs.map (·.2) := fun p hp => List.mem_map.mpr ⟨p, hp, rfl⟩
  obtain ⟨H, B⟩ := beginT_ex (ts := cs.map (·.2)) hK ha hi hl fun z => by
    have e := (at2 z).symm.trans ha
    cases e
  -- nothing else is tracked
  have free : ∀ {b : Addr} {o : Obj}, s1.heap.get? b = some o → o.data ≠ (scr vs).data → o.data ≠ (PySem.W.tabObj #[]).data → H b = none := by
    intro b o e d1 d2
    rcases B.one b with z | ⟨rfl, _, _⟩ | m
    · exact z
    · rw [ha] at e
      cases e
      exact absurd rfl d1
    · rw [at2 m] at e
      cases e
      exact absurd rfl d2
  have toBase : ∀ {b : Addr} {o : Obj}, s1.heap.get? b = some o → o.data ≠ (scr vs).data → o.data ≠ (PySem.W.tabObj #[]).data → (hidT s1.heap H).get? b = some o := fun e d1 d2 => hidT_get e (free e d1 d2)
  have nsB : ∀ {b : Addr} {m : Str → Option Value}, s1.heap.Ns b m → (hidT s1.heap H).Ns b m := by
    rintro b m ⟨o, es, ep, e, d, rest⟩
    exact ⟨o, es, ep, toBase e (by rw [d]; nofun) (by rw [d]; nofun), d, rest⟩
  have KB : K.In (hidT s1.heap H) := by
    intro b o e
    refine hidT_get (hK b o e) ?_
    rcases B.one b with z | ⟨rfl, _, z⟩ | m
    · exact z
    · rw [z] at e
      cases e
    · obtain ⟨p, hp, rfl⟩ := List.mem_map.mp m
      rw [C.out p hp] at e
      cases e
  have md : L2.Mod K mg (hidT s1.heap H) := ⟨KB, nsB hm, ⟨mb, nsB hb, hbb⟩, by
    obtain ⟨mc, e1, e2⟩ := hlim
    exact ⟨mc, nsB e1, e2⟩⟩
  have TB : ∀ p ∈ cs, LamX.TabB (hidT s1.heap H) mg p.1 p.2 := by
    intro p hp
    obtain ⟨gO, gE, gN, gAt, gD, _⟩ := hm
    refine ⟨?_, ?_, fun z => ?_⟩
    · obtain ⟨o, us, file, tf, flags, tg, inF, text, tt, e1, r1, r2, r3, rest⟩ := C.hd p hp
      refine ⟨o, us, file, tf, flags, tg, inF, text, tt, toBase e1 (by rw [r2]; nofun) (fun z => ?_), r1, r2, r3, rest⟩
      rw [r2] at z
      cases z
      cases r3
    · obtain ⟨bm, ob, b1, b2, b3, b4, b5, b6⟩ := hbm
      refine ⟨bm, ob, b1, b2, fun q => ?_, fun q => ?_, toBase b3 (by rw [b6]; nofun) (by rw [b6]; nofun), b4, b5, b6⟩
      · rw [q, gAt] at b3
        cases b3
        rw [gD] at b6
        cases b6
      · rw [q, C.emp p hp] at b3
        cases b3
        cases b6
    · rw [z, C.emp p hp] at gAt
      cases gAt
      cases gD
  have ok : HOk P w H s1.heap := by
    intro b o e
    rcases B.one b with z | ⟨rfl, z, _⟩ | m
    · rw [z] at e
      cases e
    · rw [z] at e
      cases e
      exact ⟨ha, by rw [List.length_map]; exact hl, vs, _, vals_ints hi, ha⟩
    · rw [B.tab b m] at e
      cases e
      exact at2 m
  have e0 : Env0 P w K mg (hidT s1.heap H) callerA [] s1 H :=
    ⟨rfl, md, fun b o e => of_hidT e, Nat.le_of_eq (hidT_size _ _), trivial, fun b z => (by cases z), ok, .of_eq hg⟩
  have run := (F _ KB (nsB hm) TB).go callerA [] s1 H ⟨[.ref a], []⟩ [.ref a] [.ref a] _ _ rfl hr e0 (bind s1 (.ref a)) (.cons rfl .nil) (hsp H (fun p hp => B.tab _ (mem2 p hp)) B.seq)
  refine codeAny_mono run ?_
  intro r s' h
  cases r with
  | error e => cases h
  | ok fl =>
    cases fl with
    | next => cases h
    | brk => cases h
    | cont => cases h
    | ret u =>
      obtain ⟨v, H', os, bare, un, ok', rv, ev⟩ := h
      obtain rfl : v = .bl true := ev
      obtain rfl : u = Value.bool true := rv
      have key : ∀ b o, b ∉ cs.map (·.2) → s1.heap.get? b = some o → s'.heap.get? b = some o := by
        intro b o nb e
        rcases B.one b with z | ⟨rfl, z, _⟩ | m
        · exact un.keep b o e z (by intro q; cases q) (by intro q; cases q)
        · have old := (ok b _ z).1
          have new := (ok' b _ (un.frzs b _ _ z)).1
          rw [e] at old
          cases old
          exact new
        · exact absurd m nb
      have grew : ∀ p ∈ cs, ∃ more : Array Value, s'.heap.get? p.2 = some (PySem.W.tabObj more) := fun p hp => by
        obtain ⟨more, z⟩ := un.tbls p.2 #[] (B.tab _ (mem2 p hp))
        exact ⟨_, ok' p.2 _ z⟩
      refine ⟨rfl, ⟨fun b o e => ?_, fun b o e => ?_⟩, os, bare⟩
      · by_cases m : b ∈ cs.map (·.2)
        · obtain ⟨p, hp, rfl⟩ := List.mem_map.mp m
          obtain ⟨more, g⟩ := grew p hp
          rw [C.emp p hp] at e
          cases e
          exact .inr (.inl ⟨((C.hd p hp).tab (C.emp p hp)).isCodeTable, rfl, #[], more, rfl, by rw [Array.empty_append]; exact g⟩)
        · exact .inl (key b o m e)
      · by_cases m : b ∈ cs.map (·.2)
        · obtain ⟨p, hp, rfl⟩ := List.mem_map.mp m
          obtain ⟨more, g⟩ := grew p hp
          exact ⟨_, g⟩
        · exact ⟨o, key b o m e⟩
theorem walk_gT {l : PySem.W.OpenLaw} {n k : Nat} {q : Program} {loose : List Str} {XP : (Str → Option Value) → Heap → Prop} {YP : World → Heap → Prop}
    {d : DefRec} {K : Params → PySem.W.Frag} {x : Str} (hn : l.most = some n) (hn2 : n ≤ sizeLine) (hdf : d.params.defaults = [])
    (hr : Room k callerA) (hY : ∀ (w : World) (h : Heap), YP w h → (K w.params).In h)
    (F : ∀ (w : World) (mg : Str → Option Value) (fa : Addr) (h : Heap), YP w h → (K w.params).In h → h.Ns mainGlobals mg → mg d.name = some (.ref fa) →
      ∃ (fd : FuncData) (cs : List (Addr × Addr)) (sp : Sp), Heads h (K w.params) cs ∧ (∀ (s : Shared) (u : Value), BindsTo s fd ⟨[u], []⟩ [(x, u)]) ∧
        (∀ base : Heap, (K w.params).In base → base.Ns mainGlobals mg → (∀ p ∈ cs, LamX.TabB base mg p.1 p.2) → FnG l.prog w (K w.params) mg base k fa fd [x] sp) ∧
        ∀ (H : Hp) (a : Addr) (ns : List Int), ns.length ≤ n → (∀ z ∈ ns, Builtin.Int.intBits z ≤ 1048576) → (∀ p ∈ cs, H p.2 = some (.tbl #[])) →
          SqL (K w.params) H a (ns.map V.int) → sp [.ref a] H (fun v _ => v = .bl true) fun _ _ _ => False) :
    PySem.W.WalkO q loose XP YP l.row.toRowW d [] (fun f vs => PySem.call f vs) := by
  refine Att.attach_callB hn hdf ?_
  intro w s0 s1 mg mb fa o pm cd doc a vs ns G Y ho hd hcd hmg hobj hints hlen hbits hgens
  have inK := hY w _ Y
  obtain ⟨fd, cs, sp, C, hb, hF, hsp⟩ := F w mg fa _ Y inK G.T.g hmg
  exact law_gT inK G.T.g G.T.b G.T.builtins G.T.nolimit hgens C G.T.bmain hobj hints (Nat.le_trans hlen hn2) hr hF hb fun H hH hS => hsp H a ns hlen hbits hH hS
end Ge

set_option maxHeartbeats 400000
namespace Ge
open PySem PySem.Spec PyProof.Rows L2 Sd
variable [HasT]
section
variable {X : Cx} {W : WX} {K : PySem.W.Frag} {P : Program} {w : World} {mg : Str → Option Value} {base : Heap} {k n : Nat} {f0 : Addr} {fd : FuncData} {ps prm : List Str} {sp : Sp} {x : Str} {p pos : Pos} {e : Expr} {es : List Expr} {c : Bool} {tx : TA} {dx : DA} {Fn0 : Fn} {C : Addr} {ns : List Str} {Fi : FnI}
/-- f() -/
theorem pe_callE0 (F : FnE X.prog X.w X.K X.mg X.base k f0 fd ps sp) (hg : X.A.guards = some []) (hr : Room k X.A) (hgl : Gl X x)
    (hm : X.mg x = some (.ref f0)) (hk : PySem.W.keepIn X.K (.ref f0) = true) (hb : Binds X.K fd ps []) (tk : Takes X W) (hdb : (x == ("__debug__" : Str)) = false := by decide) :
    PE X (.Call (.Name x p) [] [] pos) (tCallE sp (WE W) tNil) := by
  constructor
  intro pins s σ H Q I h
  refine wpAny_Call_Name_kw (ld_glob I hgl hm ?_ hdb)
  refine PySem.W.callWith_K0 (first := []) I.kIn hk ?_
  have q : sp [] H Q (WE W σ) := h
  have hl : ([] : List Value).length = ps.length := F.len _ _ _ _ q
  have bd := hb s [] I.kIn (by rw [List.append_nil]; exact hl)
  rw [List.append_nil] at bd
  refine wpAny_call (codeAny_mono (F.go X.A X.stack s H ⟨[], []⟩ [] [] Q (WE W σ) hg hr I.env0 bd .nil q) ?_)
  intro res s' hq
  cases res with
  | error e => exact passAt tk σ _ _ _ e s' I hq
  | ok fl => cases fl with
    | ret u => exact I.after hq
    | next => cases hq
    | brk => cases hq
    | cont => cases hq
theorem pd_call0 (G : FnE P w K mg base k f0 fd prm (spG K 0 Fn0)) (hP : X.prog = P) (hw : X.w = w) (hK : X.K = K) (hmg : X.mg = mg) (hB : X.base = base) (hg : X.A.guards = some []) (hr : Room k X.A) (hgl : Gl X x)
    (hm : mg x = some (.ref f0)) (hk : PySem.W.keepIn K (.ref f0) = true) (hb : Binds K fd prm []) (tk : Takes X W) (hdb : (x == ("__debug__" : Str)) = false := by decide) :
    PD K X W false (.Call (.Name x p) [] [] pos) (tCallE (spG K 0 Fn0) (WE W) tNil) (dCall Fn0 dNil) := by
  subst hP hw hK hmg hB
  exact ⟨pe_callE0 G hg hr hgl hm hk hb tk hdb, fun b => eg_call ega_nil len_nil⟩
/-! ### in a lambda's body -/
theorem pdf_fn (G : FnE P w K mg base k f0 fd prm (spG K n Fn0)) (hP : X.prog = P) (hw : X.w = w) (hK : X.K = K) (hmg : X.mg = mg) (hB : X.base = base) (hg : X.A.guards = some []) (hr : Room k X.A) (hgl : Gl X x)
    (hm : mg x = some (.ref f0)) (hk : PySem.W.keepIn K (.ref f0) = true) (hb : Binds K fd prm []) (tk : Takes X W) (ha : PDA K X W c (e :: es) tx dx) (hn : n = (e :: es).length)
    (hdb : (x == ("__debug__" : Str)) = false := by decide) (he : starEach (e :: es) X.env = (false, eval e X.env) :: starEach es X.env := by rfl) (hpl : (backTo pos (starEach es X.env)).any (·.1) = false := by rfl) :
    PDF K X W c (.Call (.Name x p) (e :: es) [] pos) (tCallE (spG K n Fn0) (WE W) tx) (dCall Fn0 (dCalm dx)) :=
  ⟨(pd_call G hP hw hK hmg hB hg hr hgl hm hk hb tk ha hn hdb he hpl).pe, fun b => eg_callF (ha.ev b) (hn ▸ ha.ln)⟩
theorem pdf_fnK {ks : List Str} {g : List Value → List Value} {gV : List V → List V} {gD : List Da → List Da} {kws : List Keyword} (G : FnE P w K mg base k f0 fd prm (spG K n Fn0)) (hP : X.prog = P) (hw : X.w = w) (hK : X.K = K) (hmg : X.mg = mg) (hB : X.base = base) (hg : X.A.guards = some []) (hr : Room k X.A) (hgl : Gl X x)
    (hm : mg x = some (.ref f0)) (hk : PySem.W.keepIn K (.ref f0) = true) (hb : KW0 K fd prm ks g gV) (hD : ∀ S us ds, us.length = kws.length → Rps K S us ds → (gV us).length = n ∧ Rps K S (gV us) (gD ds)) (tk : Takes X W) (ha : PDK K X W c kws tx dx) (hl : kws.length = ks.length)
    (hall : (backToKw pos (keywordEach kws X.env)).all (·.1.isSome) = true := by rfl) (hks : (backToKw pos (keywordEach kws X.env)).filterMap (·.1) = ks := by rfl) (hdb : (x == ("__debug__" : Str)) = false := by decide)
    (hpl : ((backTo pos (starEach [] X.env)).any (·.1) || (backToKw pos (keywordEach kws X.env)).any (·.1.isNone)) = false := by rfl) :
    PDF K X W c (.Call (.Name x p) [] kws pos) (tCallKE (spG K n Fn0) ks.length gV (WE W) tx) (dCallK Fn0 gD (dCalm dx)) :=
  ⟨(pd_callK G hP hw hK hmg hB hg hr hgl hm hk hb hD tk ha hl hall hks hdb hpl).pe, fun b => by rw [← hl]; exact eg_callKF (ha.ev b) ha.ln hD⟩
theorem pdf_mk (M : Mk K C f0) (G : FnE P w K mg base k f0 fd prm (spIG K C ns (n + 1) Fi)) (hP : X.prog = P) (hw : X.w = w) (hK : X.K = K) (hmg : X.mg = mg) (hB : X.base = base) (hg : X.A.guards = some []) (hr : Room (k + 1) X.A) (hgl : Gl X x)
    (hm : mg x = some (.ref C)) (hb : Binds K fd prm []) (tk : Takes X W) (ha : PDA K X W c (e :: es) tx dx) (hn : n = (e :: es).length)
    (hdb : (x == ("__debug__" : Str)) = false := by decide) (he : starEach (e :: es) X.env = (false, eval e X.env) :: starEach es X.env := by rfl) (hpl : (backTo pos (starEach es X.env)).any (·.1) = false := by rfl) :
    PDF K X W c (.Call (.Name x p) (e :: es) [] pos) (tMakeE C (spIG K C ns (n + 1) Fi) (WE W) tx) (dMake C ns Fi (dCalm dx)) :=
  ⟨(pd_make M G hP hw hK hmg hB hg hr hgl hm hb tk ha hn hdb he hpl).pe, fun b => eg_makeF (ha.ev b) (hn ▸ ha.ln)⟩
end
/-! ### a tuple that stands in the text -/
def cDa : Value → Option Da
  | .int i _ => some (.int i) | .str z _ => some (.str z) | .none => some .non | .bool b => some (.bl b) | _ => none
def cDas : List Value → Option (List Da)
  | [] => some []
  | v :: r => match cDa v, cDas r with | some d, some ds => some (d :: ds) | _, _ => none
def cV : Da → V
  | .int i => .int i | .str z => .str z | .bl b => .bl b | _ => .non
omit [HasT] in
theorem cDa_ok {K : PySem.W.Frag} {S : Hp} {v : Value} {d : Da} (h : cDa v = some d) : RelV (cV d) v ∧ Rp K S (cV d) d := by
  cases v <;> cases h
  · exact ⟨rfl, .non⟩
  · exact ⟨rfl, .bl _⟩
  · exact ⟨⟨_, rfl⟩, .int _⟩
  · exact ⟨⟨_, rfl⟩, .str _⟩
omit [HasT] in
theorem cDas_ok {K : PySem.W.Frag} {S : Hp} : ∀ {vs : List Value} {ds : List Da}, cDas vs = some ds → Vals (ds.map cV) vs ∧ Rps K S (ds.map cV) ds
  | [], ds, h => by cases h; exact ⟨.nil, .nil⟩
  | v :: r, ds, h => by
    unfold cDas at h
    split at h
    · rename_i d es h1 h2
      cases h
      exact ⟨.cons (cDa_ok (K := K) (S := S) h1).1 (cDas_ok (K := K) (S := S) h2).1, .cons (cDa_ok h1).2 (cDas_ok h2).2⟩
    · cases h
omit [HasT] in
theorem tup_txt {K : PySem.W.Frag} {a : Addr} {od : Option Addr} {its : Array Value} {n : Nat} {sl : Array (Option Value)} {ds : List Da} (lk : K.lookup a = some ⟨.type "tuple", od, .seq its n, sl⟩) (hs : small its.size = true) (hv : cDas its.toList = some ds) (S : Hp) : Rp K S (.ref a) (.tup ds) :=
  .tup (.inr ⟨_, its, n, lk, rfl, rfl, (by rw [sizeLine_eq]; exact Nat.le_trans (of_decide_eq_true hs) (by decide)), (cDas_ok (K := K) (S := S) hv).1⟩) (cDas_ok hv).2
section
variable {K : PySem.W.Frag} {X : Cx} {W : WX} {e : Expr} {a : Addr} {ds : List Da}
theorem pd_ctup (r : ∀ S, Rp K S (.ref a) (.tup ds)) (p : PE X e (tC (.ref a))) : PD K X W false e (tC (.ref a)) (dC (.tup ds)) := ⟨p, fun _ => eg_c r⟩
end
end Ge

set_option maxHeartbeats 400000
namespace Ge
open PySem PySem.Spec PyProof.Rows L2 Sd
variable [HasT]
/-! ### tuple(range(..)) -/
def rTupR : List V → Hp → VK → Prop := fun xs H Q => ∃ (r : Addr) (lo hi : Int), xs = [.ref r] ∧ H r = some (.rng lo hi) ∧ (-1000000 ≤ lo ∧ lo ≤ hi ∧ hi ≤ 1000000) ∧
  ∀ l, H l = none → Q (.ref l) (upd H l (.tup ((List.range (hi - lo).toNat).map fun (i : Nat) => V.int (lo + i))))
theorem call_tupR {X : Cx} (hc : X.calm = true) : CallR X (.type "tuple") rTupR := by
  rintro pins s σ H xs us Q I rv ⟨r, lo, hi, rfl, hr, ⟨b1, b2, b3⟩, q⟩
  obtain ⟨u, rfl, rfl⟩ := vals1 rv
  obtain ⟨t, u, v, g⟩ := (show ObjOk X.prog X.w H s.heap r (.rng lo hi) from I.hok r _ hr)
  refine call_tuple_range (n := (hi - lo).toNat) (I.ok.hd hc) g (small_one (by omega) (by omega) (by omega) (by omega)) ?_ ?_ fun h1 tk acc hk it => ?_
  · rw [rangeSize_one]
    split <;> omega
  · have : (hi - lo).toNat ≤ 2000000 := by omega
    exact Nat.le_trans this (by decide)
  · have hv := vals_of_items (lo := lo) (hi - lo).toNat acc.toList (by rw [Array.length_toList]; exact it.1) fun j w hj => it.2 j w (by simpa using hj)
    have I2 : Inv X pins σ H { s with heap := h1, toks := tk } := I.kept hk
    refine ⟨.ref h1.objs.size, upd H h1.objs.size (.tup ((List.range (hi - lo).toNat).map fun (i : Nat) => V.int (lo + i))), I2.laid (t' := tk) (fun c o e => Heap.get?_push_of_some _ e) (Nat.le_refl _) ⟨?_, acc.toList, hv, ?_⟩, rfl, q _ (I2.hok.fresh (Nat.le_refl _))⟩
    · rw [List.length_map, List.length_range]
      have : (hi - lo).toNat ≤ 2000000 := by omega
      exact Nat.le_trans this (by decide)
    · rw [Array.toArray_toList]; exact IsTup.new _ _
def tupR2F : OpN := fun l => match l with
  | [.val (.fz (.int lo)), .val (.fz (.int hi))] => if rngOk lo hi = true then some (.dat (.tup (rngD lo hi))) else none
  | _ => none
def tupR1F : OpN := one fun s => match s with
  | .val (.fz (.int hi)) => if rngOk 0 hi = true then some (.dat (.tup (rngD 0 hi))) else none
  | _ => none
section
variable {K : PySem.W.Frag} {b : Bs} {ρ : List Sl} {σ : L2.St} {S H S' H' : Hp} {ps : List (V × Sl)} {X : Cx} {W : WX} {c : Bool} {tx : TA} {dx : DA} {pos : Pos}
theorem ok_tupR2 : ∀ b l s, tupR2F l = some s → ∀ ρ σ H ps (Q : VK) us, us.length = l.length → At K b ρ σ H ((us.zip l).reverse ++ ps) → (∀ H' z, At K b ρ σ H' ((z, s) :: ps) → Q z H') → rRng us H fun v H1 => rTupR [v] H1 Q := fun b l s e ρ σ H ps Q us hl a q => by
  unfold tupR2F at e
  split at e
  · rename_i lo hi
    split at e
    · cases e
      rename_i ho
      have ho : -1000000 ≤ lo ∧ lo ≤ hi ∧ hi ≤ 1000000 := of_decide_eq_true ho
      match us, hl with
      | [x, y], _ =>
        have a' : At K b ρ σ H ((y, .dat (.int hi)) :: (x, .dat (.int lo)) :: ps) := a
        obtain rfl := a'.vInt
        obtain rfl := a'.drop.vInt
        obtain ⟨S, F, A⟩ := a'.drop2
        refine ⟨lo, hi, rfl, fun p np => ?_⟩
        have A1 : At K b ρ σ _ ps := ⟨S, F, A.newH (o := .rng lo hi) np⟩
        exact ⟨p, lo, hi, rfl, upd_same, ho, fun l nl => q _ _ (A1.newT nl fun S F _ => rps_rng _)⟩
    · cases e
  · cases e
theorem ok_tupR1 : ∀ b l s, tupR1F l = some s → ∀ ρ σ H ps (Q : VK) us, us.length = l.length → At K b ρ σ H ((us.zip l).reverse ++ ps) → (∀ H' z, At K b ρ σ H' ((z, s) :: ps) → Q z H') → rRng1 us H fun v H1 => rTupR [v] H1 Q := fun b l s e ρ σ H ps Q us hl a q => by
  unfold tupR1F one at e
  split at e
  · dsimp only at e
    split at e
    · rename_i hi
      split at e
      · cases e
        rename_i ho
        have ho : -1000000 ≤ (0 : Int) ∧ 0 ≤ hi ∧ hi ≤ 1000000 := of_decide_eq_true ho
        match us, hl with
        | [x], _ =>
          have a' : At K b ρ σ H ((x, .dat (.int hi)) :: ps) := a
          obtain rfl := a'.vInt
          obtain ⟨S, F, A⟩ := a'.drop
          refine ⟨hi, rfl, fun p np => ?_⟩
          have A1 : At K b ρ σ _ ps := ⟨S, F, A.newH (o := .rng 0 hi) np⟩
          exact ⟨p, 0, hi, rfl, upd_same, ho, fun l nl => q _ _ (A1.newT nl fun S F _ => rps_rng _)⟩
      · cases e
    · cases e
  · cases e
theorem b_tupR2 {p p2 pos2 : Pos} {ea eb : Expr} (hc : X.calm = true) (hg : Gl X "tuple") (hm : X.mg "tuple" = none) (hg2 : Gl X "range") (hm2 : X.mg "range" = none) (ha : PDA K X W c [ea, eb] tx dx)
    (he : starEach [.Call (.Name "range" p2) [ea, eb] [] pos2] X.env = (false, eval (.Call (.Name "range" p2) [ea, eb] [] pos2) X.env) :: starEach [] X.env := by rfl) (he2 : starEach [ea, eb] X.env = (false, eval ea X.env) :: starEach [eb] X.env := by rfl) (hpl : (backTo pos (starEach [] X.env)).any (·.1) = false := by rfl) (hpl2 : (backTo pos2 (starEach [eb] X.env)).any (·.1) = false := by rfl) :
    PD K X W c (.Call (.Name "tuple" p) [.Call (.Name "range" p2) [ea, eb] [] pos2] [] pos) (tCB rTupR (tCons (tCB rRng tx) tNil)) (dCB tupR2F dx) :=
  ⟨pe_callTy (call_tupR hc) hg hm (by decide +kernel) (pa_cons (pe_callTy (show CallR X _ rRng from cr_range2) hg2 hm2 (by decide +kernel) ha.pa (by decide) (by decide) he2 hpl2) pa_nil he) (by decide) (by decide) he hpl, fun b => eg_cb2 ok_tupR2 (ha.ev b)⟩
theorem b_tupR1 {p p2 pos2 : Pos} {ea : Expr} (hc : X.calm = true) (hg : Gl X "tuple") (hm : X.mg "tuple" = none) (hg2 : Gl X "range") (hm2 : X.mg "range" = none) (ha : PDA K X W c [ea] tx dx)
    (he : starEach [.Call (.Name "range" p2) [ea] [] pos2] X.env = (false, eval (.Call (.Name "range" p2) [ea] [] pos2) X.env) :: starEach [] X.env := by rfl) (he2 : starEach [ea] X.env = (false, eval ea X.env) :: starEach [] X.env := by rfl) (hpl : (backTo pos (starEach [] X.env)).any (·.1) = false := by rfl) (hpl2 : (backTo pos2 (starEach [] X.env)).any (·.1) = false := by rfl) :
    PD K X W c (.Call (.Name "tuple" p) [.Call (.Name "range" p2) [ea] [] pos2] [] pos) (tCB rTupR (tCons (tCB rRng1 tx) tNil)) (dCB tupR1F dx) :=
  ⟨pe_callTy (call_tupR hc) hg hm (by decide +kernel) (pa_cons (pe_callTy (show CallR X _ rRng1 from cr_range1) hg2 hm2 (by decide +kernel) ha.pa (by decide) (by decide) he2 hpl2) pa_nil he) (by decide) (by decide) he hpl, fun b => eg_cb2 ok_tupR1 (ha.ev b)⟩
end
/-! ### a value that is frozen -/
def dFzE (a : DE) : DE := fun ρ => (a ρ).bind fun s => .pure (frzSl s)
theorem eg_fzE {K : PySem.W.Frag} {b : Bs} {W : WX} {c : Bool} {ta : TE} {da : DE} (h : EvG K b W c ta da) : EvG K b W c ta (dFzE da) := fun ρ σ H ps Q nv a q => by
  refine h ρ σ H ps Q nv a (G.good_mono (fun s k H1 v a1 => ?_) (fun _ h => h) (G.good_bind.mp q))
  have k : ∀ H' v, At K b ρ σ H' ((v, frzSl s) :: ps) → Q v H' := k
  cases s with
  | val o => exact k H1 v a1.freeze1
  | _ => exact k H1 v a1
theorem PD.fzE {K : PySem.W.Frag} {X : Cx} {W : WX} {c : Bool} {e : Expr} {te : TE} {d : DE} (h : PD K X W c e te d) : PD K X W c e te (dFzE d) := ⟨h.pe, fun b => eg_fzE (h.ev b)⟩
end Ge

set_option maxHeartbeats 1000000
namespace Ge
open PySem PySem.Spec PyProof.Rows L2 Sd
variable [HasT]
abbrev PW : Program := PySem.Challenge.pw_saidatonce_k45_whole_batches_harder_than
def topS (i : Nat) : Stmt := PySem.Challenge.pw_saidatonce_k45_whole_batches_harder_than.main.body.getD i (.Pass ⟨0, 0, 0, 0⟩)
abbrev s_walk_reach : Stmt := topS 1
abbrev s_ring_reach : Stmt := topS 2
abbrev s_is_integer : Stmt := topS 11
abbrev s_is_number : Stmt := topS 12
abbrev s_is_name : Stmt := topS 13
abbrev s_is_ascending : Stmt := topS 14
abbrev s_are_things : Stmt := topS 19
abbrev s_is_tie : Stmt := topS 20
abbrev s_Table_init : Stmt := inClass (topS 21) 0
abbrev s_Table_eq : Stmt := inClass (topS 21) 1
abbrev s_are_batches : Stmt := topS 25
abbrev s_check_batches : Stmt := topS 26
abbrev s_nothing_said : Stmt := topS 27
abbrev s_ring_ties : Stmt := topS 30
abbrev s_ring_table : Stmt := topS 31
abbrev s_row_case : Stmt := topS 32
abbrev s_round_case : Stmt := topS 33
abbrev s_walk_case : Stmt := topS 34
abbrev s_telling_case : Stmt := topS 35
abbrev s_is_as_hard : Stmt := topS 36
abbrev s_law_heap : Stmt := topS 38
abbrev s_law_draw : Stmt := topS 39
abbrev s_law_pick : Stmt := topS 40
abbrev s_law_mixed : Stmt := topS 41
abbrev s_law_reaches : Stmt := topS 42
abbrev s_law_rows : Stmt := topS 43
abbrev s_law_told : Stmt := topS 44
abbrev s_law_batches : Stmt := topS 45
abbrev s_law_bad_batches : Stmt := topS 46
abbrev s_law_held : Stmt := topS 47
abbrev s_law_some_batches : Stmt := topS 48
abbrev s_law_due : Stmt := topS 49
abbrev s_law_is_case : Stmt := topS 50
abbrev s_law_pair_right : Stmt := topS 51
abbrev s_law_bad_right : Stmt := topS 52
abbrev s_law : Stmt := topS 53
/-- where the text's classes stand -/
structure Cl where
  nil : Unit
  C_Table : Addr
  C_InvalidTable : Addr
  C_InvalidNumber : Addr
  C_Refused : Addr
  is : Isub
/-- which error is which -/
structure ClF (c : Cl) : Prop where
  nil : True
  is_InvalidNumber_InvalidNumber : c.is c.C_InvalidNumber c.C_InvalidNumber = some true
  is_InvalidNumber_Refused : c.is c.C_InvalidNumber c.C_Refused = some false
  is_InvalidTable_InvalidNumber : c.is c.C_InvalidTable c.C_InvalidNumber = some false
  is_InvalidTable_Refused : c.is c.C_InvalidTable c.C_Refused = some false
/-- where the text's defs stand, and which names are built-in -/
structure Txt (K : PySem.W.Frag) (mg : Str → Option Value) where
  c : Cl
  f : ClF c
  his : ∀ a b r, c.is a b = some r → PySem.W.exmOne K (.ref a) (.ref b) = some r
  g_InvalidTable : mg "InvalidTable" = some (.ref c.C_InvalidTable)
  x_InvalidTable : XOk PW K mg c.C_InvalidTable ["at"]
  g_InvalidNumber : mg "InvalidNumber" = some (.ref c.C_InvalidNumber)
  x_InvalidNumber : XOk PW K mg c.C_InvalidNumber ["word"]
  g_Refused : mg "Refused" = some (.ref c.C_Refused)
  xf_InvalidNumber : XfC K c.C_InvalidNumber
  xf_Refused : XfC K c.C_Refused
  nx_InvalidNumber_word : PySem.W.findIn K (.ref c.C_InvalidNumber) "word" = some none
  nx_Refused_word : PySem.W.findIn K (.ref c.C_Refused) "word" = some none
  xc_Refused : ExcC K c.C_Refused
  kit_Refused_InvalidNumber : PySem.W.kitOne K (.ref c.C_Refused) (.ref c.C_InvalidNumber) = some false
  A_LETTERS_OF_THINGS : Addr
  g_LETTERS_OF_THINGS : mg "LETTERS_OF_THINGS" = some (.ref A_LETTERS_OF_THINGS)
  r_LETTERS_OF_THINGS : ∀ S, Rp K S (.ref A_LETTERS_OF_THINGS) (.tup [.str "a", .str "b", .str "c", .str "d", .str "e", .str "f", .str "g", .str "h", .str "i", .str "j", .str "k", .str "l"])
  cA_law_bad_right : Addr
  pA_law_bad_right : Addr
  tm_law_bad_right : (pA_law_bad_right, ("_law_bad_right.<locals>.<lambda>" : Str)) ∈ HasT.T0
  tu_law_bad_right : ∀ p ∈ HasT.T0, p.1 = pA_law_bad_right → p.2 = "_law_bad_right.<locals>.<lambda>"
  g_Table : mg "Table" = some (.ref c.C_Table)
  i_Table : ClsI K c.C_Table
  nf_Table_things : NoAttr K c.C_Table "things"
  nf_Table_ties : NoAttr K c.C_Table "ties"
  a_walk_reach : Addr
  d_walk_reach : FuncData
  F_walk_reach : Fun K "walk_reach" "walk_reach" s_walk_reach a_walk_reach d_walk_reach
  g_walk_reach : mg "walk_reach" = some (.ref a_walk_reach)
  a_ring_reach : Addr
  d_ring_reach : FuncData
  F_ring_reach : Fun K "ring_reach" "ring_reach" s_ring_reach a_ring_reach d_ring_reach
  g_ring_reach : mg "ring_reach" = some (.ref a_ring_reach)
  a_is_integer : Addr
  d_is_integer : FuncData
  F_is_integer : Fun K "is_integer" "is_integer" s_is_integer a_is_integer d_is_integer
  g_is_integer : mg "is_integer" = some (.ref a_is_integer)
  a_is_number : Addr
  d_is_number : FuncData
  F_is_number : Fun K "is_number" "is_number" s_is_number a_is_number d_is_number
  g_is_number : mg "is_number" = some (.ref a_is_number)
  a_is_name : Addr
  d_is_name : FuncData
  F_is_name : Fun K "is_name" "is_name" s_is_name a_is_name d_is_name
  g_is_name : mg "is_name" = some (.ref a_is_name)
  a_is_ascending : Addr
  d_is_ascending : FuncData
  F_is_ascending : Fun K "is_ascending" "is_ascending" s_is_ascending a_is_ascending d_is_ascending
  g_is_ascending : mg "is_ascending" = some (.ref a_is_ascending)
  a_are_things : Addr
  d_are_things : FuncData
  F_are_things : Fun K "are_things" "are_things" s_are_things a_are_things d_are_things
  g_are_things : mg "are_things" = some (.ref a_are_things)
  a_is_tie : Addr
  d_is_tie : FuncData
  F_is_tie : Fun K "is_tie" "is_tie" s_is_tie a_is_tie d_is_tie
  g_is_tie : mg "is_tie" = some (.ref a_is_tie)
  a_Table_init : Addr
  d_Table_init : FuncData
  F_Table_init : Fun K "__init__" "Table.__init__" s_Table_init a_Table_init d_Table_init
  m_Table : Mk K c.C_Table a_Table_init
  a_Table_eq : Addr
  d_Table_eq : FuncData
  F_Table_eq : Fun K "__eq__" "Table.__eq__" s_Table_eq a_Table_eq d_Table_eq
  h_Table_eq : Meth K c.C_Table "__eq__" a_Table_eq
  a_are_batches : Addr
  d_are_batches : FuncData
  F_are_batches : Fun K "are_batches" "are_batches" s_are_batches a_are_batches d_are_batches
  g_are_batches : mg "are_batches" = some (.ref a_are_batches)
  a_check_batches : Addr
  d_check_batches : FuncData
  F_check_batches : Fun K "check_batches" "check_batches" s_check_batches a_check_batches d_check_batches
  g_check_batches : mg "check_batches" = some (.ref a_check_batches)
  a_nothing_said : Addr
  d_nothing_said : FuncData
  F_nothing_said : Fun K "nothing_said" "nothing_said" s_nothing_said a_nothing_said d_nothing_said
  g_nothing_said : mg "nothing_said" = some (.ref a_nothing_said)
  a_ring_ties : Addr
  d_ring_ties : FuncData
  F_ring_ties : Fun K "ring_ties" "ring_ties" s_ring_ties a_ring_ties d_ring_ties
  g_ring_ties : mg "ring_ties" = some (.ref a_ring_ties)
  a_ring_table : Addr
  d_ring_table : FuncData
  F_ring_table : Fun K "ring_table" "ring_table" s_ring_table a_ring_table d_ring_table
  g_ring_table : mg "ring_table" = some (.ref a_ring_table)
  a_row_case : Addr
  d_row_case : FuncData
  F_row_case : Fun K "row_case" "row_case" s_row_case a_row_case d_row_case
  g_row_case : mg "row_case" = some (.ref a_row_case)
  a_round_case : Addr
  d_round_case : FuncData
  F_round_case : Fun K "round_case" "round_case" s_round_case a_round_case d_round_case
  g_round_case : mg "round_case" = some (.ref a_round_case)
  a_walk_case : Addr
  d_walk_case : FuncData
  F_walk_case : Fun K "walk_case" "walk_case" s_walk_case a_walk_case d_walk_case
  g_walk_case : mg "walk_case" = some (.ref a_walk_case)
  a_telling_case : Addr
  d_telling_case : FuncData
  F_telling_case : Fun K "telling_case" "telling_case" s_telling_case a_telling_case d_telling_case
  g_telling_case : mg "telling_case" = some (.ref a_telling_case)
  a_is_as_hard : Addr
  d_is_as_hard : FuncData
  F_is_as_hard : Fun K "is_as_hard" "is_as_hard" s_is_as_hard a_is_as_hard d_is_as_hard
  g_is_as_hard : mg "is_as_hard" = some (.ref a_is_as_hard)
  a_law_heap : Addr
  d_law_heap : FuncData
  F_law_heap : Fun K "_law_heap" "_law_heap" s_law_heap a_law_heap d_law_heap
  g_law_heap : mg "_law_heap" = some (.ref a_law_heap)
  a_law_draw : Addr
  d_law_draw : FuncData
  F_law_draw : Fun K "_law_draw" "_law_draw" s_law_draw a_law_draw d_law_draw
  g_law_draw : mg "_law_draw" = some (.ref a_law_draw)
  a_law_pick : Addr
  d_law_pick : FuncData
  F_law_pick : Fun K "_law_pick" "_law_pick" s_law_pick a_law_pick d_law_pick
  g_law_pick : mg "_law_pick" = some (.ref a_law_pick)
  a_law_mixed : Addr
  d_law_mixed : FuncData
  F_law_mixed : Fun K "_law_mixed" "_law_mixed" s_law_mixed a_law_mixed d_law_mixed
  g_law_mixed : mg "_law_mixed" = some (.ref a_law_mixed)
  a_law_reaches : Addr
  d_law_reaches : FuncData
  F_law_reaches : Fun K "_law_reaches" "_law_reaches" s_law_reaches a_law_reaches d_law_reaches
  g_law_reaches : mg "_law_reaches" = some (.ref a_law_reaches)
  a_law_rows : Addr
  d_law_rows : FuncData
  F_law_rows : Fun K "_law_rows" "_law_rows" s_law_rows a_law_rows d_law_rows
  g_law_rows : mg "_law_rows" = some (.ref a_law_rows)
  a_law_told : Addr
  d_law_told : FuncData
  F_law_told : Fun K "_law_told" "_law_told" s_law_told a_law_told d_law_told
  g_law_told : mg "_law_told" = some (.ref a_law_told)
  a_law_batches : Addr
  d_law_batches : FuncData
  F_law_batches : Fun K "_law_batches" "_law_batches" s_law_batches a_law_batches d_law_batches
  g_law_batches : mg "_law_batches" = some (.ref a_law_batches)
  a_law_bad_batches : Addr
  d_law_bad_batches : FuncData
  F_law_bad_batches : Fun K "_law_bad_batches" "_law_bad_batches" s_law_bad_batches a_law_bad_batches d_law_bad_batches
  g_law_bad_batches : mg "_law_bad_batches" = some (.ref a_law_bad_batches)
  a_law_held : Addr
  d_law_held : FuncData
  F_law_held : Fun K "_law_held" "_law_held" s_law_held a_law_held d_law_held
  g_law_held : mg "_law_held" = some (.ref a_law_held)
  a_law_some_batches : Addr
  d_law_some_batches : FuncData
  F_law_some_batches : Fun K "_law_some_batches" "_law_some_batches" s_law_some_batches a_law_some_batches d_law_some_batches
  g_law_some_batches : mg "_law_some_batches" = some (.ref a_law_some_batches)
  a_law_due : Addr
  d_law_due : FuncData
  F_law_due : Fun K "_law_due" "_law_due" s_law_due a_law_due d_law_due
  g_law_due : mg "_law_due" = some (.ref a_law_due)
  a_law_is_case : Addr
  d_law_is_case : FuncData
  F_law_is_case : Fun K "_law_is_case" "_law_is_case" s_law_is_case a_law_is_case d_law_is_case
  g_law_is_case : mg "_law_is_case" = some (.ref a_law_is_case)
  a_law_pair_right : Addr
  d_law_pair_right : FuncData
  F_law_pair_right : Fun K "_law_pair_right" "_law_pair_right" s_law_pair_right a_law_pair_right d_law_pair_right
  g_law_pair_right : mg "_law_pair_right" = some (.ref a_law_pair_right)
  a_law_bad_right : Addr
  d_law_bad_right : FuncData
  F_law_bad_right : Fun K "_law_bad_right" "_law_bad_right" s_law_bad_right a_law_bad_right d_law_bad_right
  g_law_bad_right : mg "_law_bad_right" = some (.ref a_law_bad_right)
  cd_law_bad_right : d_law_bad_right.code = .ref cA_law_bad_right
  k_LETTERS : Tok
  g_LETTERS : mg "LETTERS" = some (.str "abcdefghijklmnopqrstuvwxyz" k_LETTERS)
  k_LONGEST_NAME : Tok
  g_LONGEST_NAME : mg "LONGEST_NAME" = some (.int 6 k_LONGEST_NAME)
  k_MOST_THINGS : Tok
  g_MOST_THINGS : mg "MOST_THINGS" = some (.int 12 k_MOST_THINGS)
  k_MOST_TIES : Tok
  g_MOST_TIES : mg "MOST_TIES" = some (.int 60 k_MOST_TIES)
  k_MOST_WEIGHT : Tok
  g_MOST_WEIGHT : mg "MOST_WEIGHT" = some (.int 1000000 k_MOST_WEIGHT)
  k_MOST_BATCHES : Tok
  g_MOST_BATCHES : mg "MOST_BATCHES" = some (.int 60 k_MOST_BATCHES)
  k_MOST_IN_BATCH : Tok
  g_MOST_IN_BATCH : mg "MOST_IN_BATCH" = some (.int 100 k_MOST_IN_BATCH)
  n_abs : mg "abs" = none
  n_all : mg "all" = none
  n_bool : mg "bool" = none
  n_enumerate : mg "enumerate" = none
  n_int : mg "int" = none
  n_isinstance : mg "isinstance" = none
  n_len : mg "len" = none
  n_list : mg "list" = none
  n_max : mg "max" = none
  n_min : mg "min" = none
  n_range : mg "range" = none
  n_repr : mg "repr" = none
  n_str : mg "str" = none
  n_tuple : mg "tuple" = none
section
variable {K : PySem.W.Frag} {mg : Str → Option Value} (T : Txt K mg)
theorem Txt.k_walk_reach : PySem.W.keepIn K (.ref T.a_walk_reach) = true := T.F_walk_reach.kp
theorem Txt.b_walk_reach : Binds K T.d_walk_reach ["batches"] [] := T.F_walk_reach.binds (ps := ["batches"]) fun _ _ _ _ _ _ us hl => match us, hl with | [_], _ => rfl
theorem Txt.k_ring_reach : PySem.W.keepIn K (.ref T.a_ring_reach) = true := T.F_ring_reach.kp
theorem Txt.b_ring_reach : Binds K T.d_ring_reach ["batches"] [] := T.F_ring_reach.binds (ps := ["batches"]) fun _ _ _ _ _ _ us hl => match us, hl with | [_], _ => rfl
theorem Txt.k_is_integer : PySem.W.keepIn K (.ref T.a_is_integer) = true := T.F_is_integer.kp
theorem Txt.b_is_integer : Binds K T.d_is_integer ["value"] [] := T.F_is_integer.binds (ps := ["value"]) fun _ _ _ _ _ _ us hl => match us, hl with | [_], _ => rfl
theorem Txt.k_is_number : PySem.W.keepIn K (.ref T.a_is_number) = true := T.F_is_number.kp
theorem Txt.b_is_number : Binds K T.d_is_number ["value"] [] := T.F_is_number.binds (ps := ["value"]) fun _ _ _ _ _ _ us hl => match us, hl with | [_], _ => rfl
theorem Txt.k_is_name : PySem.W.keepIn K (.ref T.a_is_name) = true := T.F_is_name.kp
theorem Txt.b_is_name : Binds K T.d_is_name ["value"] [] := T.F_is_name.binds (ps := ["value"]) fun _ _ _ _ _ _ us hl => match us, hl with | [_], _ => rfl
theorem Txt.k_is_ascending : PySem.W.keepIn K (.ref T.a_is_ascending) = true := T.F_is_ascending.kp
theorem Txt.b_is_ascending : Binds K T.d_is_ascending ["items"] [] := T.F_is_ascending.binds (ps := ["items"]) fun _ _ _ _ _ _ us hl => match us, hl with | [_], _ => rfl
theorem Txt.k_are_things : PySem.W.keepIn K (.ref T.a_are_things) = true := T.F_are_things.kp
theorem Txt.b_are_things : Binds K T.d_are_things ["value"] [] := T.F_are_things.binds (ps := ["value"]) fun _ _ _ _ _ _ us hl => match us, hl with | [_], _ => rfl
theorem Txt.k_is_tie : PySem.W.keepIn K (.ref T.a_is_tie) = true := T.F_is_tie.kp
theorem Txt.b_is_tie : Binds K T.d_is_tie ["value", "many"] [] := T.F_is_tie.binds (ps := ["value", "many"]) fun _ _ _ _ _ _ us hl => match us, hl with | [_, _], _ => rfl
theorem Txt.k_Table_init : PySem.W.keepIn K (.ref T.a_Table_init) = true := T.F_Table_init.kp
theorem Txt.b_Table_init : Binds K T.d_Table_init ["self", "things", "ties"] [] := T.F_Table_init.binds (ps := ["self", "things", "ties"]) fun _ _ _ _ _ _ us hl => match us, hl with | [_, _, _], _ => rfl
theorem Txt.k_Table_eq : PySem.W.keepIn K (.ref T.a_Table_eq) = true := T.F_Table_eq.kp
theorem Txt.b_Table_eq : Binds K T.d_Table_eq ["self", "other"] [] := T.F_Table_eq.binds (ps := ["self", "other"]) fun _ _ _ _ _ _ us hl => match us, hl with | [_, _], _ => rfl
theorem Txt.k_are_batches : PySem.W.keepIn K (.ref T.a_are_batches) = true := T.F_are_batches.kp
theorem Txt.b_are_batches : Binds K T.d_are_batches ["value"] [] := T.F_are_batches.binds (ps := ["value"]) fun _ _ _ _ _ _ us hl => match us, hl with | [_], _ => rfl
theorem Txt.k_check_batches : PySem.W.keepIn K (.ref T.a_check_batches) = true := T.F_check_batches.kp
theorem Txt.b_check_batches : Binds K T.d_check_batches ["value"] [] := T.F_check_batches.binds (ps := ["value"]) fun _ _ _ _ _ _ us hl => match us, hl with | [_], _ => rfl
theorem Txt.k_nothing_said : PySem.W.keepIn K (.ref T.a_nothing_said) = true := T.F_nothing_said.kp
theorem Txt.b_nothing_said : Binds K T.d_nothing_said ["table"] [] := T.F_nothing_said.binds (ps := ["table"]) fun _ _ _ _ _ _ us hl => match us, hl with | [_], _ => rfl
theorem Txt.k_ring_ties : PySem.W.keepIn K (.ref T.a_ring_ties) = true := T.F_ring_ties.kp
theorem Txt.b_ring_ties : Binds K T.d_ring_ties ["things"] [] := T.F_ring_ties.binds (ps := ["things"]) fun _ _ _ _ _ _ us hl => match us, hl with | [_], _ => rfl
theorem Txt.k_ring_table : PySem.W.keepIn K (.ref T.a_ring_table) = true := T.F_ring_table.kp
theorem Txt.b_ring_table : Binds K T.d_ring_table ["size"] [] := T.F_ring_table.binds (ps := ["size"]) fun _ _ _ _ _ _ us hl => match us, hl with | [_], _ => rfl
theorem Txt.k_row_case : PySem.W.keepIn K (.ref T.a_row_case) = true := T.F_row_case.kp
theorem Txt.b_row_case : Binds K T.d_row_case ["ties"] [] := T.F_row_case.binds (ps := ["ties"]) fun _ _ _ _ _ _ us hl => match us, hl with | [_], _ => rfl
theorem Txt.k_round_case : PySem.W.keepIn K (.ref T.a_round_case) = true := T.F_round_case.kp
theorem Txt.b_round_case : Binds K T.d_round_case ["ties"] [] := T.F_round_case.binds (ps := ["ties"]) fun _ _ _ _ _ _ us hl => match us, hl with | [_], _ => rfl
theorem Txt.k_walk_case : PySem.W.keepIn K (.ref T.a_walk_case) = true := T.F_walk_case.kp
theorem Txt.b_walk_case : Binds K T.d_walk_case ["walks", "rings"] [] := T.F_walk_case.binds (ps := ["walks", "rings"]) fun _ _ _ _ _ _ us hl => match us, hl with | [_, _], _ => rfl
theorem Txt.k_telling_case : PySem.W.keepIn K (.ref T.a_telling_case) = true := T.F_telling_case.kp
theorem Txt.b_telling_case : Binds K T.d_telling_case ["one", "other"] [] := T.F_telling_case.binds (ps := ["one", "other"]) fun _ _ _ _ _ _ us hl => match us, hl with | [_, _], _ => rfl
theorem Txt.k_is_as_hard : PySem.W.keepIn K (.ref T.a_is_as_hard) = true := T.F_is_as_hard.kp
theorem Txt.b_is_as_hard : Binds K T.d_is_as_hard ["one", "other"] [] := T.F_is_as_hard.binds (ps := ["one", "other"]) fun _ _ _ _ _ _ us hl => match us, hl with | [_, _], _ => rfl
theorem Txt.k_law_heap : PySem.W.keepIn K (.ref T.a_law_heap) = true := T.F_law_heap.kp
theorem Txt.b_law_heap : Binds K T.d_law_heap ["_law_script"] [] := T.F_law_heap.binds (ps := ["_law_script"]) fun _ _ _ _ _ _ us hl => match us, hl with | [_], _ => rfl
theorem Txt.k_law_draw : PySem.W.keepIn K (.ref T.a_law_draw) = true := T.F_law_draw.kp
theorem Txt.b_law_draw : Binds K T.d_law_draw ["_law_heap_here", "_law_many"] [] := T.F_law_draw.binds (ps := ["_law_heap_here", "_law_many"]) fun _ _ _ _ _ _ us hl => match us, hl with | [_, _], _ => rfl
theorem Txt.k_law_pick : PySem.W.keepIn K (.ref T.a_law_pick) = true := T.F_law_pick.kp
theorem Txt.b_law_pick : Binds K T.d_law_pick ["_law_heap_here", "_law_some"] [] := T.F_law_pick.binds (ps := ["_law_heap_here", "_law_some"]) fun _ _ _ _ _ _ us hl => match us, hl with | [_, _], _ => rfl
theorem Txt.k_law_mixed : PySem.W.keepIn K (.ref T.a_law_mixed) = true := T.F_law_mixed.kp
theorem Txt.b_law_mixed : Binds K T.d_law_mixed ["_law_heap_here", "_law_some"] [] := T.F_law_mixed.binds (ps := ["_law_heap_here", "_law_some"]) fun _ _ _ _ _ _ us hl => match us, hl with | [_, _], _ => rfl
theorem Txt.k_law_reaches : PySem.W.keepIn K (.ref T.a_law_reaches) = true := T.F_law_reaches.kp
theorem Txt.b_law_reaches : Binds K T.d_law_reaches ["_law_batches_here"] [] := T.F_law_reaches.binds (ps := ["_law_batches_here"]) fun _ _ _ _ _ _ us hl => match us, hl with | [_], _ => rfl
theorem Txt.k_law_rows : PySem.W.keepIn K (.ref T.a_law_rows) = true := T.F_law_rows.kp
theorem Txt.b_law_rows : Binds K T.d_law_rows ["_law_many", "_law_ties", "_law_start", "_law_most"] [] := T.F_law_rows.binds (ps := ["_law_many", "_law_ties", "_law_start", "_law_most"]) fun _ _ _ _ _ _ us hl => match us, hl with | [_, _, _, _], _ => rfl
theorem Txt.k_law_told : PySem.W.keepIn K (.ref T.a_law_told) = true := T.F_law_told.kp
theorem Txt.b_law_told : Binds K T.d_law_told ["_law_deed"] [] := T.F_law_told.binds (ps := ["_law_deed"]) fun _ _ _ _ _ _ us hl => match us, hl with | [_], _ => rfl
theorem Txt.k_law_batches : PySem.W.keepIn K (.ref T.a_law_batches) = true := T.F_law_batches.kp
theorem Txt.b_law_batches : Binds K T.d_law_batches ["_law_heap_here"] [] := T.F_law_batches.binds (ps := ["_law_heap_here"]) fun _ _ _ _ _ _ us hl => match us, hl with | [_], _ => rfl
theorem Txt.k_law_bad_batches : PySem.W.keepIn K (.ref T.a_law_bad_batches) = true := T.F_law_bad_batches.kp
theorem Txt.b_law_bad_batches : Binds K T.d_law_bad_batches [] [] := T.F_law_bad_batches.binds (ps := []) fun _ _ _ _ _ _ us hl => match us, hl with | [], _ => rfl
theorem Txt.k_law_held : PySem.W.keepIn K (.ref T.a_law_held) = true := T.F_law_held.kp
theorem Txt.b_law_held : Binds K T.d_law_held ["_law_rows_here", "_law_times", "_law_reaches_here"] [] := T.F_law_held.binds (ps := ["_law_rows_here", "_law_times", "_law_reaches_here"]) fun _ _ _ _ _ _ us hl => match us, hl with | [_, _, _], _ => rfl
theorem Txt.k_law_some_batches : PySem.W.keepIn K (.ref T.a_law_some_batches) = true := T.F_law_some_batches.kp
theorem Txt.b_law_some_batches : Binds K T.d_law_some_batches ["_law_heap_here"] [] := T.F_law_some_batches.binds (ps := ["_law_heap_here"]) fun _ _ _ _ _ _ us hl => match us, hl with | [_], _ => rfl
theorem Txt.k_law_due : PySem.W.keepIn K (.ref T.a_law_due) = true := T.F_law_due.kp
theorem Txt.b_law_due : Binds K T.d_law_due ["_law_one", "_law_other"] [] := T.F_law_due.binds (ps := ["_law_one", "_law_other"]) fun _ _ _ _ _ _ us hl => match us, hl with | [_, _], _ => rfl
theorem Txt.k_law_is_case : PySem.W.keepIn K (.ref T.a_law_is_case) = true := T.F_law_is_case.kp
theorem Txt.b_law_is_case : Binds K T.d_law_is_case ["_law_value", "_law_one", "_law_other"] [] := T.F_law_is_case.binds (ps := ["_law_value", "_law_one", "_law_other"]) fun _ _ _ _ _ _ us hl => match us, hl with | [_, _, _], _ => rfl
theorem Txt.k_law_pair_right : PySem.W.keepIn K (.ref T.a_law_pair_right) = true := T.F_law_pair_right.kp
theorem Txt.b_law_pair_right : Binds K T.d_law_pair_right ["_law_one", "_law_other"] [] := T.F_law_pair_right.binds (ps := ["_law_one", "_law_other"]) fun _ _ _ _ _ _ us hl => match us, hl with | [_, _], _ => rfl
theorem Txt.k_law_bad_right : PySem.W.keepIn K (.ref T.a_law_bad_right) = true := T.F_law_bad_right.kp
theorem Txt.b_law_bad_right : Binds K T.d_law_bad_right ["_law_heap_here"] [] := T.F_law_bad_right.binds (ps := ["_law_heap_here"]) fun _ _ _ _ _ _ us hl => match us, hl with | [_], _ => rfl
theorem Txt.w_is_as_hard_10 : KW0 K T.d_is_as_hard ["one", "other"] ["other", "one"] (permW [1, 0]) (permV [1, 0]) := T.F_is_as_hard.kw (fun _ _ _ _ _ _ ws hl => match ws, hl with | [_, _], _ => rfl) (fun r => perm_rel r)
theorem Txt.w_telling_case_10 : KW0 K T.d_telling_case ["one", "other"] ["other", "one"] (permW [1, 0]) (permV [1, 0]) := T.F_telling_case.kw (fun _ _ _ _ _ _ ws hl => match ws, hl with | [_, _], _ => rfl) (fun r => perm_rel r)
/-- the tables of the base -/
structure Tbs (base : Heap) : Prop where
  tb_law_bad_right : LamX.TabB base mg T.cA_law_bad_right T.pA_law_bad_right
end
end Ge

namespace Ge
open PySem PySem.Spec PyProof.Rows L2 Sd
abbrev N_law_draw : List Str := ["_law_heap_here", "_law_many", "_law_rest"]
theorem sc_law_draw : FnScope N_law_draw ["_law_heap_here", "_law_many"] (defScope s_law_draw) := ⟨rfl, rfl, rfl, by decide +kernel, rfl, by decide +kernel, by decide +kernel⟩
section
variable [HasT] {P : Program} {w : World} {K : PySem.W.Frag} {mg : Str → Option Value} {base : Heap}
theorem ok_draw (T : Txt K mg) : FnOk P w K mg base CX0 1 T.a_law_draw T.d_law_draw ["_law_heap_here", "_law_many"] spDraw := by
  refine T.F_law_draw.ok sc_law_draw (fun vs H Q E h => ?_) (fun cdv A outer s H vs Q E hr h => ?_)
  · obtain ⟨p, q, m, rfl, _⟩ := h
    rfl
  · obtain ⟨p, q, m, rfl, hd, m0, m1, k⟩ := h
    refine ⟨_, (pss_cons (ps_while PassesOwn.never (PW.pt (pw_and (pt_cmpR (op_neD hr.units) (pe_ix ix_list (pv 0) pe_int (fun _ _ => rfl)) (pe_lst pa_nil) (nomark _)) (pw_and1 (pt_cmpR op_eq (pe_ix ix_list (pe_ix ix_list (pv 0) pe_int (fun _ _ => rfl)) (pe_un un_neg pe_int) (fun _ _ => rfl)) pe_int (nomark _)))))
      (pss_one (ps_expr (pe_bm0 PySem.F.plainAttrs_list PySem.F.slot_list_pop PySem.F.type_list_pop mt_pop (pe_ix ix_list (pv 0) pe_int (fun _ _ => rfl))))))
    (pss_cons (ps_if (pt_cmpR (op_neD hr.units) (pe_ix ix_list (pv 0) pe_int (fun _ _ => rfl)) (pe_lst pa_nil) (nomark _))
      (pss_cons (ps_set (i := 2) sc_law_draw.nd rfl (.inl rfl) (pe_bm0 PySem.F.plainAttrs_list PySem.F.slot_list_pop PySem.F.type_list_pop mt_pop (pe_ix ix_list (pv 0) pe_int (fun _ _ => rfl))))
      (pss_cons (ps_expr (pe_bm PySem.F.plainAttrs_list PySem.F.slot_list_append PySem.F.type_list_append mt_append (pe_ix ix_list (pv 0) pe_int (fun _ _ => rfl)) (pa_cons (pe_op op_fdivW (pv 2) (pv 1)) pa_nil)))
      (pss_one (ps_ret (pe_op op_mod (pe_callTy call_int1 (by rfl) T.n_int (by decide +kernel) (pa_cons (pv 2) pa_nil)) (pv 1))))))
      pss_nil)
    (pss_cons (ps_asg (pe_op op_mod (pe_callTy call_int1 (by rfl) T.n_int (by decide +kernel) (pa_cons (pe_op op_add (pe_op op_mul (pe_ix ix_list (pv 0) pe_int (fun _ _ => rfl)) pe_int) pe_int) pa_nil)) pe_int) (pg_sub (pv 0) pe_int set_list))
    (pss_one (ps_ret (pe_op op_mod (pe_callTy call_int1 (by rfl) T.n_int (by decide +kernel) (pa_cons (pe_op op_fdivW (pe_ix ix_list (pv 0) pe_int (fun _ _ => rfl)) pe_int) pa_nil)) (pv 1))))))), ?_⟩
    obtain ⟨cs, st, h1, h2, hc, s0, s1⟩ := id hd
    have npq := hd.ne
    -- while heap[0] != [] and heap[0][-1] == 0: heap[0].pop()
    refine sq (while_to (fun n σ H' => ∃ cs : List Int, σ = [some (.ref p), some (.int m), none] ∧ Kp p q H H' ∧ H' p = some (.lst [.ref q, .int st]) ∧
      H' q = some (.lst (cs.map V.int)) ∧ cs.length ≤ 60 ∧ n = cs.length)
      (fun σ H' => ∃ cs : List Int, σ = [some (.ref p), some (.int m), none] ∧ Kp p q H H' ∧ H' p = some (.lst [.ref q, .int st]) ∧
      H' q = some (.lst (cs.map V.int)) ∧ cs.length ≤ 60) _ ⟨cs, rfl, Kp.refl H, h1, h2, hc, rfl⟩ ?_ ?_)
    · clear h1 h2 hc hd cs
      rintro σ H' ⟨cs, rfl, kp, h1, h2, hc⟩
      -- if heap[0] != []
      refine sq ⟨_, rfl, p, _, 0, .ref q, rfl, rfl, SqL.of h1, rfl, Nat.zero_le _, fun l nl => ?_⟩
      have kp1 := kp.new (o := .lst []) nl
      have lp : p ≠ l := ne_of_none h1 nl
      have lq : q ≠ l := ne_of_none h2 nl
      have h1' := (upd_ne (o := .lst []) (H := H') lp).trans h1
      have h2' := (upd_ne (o := .lst []) (H := H') lq).trans h2
      refine ⟨_, _, .lst (SqL.of h2') (dpAll_ints cs), .lst (SqL.of upd_same) .nil, shaped_ints cs, shaped_ints [], _, rfl, ?_⟩
      rw [eqv_ints_nil]
      generalize upd H' l (.lst []) = H1 at kp1 h1' h2'
      rcases nil_or_snoc cs with rfl | ⟨ini, c, rfl⟩
      · refine iteF ?_
        -- heap[1] = int(heap[1] * 48271 + 17) % 2147483647
        refine sq ⟨_, rfl, p, _, 1, .int st, rfl, rfl, SqL.of h1', rfl, _, _, rfl, rfl, .inl ⟨by omega, by omega⟩, _, _, rfl, rfl, .inl ⟨_, rfl, _, _, rfl, rfl, (by show (0 : Int) < 2147483647; decide), ?_⟩⟩
        have u0 := Int.emod_nonneg (st * 48271 + 17) (b := 2147483647) (by decide)
        have u1 := Int.emod_lt_of_pos (st * 48271 + 17) (b := 2147483647) (by decide)
        refine ⟨_, rfl, p, _, 1, 1, rfl, rfl, h1', rfl, ?_⟩
        have h1s : (upd H1 p (.lst [.ref q, .int ((st * 48271 + 17) % 2147483647)])) p = _ := upd_same
        have h2s : (upd H1 p (.lst [.ref q, .int ((st * 48271 + 17) % 2147483647)])) q = _ := (upd_ne npq.symm).trans h2'
        have kp2 := kp1.fst (o := .lst [.ref q, .int ((st * 48271 + 17) % 2147483647)])
        -- return int(heap[1] // 32) % many
        refine ⟨_, rfl, p, _, 1, .int ((st * 48271 + 17) % 2147483647), rfl, rfl, SqL.of h1s, rfl, _, _, rfl, rfl, ⟨by decide, by decide⟩, .inl ⟨_, rfl, _, rfl, _, _, rfl, rfl, m0, ?_⟩⟩
        exact k _ _ kp2 ⟨[], _, h1s, h2s, by decide, u0, u1⟩ (Int.emod_nonneg _ (by omega)) (Int.emod_lt_of_pos _ m0)
      · have hmap : (ini ++ [c]).map V.int = ini.map V.int ++ [.int c] := by simp
        have hne : (!(ini ++ [c]).isEmpty) = true := by simp
        rw [hne]
        rw [hmap] at h2'
        have hc' : ini.length + 1 ≤ 60 := by simpa using hc
        -- rest = heap[0].pop(); heap[0].append(rest // many)
        refine iteT (sq ⟨_, rfl, p, _, 0, .ref q, rfl, rfl, SqL.of h1', rfl, .inl ⟨rfl, _, SqL.of h2'⟩, q, _, .int c, rfl, rfl, h2', get_end, ?_⟩)
        have hd1 : (ini.map V.int ++ [V.int c]).dropLast = ini.map V.int := by simp
        rw [hd1]
        have g1 : (upd H1 q (.lst (ini.map V.int))) p = _ := (upd_ne npq).trans h1'
        have g2 : (upd H1 q (.lst (ini.map V.int))) q = _ := upd_same
        have kp2 := kp1.snd (o := .lst (ini.map V.int))
        refine sq ⟨_, rfl, p, _, 0, .ref q, rfl, rfl, SqL.of g1, rfl, .inl ⟨rfl, _, SqL.of g2⟩, _, rfl, _, rfl, _, _, rfl, rfl,
          wide_div m0 (b := 30) (by omega) (by decide) (by decide), q, _, _, rfl, rfl, g2, ?_, ?_⟩
        · rw [List.length_map]
          exact small1000 (by omega)
        -- return int(rest) % many
        refine ⟨_, rfl, .inl ⟨_, rfl, _, rfl, _, _, rfl, rfl, m0, ?_⟩⟩
        exact k _ _ kp2.snd ⟨ini ++ [c / m], st, (upd_ne npq).trans g1, upd_same.trans (by simp), by simpa using hc', s0, s1⟩ (Int.emod_nonneg _ (by omega)) (Int.emod_lt_of_pos _ m0)
    · intro after
      clear h1 h2 hc hd cs
      rintro n σ H' ⟨cs, rfl, kp, h1, h2, hc, rfl⟩
      refine ⟨_, rfl, p, _, 0, .ref q, rfl, rfl, SqL.of h1, rfl, Nat.zero_le _, fun l nl => ?_⟩
      have kp1 := kp.new (o := .lst []) nl
      have lp : p ≠ l := ne_of_none h1 nl
      have lq : q ≠ l := ne_of_none h2 nl
      have h1' := (upd_ne (o := .lst []) (H := H') lp).trans h1
      have h2' := (upd_ne (o := .lst []) (H := H') lq).trans h2
      refine ⟨_, _, .lst (SqL.of h2') (dpAll_ints cs), .lst (SqL.of upd_same) .nil, shaped_ints cs, shaped_ints [], _, rfl, ?_⟩
      rw [eqv_ints_nil]
      generalize upd H' l (.lst []) = H1 at kp1 h1' h2'
      rcases nil_or_snoc cs with rfl | ⟨ini, c, rfl⟩
      · exact iteF (iteF (after _ _ ⟨[], rfl, kp1, h1', h2', hc⟩))
      · have hmap : (ini ++ [c]).map V.int = ini.map V.int ++ [.int c] := by simp
        have hne : (!(ini ++ [c]).isEmpty) = true := by simp
        rw [hne]
        rw [hmap] at h2'
        refine iteT ⟨_, rfl, p, _, 0, .ref q, rfl, rfl, SqL.of h1', rfl, 1, rfl, q, _, -1, .int c, rfl, rfl, SqL.of h2', atI_end, rfl, _, rfl, ite2 (fun e => ?_) (fun e => ?_)⟩
        · refine ⟨_, fun _ _ n => n, ?_⟩
          refine ⟨_, rfl, p, _, 0, .ref q, rfl, rfl, SqL.of h1', rfl, .inl ⟨rfl, _, SqL.of h2'⟩, q, _, .int c, rfl, rfl, h2', get_end, ?_⟩
          have hc' : ini.length + 1 ≤ 60 := by simpa using hc
          exact ⟨ini.length, by simp, ini, rfl, kp1.snd, (upd_ne npq).trans h1', upd_same.trans (by simp), by omega, rfl⟩
        · refine after _ _ ⟨ini ++ [c], rfl, kp1, h1', ?_, hc⟩
          rw [hmap]
          exact h2'
def F_law_draw (c : Cl) : Fn := drawF
theorem ok_law_draw (T : Txt K mg) : FnE P w K mg base 1 T.a_law_draw T.d_law_draw ["_law_heap_here", "_law_many"] (spG K 2 (F_law_draw T.c)) := draw_den (ok_draw T)
end
abbrev N_law_heap : List Str := ["_law_script", "_law_cells", "_law_stir", "_law_cell"]
theorem sc_law_heap : FnScope N_law_heap ["_law_script"] (defScope s_law_heap) := ⟨rfl, rfl, rfl, by decide +kernel, rfl, by decide +kernel, by decide +kernel⟩
theorem same_mut {H H1 : Hp} {p : Addr} {o : HO} (x : Same H H1) (h : H p = none) : Same H (upd H1 p o) := fun b u e => by
  rw [upd_ne (ne_of_none e h)]
  exact x b u e
theorem cutV_take (xs : List V) (k : Nat) : cutV xs none (some (k : Int)) = xs.take k := by
  unfold cutV
  rw [HT.sIx_none, HT.sIx_nat, List.drop_zero, Nat.sub_zero, List.take_eq_take_iff]
  omega
theorem Kp.seq {K : PySem.W.Frag} {p q a : Addr} {H H1 : Hp} {xs : List V} (x : Kp p q H H1) (hp : a ≠ p) (hq : a ≠ q) (h : SqL K H a xs) : SqL K H1 a xs := by
  rcases h with (h | ⟨o, h⟩) | h
  · exact .inl (.inl (x _ _ hp hq h))
  · exact .inl (.inr ⟨o, x _ _ hp hq h⟩)
  · exact .inr h
theorem get_ints {ns : List Int} {i : Nat} {x : V} (h : (ns.map V.int)[i]? = some x) : ∃ n, x = .int n ∧ ns[i]? = some n := by
  rw [List.getElem?_map] at h
  cases e : ns[i]? with
  | none =>
    rw [e] at h
    cases h
  | some n =>
    rw [e] at h
    exact ⟨n, (Option.some.inj h).symm, rfl⟩
section
variable [HasT] {P : Program} {w : World} {K : PySem.W.Frag} {mg : Str → Option Value} {base : Heap}
theorem ok_heap (T : Txt K mg) : FnOk P w K mg base CX0 1 T.a_law_heap T.d_law_heap ["_law_script"] (spHeap K) := by
  refine T.F_law_heap.ok sc_law_heap (fun vs H Q E h => ?_) (fun cdv A outer s H vs Q E hr h => ?_)
  · obtain ⟨a, ns, rfl, _⟩ := h
    rfl
  · obtain ⟨a, ns, rfl, hS, k⟩ := h
    refine ⟨_, (pss_cons (ps_par (i := 1) (j := 2) (by rfl) sc_law_heap.nd rfl rfl (by decide) rfl rfl (pa_cons (pe_lc (own := [("_law_cell", 3)]) (g := gName 3) (by rfl) sc_law_heap.nd (pi_list (pe_slice sl_list (pv 0) po_none (po_some pe_int))) (blkOk_by (own := [("_law_cell", 3)]) (N := N_law_heap) (sc := defScope s_law_heap) (by decide +kernel)) (fun _ _ _ _ _ => (pg_name (i := 3) sc_law_heap.nd rfl (Or.inl rfl))) (fun _ _ _ _ _ => pts_nil) (fun _ _ _ _ _ => (pe_op op_add (pe_op op_mul pe_int (pe_callB call_abs (by rfl) T.n_abs (by decide +kernel) (pa_cons (pv 3) pa_nil))) (pe_callTy call_int1 (by rfl) T.n_int (by decide +kernel) (pa_cons (pe_cmpR op_lt (pv 3) pe_int (nomark _)) pa_nil))))) (pa_cons pe_int pa_nil)) (by rfl))
    (pss_cons (ps_for PassesOwn.never (by rfl) (pi_list (pv 1)) (pg_name (i := 3) sc_law_heap.nd rfl (.inl rfl))
      (pss_one (ps_set (i := 2) sc_law_heap.nd rfl (.inl rfl) (pe_op op_mod (pe_callTy call_int1 (by rfl) T.n_int (by decide +kernel) (pa_cons (pe_op op_add (pe_op op_add (pe_op op_mul (pv 2) pe_int) (pe_op op_mod (pe_callTy call_int1 (by rfl) T.n_int (by decide +kernel) (pa_cons (pv 3) pa_nil)) pe_int)) pe_int) pa_nil)) pe_int))))
    (pss_one (ps_ret (pe_lst (pa_cons (pe_revL (pe_lc (own := [("_law_cell", 3)]) (g := gName 3) (by rfl) sc_law_heap.nd (pi_list (pv 1)) (blkOk_by (own := [("_law_cell", 3)]) (N := N_law_heap) (sc := defScope s_law_heap) (by decide +kernel)) (fun _ _ _ _ _ => (pg_name (i := 3) sc_law_heap.nd rfl (Or.inl rfl))) (fun _ _ _ _ _ => pts_one (pt_cmpR op_ge (pv 3) (pe_op op_pow pe_int pe_int) (nomark _))) (fun _ _ _ _ _ => (pv 3)))) (pa_cons (pv 2) pa_nil))))))), ?_⟩
    -- [2 * abs(c) + int(c < 0) for c in script[:60]]
    refine sq ⟨_, rfl, 60, rfl, a, _, rfl, hS, fun b nb => ⟨b, rfl, ⟨_, SqL.of upd_same⟩, fun D nD => ?_⟩⟩
    have sb : Same H (upd H b (.lst (cutV (ns.map V.int) none (some 60)))) := same_new nb
    have gb : (upd H b (.lst (cutV (ns.map V.int) none (some 60)))) b = some (.lst ((ns.take 60).map V.int)) := upd_same.trans (by rw [List.map_take]; exact congrArg (fun x => some (HO.lst x)) (cutV_take _ 60))
    generalize upd H b (.lst (cutV (ns.map V.int) none (some 60))) = H1 at sb gb nD ⊢
    have bD : b ≠ D := ne_of_none gb nD
    have nDH : H D = none := sb.free nD
    have nbH : H b = none := nb
    refine lc_list (K := K) (a := b) (xs := (ns.take 60).map V.int)
      (fun i H' => ∃ cs : List Int, Same H H' ∧ H' b = some (.lst ((ns.take 60).map V.int)) ∧ H' D = some (.lst (cs.map V.int)) ∧ cs.length = i)
      ⟨[], sb.trans (same_new nD), (upd_ne bD).trans gb, upd_same, rfl⟩ (fun i H' _ ⟨_, _, h, _⟩ => SqL.of h) ?_ ?_
    · rintro i x H' hx ⟨cs, sm, hb, hD, hl⟩
      obtain ⟨n, rfl, hn⟩ := get_ints hx
      have hi : i < 60 := by
        have := (List.getElem?_eq_some_iff.mp hn).1
        rw [List.length_take] at this
        omega
      refine ⟨rfl, yesT ⟨_, rfl, _, rfl, _, _, rfl, rfl, .inl ⟨by decide, by decide⟩, _, rfl, _, _, rfl, rfl, .inr ⟨_, rfl, _, _, rfl, rfl, _, hD, ?_, ?_⟩⟩⟩
      · rw [List.length_map]; exact small1000 (by omega)
      · exact ⟨cs ++ [_], same_mut sm nDH, (upd_ne bD).trans hb, upd_same.trans (by rw [List.map_append]; rfl), by simp [hl]⟩
    · rintro H2 ⟨cs, sm, hb, hD, hl⟩
      have hcs : cs.length ≤ 60 := by
        rw [hl, List.length_map, List.length_take]
        omega
      refine ⟨_, _, rfl, ?_⟩
      -- for cell in cells
      refine sq ⟨_, rfl, D, rfl, ⟨_, SqL.of hD⟩, for_list (K := K) (a := D) (xs := cs.map V.int)
        (fun i σ H' => ∃ (st : Int) (v : Option V), σ = [some (.ref a), some (.ref D), some (.int st), v] ∧ H' = H2 ∧ 0 ≤ st ∧ st < 2147483647)
        ⟨61675, none, rfl, rfl, by decide, by decide⟩ (fun i σ H' _ ⟨_, _, _, e, _⟩ => by rw [e]; exact SqL.of hD) ?_ ?_⟩
      · rintro i x σ H' hx ⟨st, v, rfl, rfl, s0, s1⟩
        obtain ⟨n, rfl, hn⟩ := get_ints hx
        have u0 := Int.emod_nonneg (st * 69621 + n % 2147483563 + 29) (b := 2147483647) (by decide)
        have u1 := Int.emod_lt_of_pos (st * 69621 + n % 2147483563 + 29) (b := 2147483647) (by decide)
        exact ⟨_, rfl, _, _, rfl, rfl, .inl ⟨by omega, by omega⟩, _, rfl, .inl ⟨_, rfl, _, _, rfl, rfl, (by show (0 : Int) < 2147483563; decide), _, _, rfl, rfl, _, _, rfl, rfl,
          .inl ⟨_, rfl, _, _, rfl, rfl, (by show (0 : Int) < 2147483647; decide), _, _, rfl, rfl, u0, u1⟩⟩⟩
      · rintro σ H' ⟨st, v, rfl, rfl, s0, s1⟩
        -- return [[c for c in cells if c >= 10 ** 18][::-1], stir]
        refine ⟨_, rfl, D, rfl, ⟨_, SqL.of hD⟩, fun D2 nD2 => ?_⟩
        have DD2 : D ≠ D2 := ne_of_none hD nD2
        have nD2H : H D2 = none := sm.free nD2
        refine lc_list (K := K) (a := D) (xs := cs.map V.int)
          (fun i H3 => ∃ ds : List Int, Same H H3 ∧ H3 D = some (.lst (cs.map V.int)) ∧ H3 D2 = some (.lst (ds.map V.int)) ∧ ds.length ≤ i)
          ⟨[], sm.trans (same_new nD2), (upd_ne DD2).trans hD, upd_same, Nat.le_refl _⟩ (fun i H' _ ⟨_, _, h, _⟩ => SqL.of h) ?_ ?_
        · rintro i x H3 hx ⟨ds, sm3, hD3, hD23, hl3⟩
          obtain ⟨n, rfl, hn⟩ := get_ints hx
          have hi : i < 60 := by
            have := (List.getElem?_eq_some_iff.mp hn).1
            omega
          refine ⟨rfl, _, rfl, _, _, rfl, rfl, ⟨by decide, by decide, by decide⟩, _, _, rfl, rfl, _, rfl, ite2 (fun e => ?_) (fun e => ?_)⟩
          · refine ⟨_, rfl, _, hD23, ?_, ds ++ [n], same_mut sm3 nD2H, (upd_ne DD2).trans hD3, upd_same.trans (by rw [List.map_append]; rfl), by simp; omega⟩
            rw [List.length_map]; exact small1000 (by omega)
          · exact ⟨ds, sm3, hD3, hD23, by omega⟩
        · rintro H3 ⟨ds, sm3, hD3, hD23, hl3⟩
          rw [List.length_map] at hl3
          refine ⟨D2, _, rfl, SqL.of hD23, fun q nq => ⟨_, rfl, (by show 2 ≤ sizeLine; decide), fun p np => ?_⟩⟩
          have qp : q ≠ p := ne_of_none upd_same np
          have s4 := (sm3.trans (same_new (o := .lst (ds.map V.int).reverse) nq)).trans (same_new (o := .lst [.ref q, .int st]) np)
          refine k _ p q s4 ((sm3.trans (same_new nq)).free np) (sm3.free nq) ⟨ds.reverse, st, upd_same, ?_, by rw [List.length_reverse]; omega, s0, s1⟩
          rw [upd_ne qp, upd_same, List.map_reverse]
end
end Ge

set_option maxHeartbeats 1000000
namespace Ge
open PySem PySem.Spec PyProof.Rows L2 Sd
section
variable [HasT]
def nt_law_told : Ow → Option Da := fun o => some (.tup [.str "told", o.frz])
def xh_law_told (c : Cl) : Exn → Option Da := xhF c.is [(c.C_Refused, (xrT (xfCons (xfC (.str "refused")) (xfCons (xfF "word") (xfCons (xfC (.bl false)) xfNil))))), (c.C_InvalidNumber, (xrT (xfCons (xfC (.str "number")) (xfCons (xfF "word") xfNil))))]
theorem sc_law_told : FnScope ["_law_deed", "error"] ["_law_deed"] (defScope s_law_told) := ⟨rfl, rfl, rfl, by decide +kernel, rfl, by decide +kernel, by decide +kernel⟩
theorem tl_law_told {K : PySem.W.Frag} {mg : Str → Option Value} (T : Txt K mg) : ∃ TT, Tells K mg "_law_told" "_law_deed" T.a_law_told TT nt_law_told (xh_law_told T.c) := by
  obtain ⟨oc, od, kV, doc, pm, an, cdv, ct, osl, e, lk, hcd⟩ := T.F_law_told.ex
  have hb := T.b_law_told
  rw [e] at hb lk
  exact ⟨_, tells_tup (is := T.c.is) (Ng := ["_law_deed", "error"]) (i := 1) (n := "error") (sg := defScope s_law_told)
    ⟨T.his, T.F_law_told.kp, lk, hcd, hb, sc_law_told, .inl rfl, fun _ => rfl, rfl, by decide, rfl, rfl, fun X s H hK hmg =>
      (hdx_cons (X := toldCx X ["_law_deed", "error"] "_law_told" (defScope s_law_told) T.a_law_told cdv s H) hmg (by rfl) (by decide) T.g_Refused (xr_tup (xa_cons xv_str (xa_cons (xv_fld hK T.xf_Refused T.nx_Refused_word rfl (fun _ _ _ => pv 1) (fun _ _ _ => rfl)) (xa_cons (xt_is (b := false) hK hmg T.xc_Refused T.kit_Refused_InvalidNumber T.g_InvalidNumber T.n_isinstance (fun _ _ _ => pv 1) (fun _ _ _ => rfl) (fun _ _ _ => rfl) (by decide) (fun _ _ _ => rfl) (fun _ _ _ => rfl) (fun _ _ _ => rfl)) xa_nil (fun _ _ _ => rfl)) (fun _ _ _ => rfl)) (fun _ _ _ => rfl))) (hdx_cons (X := toldCx X ["_law_deed", "error"] "_law_told" (defScope s_law_told) T.a_law_told cdv s H) hmg (by rfl) (by decide) T.g_InvalidNumber (xr_tup (xa_cons xv_str (xa_cons (xv_fld hK T.xf_InvalidNumber T.nx_InvalidNumber_word rfl (fun _ _ _ => pv 1) (fun _ _ _ => rfl)) xa_nil (fun _ _ _ => rfl)) (fun _ _ _ => rfl))) HdX.nil))⟩⟩
end
end Ge

set_option maxHeartbeats 1000000
namespace Ge
open PySem PySem.Spec PyProof.Rows L2 Sd
section
variable [HasT] {w : World} {K : PySem.W.Frag} {mg : Str → Option Value} {base : Heap}
abbrev N_walk_reach : List Str := ["batches", "found", "batch"]
theorem sc_walk_reach : FnScope N_walk_reach ["batches"] (defScope s_walk_reach) := ⟨rfl, rfl, rfl, by decide +kernel, rfl, by decide +kernel, by decide +kernel⟩
-- slots: 0:batches 1:found 2:batch
def D_walk_reach (c : Cl) : DS := (dSeq (dAsg (dC (.int 1)) (tgName 1))
  (dSeq (dFor (dItA (dSrc (dVar 0))) (tgName 2) (dAsg (dOp mulF (dVar 1) (dOp addF (dVar 2) (dC (.int 1)))) (tgName 1)))
  (dRetV 1)))
def F_walk_reach (c : Cl) : Fn := dDef 3 (D_walk_reach c)
theorem ok_walk_reach (T : Txt K mg) : FnE PW w K mg base 1 T.a_walk_reach T.d_walk_reach ["batches"] (spG K 1 (F_walk_reach T.c)) := by
  exact fn_den T.F_walk_reach sc_walk_reach rfl fun cdv hcv A outer s H E hg hr => ⟨_, (pdss_cons (pds_setN (i := 1) sc_walk_reach.nd rfl (.inl rfl) pd_int)
      (pdss_cons (pds_for (pdi_any rfl (pl_val (pd_var (pv 0)))) (pdg_n (i := 2) sc_walk_reach.nd rfl (.inl rfl))
        (pdss_one (pds_setN (i := 1) sc_walk_reach.nd rfl (.inl rfl) (p_mul (pd_var (pv 1)) (p_add (pd_var (pv 2)) pd_int)))) (passes_of rfl) rfl)
      (pdss_one (pds_retV (pv 1)))))⟩

abbrev N_ring_reach : List Str := ["batches"]
theorem sc_ring_reach : FnScope N_ring_reach ["batches"] (defScope s_ring_reach) := ⟨rfl, rfl, rfl, by decide +kernel, rfl, by decide +kernel, by decide +kernel⟩
-- slots: 0:batches
def D_ring_reach (c : Cl) : DS := (dSeq (dIfS (dTest (dOp eqF (dVar 0) (dTup dNil))) (dRet (dC (.int 0))) dNext)
  (dRet (dOp mulF (dOp ixF (dVar 0) (dC (.int 0))) (dCall (F_walk_reach c) (dCons (dSl cutF (dVar 0) (dPart (dC (.int 1))) dNoPart) dNil)))))
def F_ring_reach (c : Cl) : Fn := dDef 1 (D_ring_reach c)
theorem ok_ring_reach (T : Txt K mg) : FnE PW w K mg base 2 T.a_ring_reach T.d_ring_reach ["batches"] (spG K 1 (F_ring_reach T.c)) := by
  have G_walk_reach := ok_walk_reach (w := w) (base := base) T
  exact fn_den T.F_ring_reach sc_ring_reach rfl fun cdv hcv A outer s H E hg hr => ⟨_, (pdss_cons (pds_if (t_cmp (c_eq hr.units) (pd_var (pv 0)) (pd_tup pda_nil) (nomark _))
        (pdss_one (pds_ret pd_int))
        pdss_nil)
      (pdss_one (pds_ret (p_mul (p_ix (pd_var (pv 0)) pd_int (fun _ _ => rfl)) (pd_call G_walk_reach rfl rfl rfl rfl rfl hg hr (by rfl) T.g_walk_reach T.k_walk_reach T.b_walk_reach (takes_of rfl rfl rfl rfl) (pda_cons (p_sl (pd_var (pv 0)) (pdo_some pd_int) pdo_none) pda_nil) rfl)))))⟩

abbrev N_is_integer : List Str := ["value"]
theorem sc_is_integer : FnScope N_is_integer ["value"] (defScope s_is_integer) := ⟨rfl, rfl, rfl, by decide +kernel, rfl, by decide +kernel, by decide +kernel⟩
-- slots: 0:value
def D_is_integer (c : Cl) : DS := (dRet (dAndV (dCB (isTF .int) (dCons (dVar 0) (dCons (dC (.raw (.ty "int"))) dNil))) (dNotV (dCB (isTF .bool) (dCons (dVar 0) (dCons (dC (.raw (.ty "bool"))) dNil))))))
def F_is_integer (c : Cl) : Fn := dDef 1 (D_is_integer c)
theorem ok_is_integer (T : Txt K mg) : FnE PW w K mg base 1 T.a_is_integer T.d_is_integer ["value"] (spG K 1 (F_is_integer T.c)) := by
  exact fn_den T.F_is_integer sc_is_integer rfl fun cdv hcv A outer s H E hg hr => ⟨_, (pdss_one (pds_ret (pd_and (b_isT .int (by rfl) T.n_isinstance (by rfl) T.n_int (pd_var (pv 0))) (pd_one (pd_not (b_isT .bool (by rfl) T.n_isinstance (by rfl) T.n_bool (pd_var (pv 0))))))))⟩

abbrev N_is_number : List Str := ["value"]
theorem sc_is_number : FnScope N_is_number ["value"] (defScope s_is_number) := ⟨rfl, rfl, rfl, by decide +kernel, rfl, by decide +kernel, by decide +kernel⟩
-- slots: 0:value
def D_is_number (c : Cl) : DS := (dRet (dAndV (dCall (F_is_integer c) (dCons (dVar 0) dNil)) (dOp geF (dVar 0) (dC (.int 0)))))
def F_is_number (c : Cl) : Fn := dDef 1 (D_is_number c)
theorem ok_is_number (T : Txt K mg) : FnE PW w K mg base 2 T.a_is_number T.d_is_number ["value"] (spG K 1 (F_is_number T.c)) := by
  have G_is_integer := ok_is_integer (w := w) (base := base) T
  exact fn_den T.F_is_number sc_is_number rfl fun cdv hcv A outer s H E hg hr => ⟨_, (pdss_one (pds_ret (pd_and (pd_call G_is_integer rfl rfl rfl rfl rfl hg hr (by rfl) T.g_is_integer T.k_is_integer T.b_is_integer (takes_of rfl rfl rfl rfl) (pda_cons (pd_var (pv 0)) pda_nil) rfl) (pd_one (p_cmp c_ge (pd_var (pv 0)) pd_int (nomark _))))))⟩

abbrev N_is_name : List Str := ["value", "sign"]
theorem sc_is_name : FnScope N_is_name ["value"] (defScope s_is_name) := ⟨rfl, rfl, rfl, by decide +kernel, rfl, by decide +kernel, by decide +kernel⟩
-- slots: 0:value 1:sign
def D_is_name (c : Cl) : DS := (dSeq (dIfS (dOr (dNot (dTest (dCB (isTF .str) (dCons (dVar 0) (dCons (dC (.raw (.ty "str"))) dNil))))) (dNot (dTest (dChain leF leF (dC (.int 1)) (dCB lenF (dCons (dVar 0) dNil)) (dC (.int 6)))))) (dRet (dC (.bl false))) dNext)
  (dRet (dCB allF (dCons (dLc (dItS (dVar 0)) (tgName 1) dYes (dOp inF (dVar 1) (dC (.str "abcdefghijklmnopqrstuvwxyz"))) [1]) dNil))))
def F_is_name (c : Cl) : Fn := dDef 2 (D_is_name c)
theorem ok_is_name (T : Txt K mg) : FnE PW w K mg base 1 T.a_is_name T.d_is_name ["value"] (spG K 1 (F_is_name T.c)) := by
  exact fn_den T.F_is_name sc_is_name rfl fun cdv hcv A outer s H E hg hr => ⟨_, (pdss_cons (pds_if (pdt_w (pdw_or (pdt_not (pdt_val (b_isT .str (by rfl) T.n_isinstance (by rfl) T.n_str (pd_var (pv 0))))) (pdw_or1 (pdt_not (t_chain c_le c_le iiF_dat pd_int (b_len (by rfl) T.n_len (pda_cons (pd_var (pv 0)) pda_nil)) (pd_cint (pe_glob (v := .int 6) (by rfl) T.g_LONGEST_NAME ⟨_, rfl⟩)))))))
        (pdss_one (pds_ret pd_bl))
        pdss_nil)
      (pdss_one (pds_ret (b_all rfl (by rfl) T.n_all (pda_cons (pd_lcc (own := [("sign", 1)]) s rfl sc_is_name.nd (pdi_str (PD.up (pd_var (pv 0)))) (blkOk_by (own := [("sign", 1)]) (N := N_is_name) (sc := defScope s_is_name) (by decide +kernel)) (by rfl) (fun _ _ _ _ _ => (pdg_n (i := 1) sc_is_name.nd rfl (Or.inl rfl))) (fun _ _ _ _ _ => pdts_nil) (fun _ _ _ _ _ => (PD.up (p_cmp (c_in hr.units1) (pd_var (pv 1)) (pd_cstr (pe_glob (v := .str "abcdefghijklmnopqrstuvwxyz") (by rfl) T.g_LETTERS ⟨_, rfl⟩)) (by with_unfolding_all rfl))))) pda_nil)))))⟩

abbrev N_is_ascending : List Str := ["items", "at"]
theorem sc_is_ascending : FnScope N_is_ascending ["items"] (defScope s_is_ascending) := ⟨rfl, rfl, rfl, by decide +kernel, rfl, by decide +kernel, by decide +kernel⟩
-- slots: 0:items 1:at
def D_is_ascending (c : Cl) : DS := (dRet (dCB allF (dCons (dLc (dItR1 (dOp subF (dCB lenF (dCons (dVar 0) dNil)) (dC (.int 1)))) (tgName 1) dYes (dOp ltF (dOp ixF (dVar 0) (dVar 1)) (dOp ixF (dVar 0) (dOp addF (dVar 1) (dC (.int 1))))) [1]) dNil)))
def F_is_ascending (c : Cl) : Fn := dDef 2 (D_is_ascending c)
theorem ok_is_ascending (T : Txt K mg) : FnE PW w K mg base 1 T.a_is_ascending T.d_is_ascending ["items"] (spG K 1 (F_is_ascending T.c)) := by
  exact fn_den T.F_is_ascending sc_is_ascending rfl fun cdv hcv A outer s H E hg hr => ⟨_, (pdss_one (pds_ret (b_all rfl (by rfl) T.n_all (pda_cons (pd_lcc (own := [("at", 1)]) s rfl sc_is_ascending.nd (pdi_r1 (PD.up (p_sub (b_len (by rfl) T.n_len (pda_cons (pd_var (pv 0)) pda_nil)) pd_int)) (by rfl) T.n_range) (blkOk_by (own := [("at", 1)]) (N := N_is_ascending) (sc := defScope s_is_ascending) (by decide +kernel)) (by rfl) (fun _ _ _ _ _ => (pdg_n (i := 1) sc_is_ascending.nd rfl (Or.inl rfl))) (fun _ _ _ _ _ => pdts_nil) (fun _ _ _ _ _ => (PD.up (p_cmp c_lt (p_ix (pd_var (pv 0)) (pd_var (pv 1)) (fun _ _ => rfl)) (p_ix (pd_var (pv 0)) (p_add (pd_var (pv 1)) pd_int) (fun _ _ => rfl)) (nomark _))))) pda_nil))))⟩

abbrev N_are_things : List Str := ["value", "name"]
theorem sc_are_things : FnScope N_are_things ["value"] (defScope s_are_things) := ⟨rfl, rfl, rfl, by decide +kernel, rfl, by decide +kernel, by decide +kernel⟩
-- slots: 0:value 1:name
def D_are_things (c : Cl) : DS := (dSeq (dIfS (dOr (dNot (dTest (dCB (isTF .tuple) (dCons (dVar 0) (dCons (dC (.raw (.ty "tuple"))) dNil))))) (dNot (dTest (dChain leF leF (dC (.int 1)) (dCB lenF (dCons (dVar 0) dNil)) (dC (.int 12)))))) (dRet (dC (.bl false))) dNext)
  (dRet (dAndV (dCB allF (dCons (dLc (dItA (dSrcV 0)) (tgName 1) dYes (dCall (F_is_name c) (dCons (dVar 1) dNil)) [1]) dNil)) (dCall (F_is_ascending c) (dCons (dVar 0) dNil)))))
def F_are_things (c : Cl) : Fn := dDef 2 (D_are_things c)
theorem ok_are_things (T : Txt K mg) : FnE PW w K mg base 2 T.a_are_things T.d_are_things ["value"] (spG K 1 (F_are_things T.c)) := by
  have G_is_name := ok_is_name (w := w) (base := base) T
  have G_is_ascending := ok_is_ascending (w := w) (base := base) T
  exact fn_den T.F_are_things sc_are_things rfl fun cdv hcv A outer s H E hg hr => ⟨_, (pdss_cons (pds_if (pdt_w (pdw_or (pdt_not (pdt_val (b_isT .tuple (by rfl) T.n_isinstance (by rfl) T.n_tuple (pd_var (pv 0))))) (pdw_or1 (pdt_not (t_chain c_le c_le iiF_dat pd_int (b_len (by rfl) T.n_len (pda_cons (pd_var (pv 0)) pda_nil)) (pd_cint (pe_glob (v := .int 12) (by rfl) T.g_MOST_THINGS ⟨_, rfl⟩)))))))
        (pdss_one (pds_ret pd_bl))
        pdss_nil)
      (pdss_one (pds_ret (pd_and (b_all rfl (by rfl) T.n_all (pda_cons (pd_lcc (own := [("name", 1)]) s rfl sc_are_things.nd (pdi_any rfl (pl_var (pv 0))) (blkOk_by (own := [("name", 1)]) (N := N_are_things) (sc := defScope s_are_things) (by decide +kernel)) (by rfl) (fun _ _ _ _ _ => (pdg_n (i := 1) sc_are_things.nd rfl (Or.inl rfl))) (fun _ _ _ _ _ => pdts_nil) (fun _ _ _ _ _ => (PD.up (pd_call G_is_name rfl rfl rfl rfl rfl hg hr (by rfl) T.g_is_name T.k_is_name T.b_is_name takes0 (pda_cons (pd_var (pv 1)) pda_nil) rfl)))) pda_nil)) (pd_one (PD.up (pd_call G_is_ascending rfl rfl rfl rfl rfl hg hr (by rfl) T.g_is_ascending T.k_is_ascending T.b_is_ascending (takes_of rfl rfl rfl rfl) (pda_cons (pd_var (pv 0)) pda_nil) rfl)))))))⟩

abbrev N_is_tie : List Str := ["value", "many", "item", "one", "other", "weight"]
theorem sc_is_tie : FnScope N_is_tie ["value", "many"] (defScope s_is_tie) := ⟨rfl, rfl, rfl, by decide +kernel, rfl, by decide +kernel, by decide +kernel⟩
-- slots: 0:value 1:many 2:item 3:one 4:other 5:weight
def D_is_tie (c : Cl) : DS := (dSeq (dIfS (dOr (dNot (dTest (dCB (isTF .tuple) (dCons (dVar 0) (dCons (dC (.raw (.ty "tuple"))) dNil))))) (dOr (dTest (dOp neF (dCB lenF (dCons (dVar 0) dNil)) (dC (.int 3)))) (dNot (dTest (dCB allF (dCons (dLc (dItA (dSrcV 0)) (tgName 2) dYes (dCall (F_is_integer c) (dCons (dVar 2) dNil)) [2]) dNil)))))) (dRet (dC (.bl false))) dNext)
  (dSeq (dAsg (dVar 0) (tgTup 3 (tgCons (tgName 3) (tgCons (tgName 4) (tgCons (tgName 5) tgNil)))))
  (dRet (dAndV (dChain leF ltF (dC (.int 0)) (dVar 3) (dVar 1)) (dAndV (dChain leF ltF (dC (.int 0)) (dVar 4) (dVar 1)) (dAndV (dOp neF (dVar 3) (dVar 4)) (dOp leF (dCB absF (dCons (dVar 5) dNil)) (dC (.int 1000000)))))))))
def F_is_tie (c : Cl) : Fn := dDef 6 (D_is_tie c)
theorem ok_is_tie (T : Txt K mg) : FnE PW w K mg base 2 T.a_is_tie T.d_is_tie ["value", "many"] (spG K 2 (F_is_tie T.c)) := by
  have G_is_integer := ok_is_integer (w := w) (base := base) T
  exact fn_den T.F_is_tie sc_is_tie rfl fun cdv hcv A outer s H E hg hr => ⟨_, (pdss_cons (pds_if (pdt_w (pdw_or (PDT.up (pdt_not (pdt_val (b_isT .tuple (by rfl) T.n_isinstance (by rfl) T.n_tuple (pd_var (pv 0)))))) (pdw_or (PDT.up (t_cmp (c_ne hr.units) (b_len (by rfl) T.n_len (pda_cons (pd_var (pv 0)) pda_nil)) pd_int (nomark _))) (pdw_or1 (pdt_not (pdt_val (b_all rfl (by rfl) T.n_all (pda_cons (pd_lcc (own := [("item", 2)]) s rfl sc_is_tie.nd (pdi_any rfl (pl_var (pv 0))) (blkOk_by (own := [("item", 2)]) (N := N_is_tie) (sc := defScope s_is_tie) (by decide +kernel)) (by rfl) (fun _ _ _ _ _ => (pdg_n (i := 2) sc_is_tie.nd rfl (Or.inl rfl))) (fun _ _ _ _ _ => pdts_nil) (fun _ _ _ _ _ => (PD.up (pd_call G_is_integer rfl rfl rfl rfl rfl hg hr (by rfl) T.g_is_integer T.k_is_integer T.b_is_integer takes0 (pda_cons (pd_var (pv 2)) pda_nil) rfl)))) pda_nil))))))))
        (pdss_one (pds_ret pd_bl))
        pdss_nil)
      (pdss_cons (pds_asgG (pd_var (pv 0)) (pdg_tup rfl rfl (pdgs_cons (pdg_n (i := 3) sc_is_tie.nd rfl (.inl rfl)) (pdgs_cons (pdg_n (i := 4) sc_is_tie.nd rfl (.inl rfl)) (pdgs_cons (pdg_n (i := 5) sc_is_tie.nd rfl (.inl rfl)) pdgs_nil)))))
      (pdss_one (pds_ret (pd_and (p_chain c_le c_lt iiF_dat pd_int (pd_var (pv 3)) (pd_var (pv 1))) (pd_and (p_chain c_le c_lt iiF_dat pd_int (pd_var (pv 4)) (pd_var (pv 1))) (pd_and (p_cmp (c_ne hr.units) (pd_var (pv 3)) (pd_var (pv 4)) (nomark _)) (pd_one (p_cmp c_le (b_abs (by rfl) T.n_abs (pda_cons (pd_var (pv 5)) pda_nil)) (pd_cint (pe_glob (v := .int 1000000) (by rfl) T.g_MOST_WEIGHT ⟨_, rfl⟩)) (nomark _))))))))))⟩
end
end Ge

set_option maxHeartbeats 1000000
namespace Ge
open PySem PySem.Spec PyProof.Rows L2 Sd
section
variable [HasT] {w : World} {K : PySem.W.Frag} {mg : Str → Option Value} {base : Heap}
abbrev N_Table_init : List Str := ["self", "things", "ties", "at", "tie"]
theorem sc_Table_init : FnScope N_Table_init ["self", "things", "ties"] (defScope s_Table_init) := ⟨rfl, rfl, rfl, by decide +kernel, rfl, by decide +kernel, by decide +kernel⟩
-- slots: 0:self 1:things 2:ties 3:at 4:tie
def D_Table_init (c : Cl) : DN := (dSeqN (dIfS (dNot (dTest (dCall (F_are_things c) (dCons (dVar 1) dNil)))) (dRaise c.C_InvalidTable ["at"] (dCons (dUn negF (dC (.int 2))) dNil)) dNext)
  (dSeqN (dIfS (dOr (dNot (dTest (dCB (isTF .tuple) (dCons (dVar 2) (dCons (dC (.raw (.ty "tuple"))) dNil))))) (dTest (dOp gtF (dCB lenF (dCons (dVar 2) dNil)) (dC (.int 60))))) (dRaise c.C_InvalidTable ["at"] (dCons (dUn negF (dC (.int 1))) dNil)) dNext)
  (dSeqN (dFor (dItEnu (dSrc (dVar 2))) (tgTup 2 (tgCons (tgName 3) (tgCons (tgName 4) tgNil))) (dIfS (dNot (dTest (dCall (F_is_tie c) (dCons (dVar 4) (dCons (dCB lenF (dCons (dVar 1) dNil)) dNil))))) (dRaise c.C_InvalidTable ["at"] (dCons (dVar 3) dNil)) dNext))
  (dFlds [1, 2]))))
def F_Table_init (c : Cl) : FnI := dInit 5 (D_Table_init c)
theorem ok_Table_init (T : Txt K mg) : FnE PW w K mg base 3 T.a_Table_init T.d_Table_init ["self", "things", "ties"] (spIG K T.c.C_Table ["things", "ties"] 3 (F_Table_init T.c)) := by
  have G_is_tie := ok_is_tie (w := w) (base := base) T
  have G_are_things := ok_are_things (w := w) (base := base) T
  exact init_den (C := T.c.C_Table) T.F_Table_init sc_Table_init rfl fun cdv hcv A outer s H E hg hr => ⟨_, (pdn_cons (pds_if (pdt_not (pdt_val (pd_call G_are_things rfl rfl rfl rfl rfl hg hr (by rfl) T.g_are_things T.k_are_things T.b_are_things (takes_of rfl rfl rfl rfl) (pda_cons (pd_var (pv 1)) pda_nil) rfl)))
        (pdss_one (pds_raise (k := 0) T.x_InvalidTable rfl rfl rfl (hr.mono (by decide)) rfl (takes_of rfl rfl rfl rfl) (by rfl) T.g_InvalidTable (pda_cons (p_neg pd_int) pda_nil)))
        pdss_nil)
      (pdn_cons (pds_if (pdt_w (pdw_or (pdt_not (pdt_val (b_isT .tuple (by rfl) T.n_isinstance (by rfl) T.n_tuple (pd_var (pv 2))))) (pdw_or1 (t_cmp c_gt (b_len (by rfl) T.n_len (pda_cons (pd_var (pv 2)) pda_nil)) (pd_cint (pe_glob (v := .int 60) (by rfl) T.g_MOST_TIES ⟨_, rfl⟩)) (nomark _)))))
        (pdss_one (pds_raise (k := 0) T.x_InvalidTable rfl rfl rfl (hr.mono (by decide)) rfl (takes_of rfl rfl rfl rfl) (by rfl) T.g_InvalidTable (pda_cons (p_neg pd_int) pda_nil)))
        pdss_nil)
      (pdn_cons (pds_for (pdi_num rfl (pl_val (pd_var (pv 2))) (by rfl) T.n_enumerate) (pdg_tup rfl rfl (pdgs_cons (pdg_n (i := 3) sc_Table_init.nd rfl (.inl rfl)) (pdgs_cons (pdg_n (i := 4) sc_Table_init.nd rfl (.inl rfl)) pdgs_nil)))
        (pdss_one (pds_if (pdt_not (pdt_val (pd_call G_is_tie rfl rfl rfl rfl rfl hg hr (by rfl) T.g_is_tie T.k_is_tie T.b_is_tie (takes_of rfl rfl rfl rfl) (pda_cons (pd_var (pv 4)) (pda_cons (b_len (by rfl) T.n_len (pda_cons (pd_var (pv 1)) pda_nil)) pda_nil)) rfl)))
        (pdss_one (pds_raise (k := 0) T.x_InvalidTable rfl rfl rfl (hr.mono (by decide)) rfl (takes_of rfl rfl rfl rfl) (by rfl) T.g_InvalidTable (pda_cons (pd_var (pv 3)) pda_nil)))
        pdss_nil)) (passes_of rfl) rfl)
      (pdn_flds (fl := [("things", 1), ("ties", 2)]) (pss_cons (ps_fld (pv 0) (pv 1) rfl) (pss_one (ps_fld (pv 0) (pv 2) rfl))) T.i_Table.cl (nf_cons T.nf_Table_things (nf_cons T.nf_Table_ties nf_nil)) (by decide) (by decide) (by simp)))))⟩

abbrev N_Table_eq : List Str := ["self", "other"]
theorem sc_Table_eq : FnScope N_Table_eq ["self", "other"] (defScope s_Table_eq) := ⟨rfl, rfl, rfl, by decide +kernel, rfl, by decide +kernel, by decide +kernel⟩
-- slots: 0:self 1:other
def D_Table_eq (c : Cl) : DS := (dRet (dAndV (dCB (isCF c.C_Table) (dCons (dVar 1) (dCons (dC (.raw (.ref c.C_Table))) dNil))) (dAndV (dOp eqF (dFld c.C_Table "things" (dVar 0)) (dFld c.C_Table "things" (dVar 1))) (dOp eqF (dFld c.C_Table "ties" (dVar 0)) (dFld c.C_Table "ties" (dVar 1))))))
def F_Table_eq (c : Cl) : Fn := dDef 2 (D_Table_eq c)
theorem ok_Table_eq (T : Txt K mg) : FnE PW w K mg base 1 T.a_Table_eq T.d_Table_eq ["self", "other"] (spG K 2 (F_Table_eq T.c)) := by
  exact fn_den T.F_Table_eq sc_Table_eq rfl fun cdv hcv A outer s H E hg hr => ⟨_, (pdss_one (pds_ret (pd_and (b_isC T.i_Table (by rfl) T.n_isinstance (by rfl) T.g_Table (pd_var (pv 1))) (pd_and (p_cmp (c_eq hr.units) (pd_fld rfl T.i_Table.cl T.nf_Table_things (pd_var (pv 0)) rfl) (pd_fld rfl T.i_Table.cl T.nf_Table_things (pd_var (pv 1)) rfl) (nomark _)) (pd_one (p_cmp (c_eq hr.units) (pd_fld rfl T.i_Table.cl T.nf_Table_ties (pd_var (pv 0)) rfl) (pd_fld rfl T.i_Table.cl T.nf_Table_ties (pd_var (pv 1)) rfl) (nomark _)))))))⟩

abbrev N_are_batches : List Str := ["value", "item"]
theorem sc_are_batches : FnScope N_are_batches ["value"] (defScope s_are_batches) := ⟨rfl, rfl, rfl, by decide +kernel, rfl, by decide +kernel, by decide +kernel⟩
-- slots: 0:value 1:item
def D_are_batches (c : Cl) : DS := (dSeq (dIfS (dOr (dNot (dTest (dCB (isTF .tuple) (dCons (dVar 0) (dCons (dC (.raw (.ty "tuple"))) dNil))))) (dTest (dOp gtF (dCB lenF (dCons (dVar 0) dNil)) (dC (.int 60))))) (dRet (dC (.bl false))) dNext)
  (dRet (dCB allF (dCons (dLc (dItA (dSrcV 0)) (tgName 1) dYes (dAndV (dCall (F_is_number c) (dCons (dVar 1) dNil)) (dChain leF leF (dC (.int 1)) (dVar 1) (dC (.int 100)))) [1]) dNil))))
def F_are_batches (c : Cl) : Fn := dDef 2 (D_are_batches c)
theorem ok_are_batches (T : Txt K mg) : FnE PW w K mg base 3 T.a_are_batches T.d_are_batches ["value"] (spG K 1 (F_are_batches T.c)) := by
  have G_is_number := ok_is_number (w := w) (base := base) T
  exact fn_den T.F_are_batches sc_are_batches rfl fun cdv hcv A outer s H E hg hr => ⟨_, (pdss_cons (pds_if (pdt_w (pdw_or (pdt_not (pdt_val (b_isT .tuple (by rfl) T.n_isinstance (by rfl) T.n_tuple (pd_var (pv 0))))) (pdw_or1 (t_cmp c_gt (b_len (by rfl) T.n_len (pda_cons (pd_var (pv 0)) pda_nil)) (pd_cint (pe_glob (v := .int 60) (by rfl) T.g_MOST_BATCHES ⟨_, rfl⟩)) (nomark _)))))
        (pdss_one (pds_ret pd_bl))
        pdss_nil)
      (pdss_one (pds_ret (b_all rfl (by rfl) T.n_all (pda_cons (pd_lcc (own := [("item", 1)]) s rfl sc_are_batches.nd (pdi_any rfl (pl_var (pv 0))) (blkOk_by (own := [("item", 1)]) (N := N_are_batches) (sc := defScope s_are_batches) (by decide +kernel)) (by rfl) (fun _ _ _ _ _ => (pdg_n (i := 1) sc_are_batches.nd rfl (Or.inl rfl))) (fun _ _ _ _ _ => pdts_nil) (fun _ _ _ _ _ => (PD.up (pd_and (pd_call G_is_number rfl rfl rfl rfl rfl hg hr (by rfl) T.g_is_number T.k_is_number T.b_is_number takes0 (pda_cons (pd_var (pv 1)) pda_nil) rfl) (pd_one (p_chain c_le c_le iiF_dat pd_int (pd_var (pv 1)) (pd_cint (pe_glob (v := .int 100) (by rfl) T.g_MOST_IN_BATCH ⟨_, rfl⟩)))))))) pda_nil)))))⟩

abbrev N_check_batches : List Str := ["value"]
theorem sc_check_batches : FnScope N_check_batches ["value"] (defScope s_check_batches) := ⟨rfl, rfl, rfl, by decide +kernel, rfl, by decide +kernel, by decide +kernel⟩
-- slots: 0:value
def D_check_batches (c : Cl) : DS := (dIfS (dNot (dTest (dCall (F_are_batches c) (dCons (dVar 0) dNil)))) (dRaise c.C_InvalidNumber ["word"] (dCons (dC (.str "batches")) dNil)) dNext)
def F_check_batches (c : Cl) : Fn := dDef 1 (D_check_batches c)
theorem ok_check_batches (T : Txt K mg) : FnE PW w K mg base 4 T.a_check_batches T.d_check_batches ["value"] (spG K 1 (F_check_batches T.c)) := by
  have G_are_batches := ok_are_batches (w := w) (base := base) T
  exact fn_den T.F_check_batches sc_check_batches rfl fun cdv hcv A outer s H E hg hr => ⟨_, (pdss_one (pds_if (pdt_not (pdt_val (pd_call G_are_batches rfl rfl rfl rfl rfl hg hr (by rfl) T.g_are_batches T.k_are_batches T.b_are_batches (takes_of rfl rfl rfl rfl) (pda_cons (pd_var (pv 0)) pda_nil) rfl)))
        (pdss_one (pds_raise (k := 0) T.x_InvalidNumber rfl rfl rfl (hr.mono (by decide)) rfl (takes_of rfl rfl rfl rfl) (by rfl) T.g_InvalidNumber (pda_cons pd_str pda_nil)))
        pdss_nil))⟩

abbrev N_nothing_said : List Str := ["table"]
theorem sc_nothing_said : FnScope N_nothing_said ["table"] (defScope s_nothing_said) := ⟨rfl, rfl, rfl, by decide +kernel, rfl, by decide +kernel, by decide +kernel⟩
-- slots: 0:table
def D_nothing_said (c : Cl) : DS := (dRet (dOp mulF (dTup (dCons (dC .non) dNil)) (dCB lenF (dCons (dFld c.C_Table "things" (dVar 0)) dNil))))
def F_nothing_said (c : Cl) : Fn := dDef 1 (D_nothing_said c)
theorem ok_nothing_said (T : Txt K mg) : FnE PW w K mg base 1 T.a_nothing_said T.d_nothing_said ["table"] (spG K 1 (F_nothing_said T.c)) := by
  exact fn_den T.F_nothing_said sc_nothing_said rfl fun cdv hcv A outer s H E hg hr => ⟨_, (pdss_one (pds_ret (p_mul (pd_tup (pda_cons pd_non pda_nil)) (b_len (by rfl) T.n_len (pda_cons (pd_fld rfl T.i_Table.cl T.nf_Table_things (pd_var (pv 0)) rfl) pda_nil)))))⟩

abbrev N_ring_ties : List Str := ["things", "pairs", "at"]
theorem sc_ring_ties : FnScope N_ring_ties ["things"] (defScope s_ring_ties) := ⟨rfl, rfl, rfl, by decide +kernel, rfl, by decide +kernel, by decide +kernel⟩
-- slots: 0:things 1:pairs 2:at
def D_ring_ties (c : Cl) : DS := (dSeq (dAsg (dLc (dItR1 (dOp subF (dCB lenF (dCons (dVar 0) dNil)) (dC (.int 1)))) (tgName 2) dYes (dTup (dCons (dOp ixF (dVar 0) (dVar 2)) (dCons (dOp ixF (dVar 0) (dOp addF (dVar 2) (dC (.int 1)))) (dCons (dC (.int 0)) dNil)))) [2]) (tgName 1))
  (dRet (dOp addF (dCB tupF (dCons (dVar 1) dNil)) (dTup (dCons (dTup (dCons (dOp ixF (dVar 0) (dUn negF (dC (.int 1)))) (dCons (dOp ixF (dVar 0) (dC (.int 0))) (dCons (dC (.int 1)) dNil)))) dNil)))))
def F_ring_ties (c : Cl) : Fn := dDef 3 (D_ring_ties c)
theorem ok_ring_ties (T : Txt K mg) : FnE PW w K mg base 1 T.a_ring_ties T.d_ring_ties ["things"] (spG K 1 (F_ring_ties T.c)) := by
  exact fn_den T.F_ring_ties sc_ring_ties rfl fun cdv hcv A outer s H E hg hr => ⟨_, (pdss_cons (pds_setL (own := [("at", 2)]) (i := 1) s rfl sc_ring_ties.nd rfl rfl (sw_true rfl rfl rfl (by decide +kernel)) (pdi_r1 (PD.up (p_sub (b_len (by rfl) T.n_len (pda_cons (pd_var (pv 0)) pda_nil)) pd_int)) (by rfl) T.n_range) (blkOk_by (own := [("at", 2)]) (N := N_ring_ties) (sc := defScope s_ring_ties) (by decide +kernel)) (by rfl) (fun _ _ _ _ _ => (pdg_n (i := 2) sc_ring_ties.nd rfl (Or.inl rfl))) (fun _ _ _ _ _ => pdts_nil) (fun _ _ _ _ _ => (PD.up (pd_tup (pda_cons (p_ix (pd_var (pv 0)) (pd_var (pv 2)) (fun _ _ => rfl)) (pda_cons (p_ix (pd_var (pv 0)) (p_add (pd_var (pv 2)) pd_int) (fun _ _ => rfl)) (pda_cons pd_int pda_nil)))))))
      (pdss_one (pds_ret (p_add (b_tuple (by rfl) T.n_tuple (pda_cons (pd_var (pv 1)) pda_nil)) (pd_tup (pda_cons (pd_tup (pda_cons (p_ix (pd_var (pv 0)) (p_neg pd_int) (fun _ _ => rfl)) (pda_cons (p_ix (pd_var (pv 0)) pd_int (fun _ _ => rfl)) (pda_cons pd_int pda_nil)))) pda_nil))))))⟩

abbrev N_ring_table : List Str := ["size"]
theorem sc_ring_table : FnScope N_ring_table ["size"] (defScope s_ring_table) := ⟨rfl, rfl, rfl, by decide +kernel, rfl, by decide +kernel, by decide +kernel⟩
-- slots: 0:size
def D_ring_table (c : Cl) : DS := (dRet (dMake c.C_Table ["things", "ties"] (F_Table_init c) (dCons (dSl cutF (dC (.tup [.str "a", .str "b", .str "c", .str "d", .str "e", .str "f", .str "g", .str "h", .str "i", .str "j", .str "k", .str "l"])) dNoPart (dPart (dVar 0))) (dCons (dCall (F_ring_ties c) (dCons (dCB tupR1F (dCons (dVar 0) dNil)) dNil)) dNil))))
def F_ring_table (c : Cl) : Fn := dDef 1 (D_ring_table c)
theorem ok_ring_table (T : Txt K mg) : FnE PW w K mg base 5 T.a_ring_table T.d_ring_table ["size"] (spG K 1 (F_ring_table T.c)) := by
  have G_ring_ties := ok_ring_ties (w := w) (base := base) T
  have G_Table_init := ok_Table_init (w := w) (base := base) T
  exact fn_den T.F_ring_table sc_ring_table rfl fun cdv hcv A outer s H E hg hr => ⟨_, (pdss_one (pds_ret (pd_make T.m_Table G_Table_init rfl rfl rfl rfl rfl hg hr (by rfl) T.g_Table T.b_Table_init (takes_of rfl rfl rfl rfl) (pda_cons (p_sl (pd_ctup T.r_LETTERS_OF_THINGS (pe_glob (v := .ref T.A_LETTERS_OF_THINGS) (by rfl) T.g_LETTERS_OF_THINGS rfl)) pdo_none (pdo_some (pd_var (pv 0)))) (pda_cons (pd_call G_ring_ties rfl rfl rfl rfl rfl hg (hr.mono (by decide)) (by rfl) T.g_ring_ties T.k_ring_ties T.b_ring_ties (takes_of rfl rfl rfl rfl) (pda_cons (b_tupR1 rfl (by rfl) T.n_tuple (by rfl) T.n_range (pda_cons (pd_var (pv 0)) pda_nil)) pda_nil) rfl) pda_nil)) rfl)))⟩

abbrev N_row_case : List Str := ["ties", "table", "at"]
theorem sc_row_case : FnScope N_row_case ["ties"] (defScope s_row_case) := ⟨rfl, rfl, rfl, by decide +kernel, rfl, by decide +kernel, by decide +kernel⟩
-- slots: 0:ties 1:table 2:at
def D_row_case (c : Cl) : DS := (dSeq (dAsg (dMake c.C_Table ["things", "ties"] (F_Table_init c) (dConsC (dSl cutF (dC (.tup [.str "a", .str "b", .str "c", .str "d", .str "e", .str "f", .str "g", .str "h", .str "i", .str "j", .str "k", .str "l"])) dNoPart (dPart (dOp addF (dVar 0) (dC (.int 1))))) (dCons (dCB tupF (dCons (dLc (dItR1 (dVar 0)) (tgName 2) dYes (dTup (dCons (dVar 2) (dCons (dOp addF (dVar 2) (dC (.int 1))) (dCons (dC (.int 1)) dNil)))) [2]) dNil)) dNil))) (tgName 1))
  (dRet (dTup (dCons (dVar 1) (dCons (dOp addF (dOp addF (dTup (dCons (dC (.int 0)) dNil)) (dOp mulF (dTup (dCons (dC .non) dNil)) (dOp subF (dVar 0) (dC (.int 1))))) (dTup (dCons (dOp subF (dVar 0) (dC (.int 1))) dNil))) dNil)))))
def F_row_case (c : Cl) : Fn := dDef 3 (D_row_case c)
theorem ok_row_case (T : Txt K mg) : FnE PW w K mg base 5 T.a_row_case T.d_row_case ["ties"] (spG K 1 (F_row_case T.c)) := by
  have G_Table_init := ok_Table_init (w := w) (base := base) T
  exact fn_den T.F_row_case sc_row_case rfl fun cdv hcv A outer s H E hg hr => ⟨_, (pdss_cons (pds_setN (i := 1) sc_row_case.nd rfl (.inl rfl) (pd_make T.m_Table G_Table_init rfl rfl rfl rfl rfl hg hr (by rfl) T.g_Table T.b_Table_init (takes_of rfl rfl rfl rfl) (pda_consC (PD.up (p_sl (pd_ctup T.r_LETTERS_OF_THINGS (pe_glob (v := .ref T.A_LETTERS_OF_THINGS) (by rfl) T.g_LETTERS_OF_THINGS rfl)) pdo_none (pdo_some (p_add (pd_var (pv 0)) pd_int)))) (pda_cons (b_tuple (by rfl) T.n_tuple (pda_cons (pd_lcc (own := [("at", 2)]) s rfl sc_row_case.nd (pdi_r1 (PD.up (pd_var (pv 0))) (by rfl) T.n_range) (blkOk_by (own := [("at", 2)]) (N := N_row_case) (sc := defScope s_row_case) (by decide +kernel)) (by rfl) (fun _ _ _ _ _ => (pdg_n (i := 2) sc_row_case.nd rfl (Or.inl rfl))) (fun _ _ _ _ _ => pdts_nil) (fun _ _ _ _ _ => (PD.up (pd_tup (pda_cons (pd_var (pv 2)) (pda_cons (p_add (pd_var (pv 2)) pd_int) (pda_cons pd_int pda_nil))))))) pda_nil)) pda_nil)) rfl))
      (pdss_one (pds_ret (pd_tup (pda_cons (pd_var (pv 1)) (pda_cons (p_add (p_add (pd_tup (pda_cons pd_int pda_nil)) (p_mul (pd_tup (pda_cons pd_non pda_nil)) (p_sub (pd_var (pv 0)) pd_int))) (pd_tup (pda_cons (p_sub (pd_var (pv 0)) pd_int) pda_nil))) pda_nil))))))⟩
end
end Ge

set_option maxHeartbeats 1000000
namespace Ge
open PySem PySem.Spec PyProof.Rows L2 Sd
section
variable [HasT] {w : World} {K : PySem.W.Frag} {mg : Str → Option Value} {base : Heap}
abbrev N_round_case : List Str := ["ties", "last", "other", "table"]
theorem sc_round_case : FnScope N_round_case ["ties"] (defScope s_round_case) := ⟨rfl, rfl, rfl, by decide +kernel, rfl, by decide +kernel, by decide +kernel⟩
-- slots: 0:ties 1:last 2:other 3:table
def D_round_case (c : Cl) : DS := (dSeq (dAsg (dOp subF (dVar 0) (dC (.int 12))) (tgName 1))
  (dSeq (dAsg (dTup (dCons (dTup (dCons (dC (.int 0)) (dCons (dC (.int 1)) (dCons (dC (.int 0)) dNil)))) (dCons (dTup (dCons (dVar 1) (dCons (dC (.int 0)) (dCons (dC (.int 0)) dNil)))) dNil))) (tgName 2))
  (dSeq (dAsg (dMake c.C_Table ["things", "ties"] (F_Table_init c) (dCons (dC (.tup [.str "a", .str "b", .str "c", .str "d", .str "e", .str "f", .str "g", .str "h", .str "i", .str "j", .str "k", .str "l"])) (dCons (dOp addF (dCall (F_ring_ties c) (dCons (dCB tupR2F (dCons (dC (.int 1)) (dCons (dC (.int 12)) dNil))) dNil)) (dVar 2)) dNil))) (tgName 3))
  (dRet (dTup (dCons (dVar 3) (dCons (dOp addF (dTup (dCons (dC (.int 0)) dNil)) (dOp mulF (dTup (dCons (dC .non) dNil)) (dOp subF (dC (.int 12)) (dC (.int 1))))) dNil)))))))
def F_round_case (c : Cl) : Fn := dDef 4 (D_round_case c)
theorem ok_round_case (T : Txt K mg) : FnE PW w K mg base 5 T.a_round_case T.d_round_case ["ties"] (spG K 1 (F_round_case T.c)) := by
  have G_ring_ties := ok_ring_ties (w := w) (base := base) T
  have G_Table_init := ok_Table_init (w := w) (base := base) T
  exact fn_den T.F_round_case sc_round_case rfl fun cdv hcv A outer s H E hg hr => ⟨_, (pdss_cons (pds_setN (i := 1) sc_round_case.nd rfl (.inl rfl) (p_sub (pd_var (pv 0)) (pd_cint (pe_glob (v := .int 12) (by rfl) T.g_MOST_THINGS ⟨_, rfl⟩))))
      (pdss_cons (pds_setN (i := 2) sc_round_case.nd rfl (.inl rfl) (pd_tup (pda_cons (pd_tup (pda_cons pd_int (pda_cons pd_int (pda_cons pd_int pda_nil)))) (pda_cons (pd_tup (pda_cons (pd_var (pv 1)) (pda_cons pd_int (pda_cons pd_int pda_nil)))) pda_nil))))
      (pdss_cons (pds_setN (i := 3) sc_round_case.nd rfl (.inl rfl) (pd_make T.m_Table G_Table_init rfl rfl rfl rfl rfl hg hr (by rfl) T.g_Table T.b_Table_init (takes_of rfl rfl rfl rfl) (pda_cons (pd_ctup T.r_LETTERS_OF_THINGS (pe_glob (v := .ref T.A_LETTERS_OF_THINGS) (by rfl) T.g_LETTERS_OF_THINGS rfl)) (pda_cons (p_add (pd_call G_ring_ties rfl rfl rfl rfl rfl hg (hr.mono (by decide)) (by rfl) T.g_ring_ties T.k_ring_ties T.b_ring_ties (takes_of rfl rfl rfl rfl) (pda_cons (b_tupR2 rfl (by rfl) T.n_tuple (by rfl) T.n_range (pda_cons pd_int (pda_cons (pd_cint (pe_glob (v := .int 12) (by rfl) T.g_MOST_THINGS ⟨_, rfl⟩)) pda_nil))) pda_nil) rfl) (pd_var (pv 2))) pda_nil)) rfl))
      (pdss_one (pds_ret (pd_tup (pda_cons (pd_var (pv 3)) (pda_cons (p_add (pd_tup (pda_cons pd_int pda_nil)) (p_mul (pd_tup (pda_cons pd_non pda_nil)) (p_sub (pd_cint (pe_glob (v := .int 12) (by rfl) T.g_MOST_THINGS ⟨_, rfl⟩)) pd_int))) pda_nil))))))))⟩

abbrev N_walk_case : List Str := ["walks", "rings"]
theorem sc_walk_case : FnScope N_walk_case ["walks", "rings"] (defScope s_walk_case) := ⟨rfl, rfl, rfl, by decide +kernel, rfl, by decide +kernel, by decide +kernel⟩
-- slots: 0:walks 1:rings
def D_walk_case (c : Cl) : DS := (dSeq (dIfS (dTest (dOp leF (dVar 0) (dOp subF (dC (.int 12)) (dC (.int 2))))) (dRet (dCall (F_row_case c) (dCons (dOp addF (dVar 0) (dC (.int 1))) dNil))) dNext)
  (dSeq (dIfS (dTest (dOp eqF (dVar 0) (dOp subF (dC (.int 12)) (dC (.int 1))))) (dRet (dTup (dCons (dCall (F_ring_table c) (dCons (dC (.int 12)) dNil)) (dCons (dOp addF (dTup (dCons (dC (.int 0)) dNil)) (dOp mulF (dTup (dCons (dC .non) dNil)) (dOp subF (dC (.int 12)) (dC (.int 1))))) dNil)))) dNext)
  (dSeq (dIfS (dTest (dOp leF (dVar 1) (dOp subF (dC (.int 12)) (dC (.int 2))))) (dRet (dCall (F_round_case c) (dCons (dOp addF (dVar 0) (dC (.int 1))) dNil))) dNext)
  (dRet (dC .non)))))
def F_walk_case (c : Cl) : Fn := dDef 2 (D_walk_case c)
theorem ok_walk_case (T : Txt K mg) : FnE PW w K mg base 6 T.a_walk_case T.d_walk_case ["walks", "rings"] (spG K 2 (F_walk_case T.c)) := by
  have G_row_case := ok_row_case (w := w) (base := base) T
  have G_ring_table := ok_ring_table (w := w) (base := base) T
  have G_round_case := ok_round_case (w := w) (base := base) T
  exact fn_den T.F_walk_case sc_walk_case rfl fun cdv hcv A outer s H E hg hr => ⟨_, (pdss_cons (pds_if (t_cmp c_le (pd_var (pv 0)) (p_sub (pd_cint (pe_glob (v := .int 12) (by rfl) T.g_MOST_THINGS ⟨_, rfl⟩)) pd_int) (nomark _))
        (pdss_one (pds_ret (pd_call G_row_case rfl rfl rfl rfl rfl hg hr (by rfl) T.g_row_case T.k_row_case T.b_row_case (takes_of rfl rfl rfl rfl) (pda_cons (p_add (pd_var (pv 0)) pd_int) pda_nil) rfl)))
        pdss_nil)
      (pdss_cons (pds_if (t_cmp (c_eq hr.units) (pd_var (pv 0)) (p_sub (pd_cint (pe_glob (v := .int 12) (by rfl) T.g_MOST_THINGS ⟨_, rfl⟩)) pd_int) (nomark _))
        (pdss_one (pds_ret (pd_tup (pda_cons (pd_call G_ring_table rfl rfl rfl rfl rfl hg hr (by rfl) T.g_ring_table T.k_ring_table T.b_ring_table (takes_of rfl rfl rfl rfl) (pda_cons (pd_cint (pe_glob (v := .int 12) (by rfl) T.g_MOST_THINGS ⟨_, rfl⟩)) pda_nil) rfl) (pda_cons (p_add (pd_tup (pda_cons pd_int pda_nil)) (p_mul (pd_tup (pda_cons pd_non pda_nil)) (p_sub (pd_cint (pe_glob (v := .int 12) (by rfl) T.g_MOST_THINGS ⟨_, rfl⟩)) pd_int))) pda_nil)))))
        pdss_nil)
      (pdss_cons (pds_if (t_cmp c_le (pd_var (pv 1)) (p_sub (pd_cint (pe_glob (v := .int 12) (by rfl) T.g_MOST_THINGS ⟨_, rfl⟩)) pd_int) (nomark _))
        (pdss_one (pds_ret (pd_call G_round_case rfl rfl rfl rfl rfl hg hr (by rfl) T.g_round_case T.k_round_case T.b_round_case (takes_of rfl rfl rfl rfl) (pda_cons (p_add (pd_var (pv 0)) pd_int) pda_nil) rfl)))
        pdss_nil)
      (pdss_one (pds_ret pd_non)))))⟩

abbrev N_telling_case : List Str := ["one", "other", "size", "table"]
theorem sc_telling_case : FnScope N_telling_case ["one", "other"] (defScope s_telling_case) := ⟨rfl, rfl, rfl, by decide +kernel, rfl, by decide +kernel, by decide +kernel⟩
-- slots: 0:one 1:other 2:size 3:table
def D_telling_case (c : Cl) : DS := (dSeq (dDrop (dCall (F_check_batches c) (dCons (dVar 0) dNil)))
  (dSeq (dDrop (dCall (F_check_batches c) (dCons (dVar 1) dNil)))
  (dSeq (dAsg (dCB maxF (dCons (dC (.int 2)) (dCons (dOp addF (dCall (F_ring_reach c) (dCons (dVar 0) dNil)) (dC (.int 1))) dNil))) (tgName 2))
  (dSeq (dIfS (dTest (dOp leF (dVar 2) (dCB minF (dCons (dCall (F_ring_reach c) (dCons (dVar 1) dNil)) (dCons (dC (.int 12)) dNil))))) (dSeq (dAsg (dCall (F_ring_table c) (dCons (dVar 2) dNil)) (tgName 3))
  (dRet (dTup (dCons (dVar 3) (dCons (dCall (F_nothing_said c) (dCons (dVar 3) dNil)) dNil))))) dNext)
  (dSeq (dIfS (dTest (dOp ltF (dCall (F_walk_reach c) (dCons (dVar 0) dNil)) (dCall (F_walk_reach c) (dCons (dVar 1) dNil)))) (dRet (dCall (F_walk_case c) (dCons (dCall (F_walk_reach c) (dCons (dVar 0) dNil)) (dCons (dCall (F_ring_reach c) (dCons (dVar 0) dNil)) dNil)))) dNext)
  (dRet (dC .non)))))))
def F_telling_case (c : Cl) : Fn := dDef 4 (D_telling_case c)
theorem ok_telling_case (T : Txt K mg) : FnE PW w K mg base 7 T.a_telling_case T.d_telling_case ["one", "other"] (spG K 2 (F_telling_case T.c)) := by
  have G_check_batches := ok_check_batches (w := w) (base := base) T
  have G_ring_reach := ok_ring_reach (w := w) (base := base) T
  have G_ring_table := ok_ring_table (w := w) (base := base) T
  have G_nothing_said := ok_nothing_said (w := w) (base := base) T
  have G_walk_reach := ok_walk_reach (w := w) (base := base) T
  have G_walk_case := ok_walk_case (w := w) (base := base) T
  exact fn_den T.F_telling_case sc_telling_case rfl fun cdv hcv A outer s H E hg hr => ⟨_, (pdss_cons (pds_expr (pd_call G_check_batches rfl rfl rfl rfl rfl hg (hr.mono (by decide)) (by rfl) T.g_check_batches T.k_check_batches T.b_check_batches (takes_of rfl rfl rfl rfl) (pda_cons (pd_var (pv 0)) pda_nil) rfl))
      (pdss_cons (pds_expr (pd_call G_check_batches rfl rfl rfl rfl rfl hg (hr.mono (by decide)) (by rfl) T.g_check_batches T.k_check_batches T.b_check_batches (takes_of rfl rfl rfl rfl) (pda_cons (pd_var (pv 1)) pda_nil) rfl))
      (pdss_cons (pds_setN (i := 2) sc_telling_case.nd rfl (.inl rfl) (b_max rfl (by rfl) T.n_max (pda_cons pd_int (pda_cons (p_add (pd_call G_ring_reach rfl rfl rfl rfl rfl hg (hr.mono (by decide)) (by rfl) T.g_ring_reach T.k_ring_reach T.b_ring_reach (takes_of rfl rfl rfl rfl) (pda_cons (pd_var (pv 0)) pda_nil) rfl) pd_int) pda_nil))))
      (pdss_cons (pds_if (t_cmp c_le (pd_var (pv 2)) (b_min rfl (by rfl) T.n_min (pda_cons (pd_call G_ring_reach rfl rfl rfl rfl rfl hg (hr.mono (by decide)) (by rfl) T.g_ring_reach T.k_ring_reach T.b_ring_reach (takes_of rfl rfl rfl rfl) (pda_cons (pd_var (pv 1)) pda_nil) rfl) (pda_cons (pd_cint (pe_glob (v := .int 12) (by rfl) T.g_MOST_THINGS ⟨_, rfl⟩)) pda_nil))) (nomark _))
        (pdss_cons (pds_setN (i := 3) sc_telling_case.nd rfl (.inl rfl) (pd_call G_ring_table rfl rfl rfl rfl rfl hg (hr.mono (by decide)) (by rfl) T.g_ring_table T.k_ring_table T.b_ring_table (takes_of rfl rfl rfl rfl) (pda_cons (pd_var (pv 2)) pda_nil) rfl))
      (pdss_one (pds_ret (pd_tup (pda_cons (pd_var (pv 3)) (pda_cons (pd_call G_nothing_said rfl rfl rfl rfl rfl hg (hr.mono (by decide)) (by rfl) T.g_nothing_said T.k_nothing_said T.b_nothing_said (takes_of rfl rfl rfl rfl) (pda_cons (pd_var (pv 3)) pda_nil) rfl) pda_nil))))))
        pdss_nil)
      (pdss_cons (pds_if (t_cmp c_lt (pd_call G_walk_reach rfl rfl rfl rfl rfl hg (hr.mono (by decide)) (by rfl) T.g_walk_reach T.k_walk_reach T.b_walk_reach (takes_of rfl rfl rfl rfl) (pda_cons (pd_var (pv 0)) pda_nil) rfl) (pd_call G_walk_reach rfl rfl rfl rfl rfl hg (hr.mono (by decide)) (by rfl) T.g_walk_reach T.k_walk_reach T.b_walk_reach (takes_of rfl rfl rfl rfl) (pda_cons (pd_var (pv 1)) pda_nil) rfl) (nomark _))
        (pdss_one (pds_ret (pd_call G_walk_case rfl rfl rfl rfl rfl hg hr (by rfl) T.g_walk_case T.k_walk_case T.b_walk_case (takes_of rfl rfl rfl rfl) (pda_cons (pd_call G_walk_reach rfl rfl rfl rfl rfl hg (hr.mono (by decide)) (by rfl) T.g_walk_reach T.k_walk_reach T.b_walk_reach (takes_of rfl rfl rfl rfl) (pda_cons (pd_var (pv 0)) pda_nil) rfl) (pda_cons (pd_call G_ring_reach rfl rfl rfl rfl rfl hg (hr.mono (by decide)) (by rfl) T.g_ring_reach T.k_ring_reach T.b_ring_reach (takes_of rfl rfl rfl rfl) (pda_cons (pd_var (pv 0)) pda_nil) rfl) pda_nil)) rfl)))
        pdss_nil)
      (pdss_one (pds_ret pd_non)))))))⟩

abbrev N_is_as_hard : List Str := ["one", "other"]
theorem sc_is_as_hard : FnScope N_is_as_hard ["one", "other"] (defScope s_is_as_hard) := ⟨rfl, rfl, rfl, by decide +kernel, rfl, by decide +kernel, by decide +kernel⟩
-- slots: 0:one 1:other
def D_is_as_hard (c : Cl) : DS := (dRet (dOp isNF (dCall (F_telling_case c) (dCons (dVar 0) (dCons (dVar 1) dNil))) (dC .non)))
def F_is_as_hard (c : Cl) : Fn := dDef 2 (D_is_as_hard c)
theorem ok_is_as_hard (T : Txt K mg) : FnE PW w K mg base 8 T.a_is_as_hard T.d_is_as_hard ["one", "other"] (spG K 2 (F_is_as_hard T.c)) := by
  have G_telling_case := ok_telling_case (w := w) (base := base) T
  exact fn_den T.F_is_as_hard sc_is_as_hard rfl fun cdv hcv A outer s H E hg hr => ⟨_, (pdss_one (pds_ret (p_cmp c_is (pd_call G_telling_case rfl rfl rfl rfl rfl hg hr (by rfl) T.g_telling_case T.k_telling_case T.b_telling_case (takes_of rfl rfl rfl rfl) (pda_cons (pd_var (pv 0)) (pda_cons (pd_var (pv 1)) pda_nil)) rfl) pd_non (nomark _))))⟩

abbrev N_law_pick : List Str := ["_law_heap_here", "_law_some"]
theorem sc_law_pick : FnScope N_law_pick ["_law_heap_here", "_law_some"] (defScope s_law_pick) := ⟨rfl, rfl, rfl, by decide +kernel, rfl, by decide +kernel, by decide +kernel⟩
-- slots: 0:_law_heap_here 1:_law_some
def D_law_pick (c : Cl) : DS := (dRet (dOp ixF (dVar 1) (dCallD (F_law_draw c) 0 (dCons (dCB lenF (dCons (dVar 1) dNil)) dNil))))
@[irreducible] def F_law_pick (c : Cl) : Fn := dDef 2 (D_law_pick c)
theorem ok_law_pick (T : Txt K mg) : FnE PW w K mg base 2 T.a_law_pick T.d_law_pick ["_law_heap_here", "_law_some"] (spG K 2 (F_law_pick T.c)) := by
  unfold F_law_pick
  have G_law_draw := ok_law_draw (P := PW) (w := w) (base := base) T
  exact fn_den T.F_law_pick sc_law_pick rfl fun cdv hcv A outer s H E hg hr => ⟨_, (pdss_one (pds_ret (p_ix (pd_var (pv 1)) (pd_callD G_law_draw rfl rfl rfl rfl rfl hg hr (by rfl) T.g_law_draw T.k_law_draw T.b_law_draw (takes_of rfl rfl rfl rfl) (pd_var (pv 0)) (pda_cons (b_len (by rfl) T.n_len (pda_cons (pd_var (pv 1)) pda_nil)) pda_nil) rfl) (fun _ _ => rfl))))⟩

abbrev N_law_mixed : List Str := ["_law_heap_here", "_law_some", "_law_left", "_law_found", "_law_turn"]
theorem sc_law_mixed : FnScope N_law_mixed ["_law_heap_here", "_law_some"] (defScope s_law_mixed) := ⟨rfl, rfl, rfl, by decide +kernel, rfl, by decide +kernel, by decide +kernel⟩
-- slots: 0:_law_heap_here 1:_law_some 2:_law_left 3:_law_found 4:_law_turn
def D_law_mixed (c : Cl) : DS := (dSeq (dPar 2 3 (dCons (dCB lstF (dCons (dVar 1) dNil)) (dCons (dLst dNil) dNil)))
  (dSeq (dFor (dItR1 (dCB lenF (dCons (dVar 1) dNil))) (tgName 4) (dDropX (dApp 3 (dPopAt 2 (dCallD (F_law_draw c) 0 (dCons (dCB lenF (dCons (dVar 2) dNil)) dNil))))))
  (dRetV 3)))
@[irreducible] def F_law_mixed (c : Cl) : Fn := dDef 5 (D_law_mixed c)
theorem ok_law_mixed (T : Txt K mg) : FnE PW w K mg base 2 T.a_law_mixed T.d_law_mixed ["_law_heap_here", "_law_some"] (spG K 2 (F_law_mixed T.c)) := by
  unfold F_law_mixed
  have G_law_draw := ok_law_draw (P := PW) (w := w) (base := base) T
  exact fn_den T.F_law_mixed sc_law_mixed rfl fun cdv hcv A outer s H E hg hr => ⟨_, (pdss_cons (pds_par2 (i := 2) (j := 3) rfl sc_law_mixed.nd rfl rfl (by decide) rfl rfl (pda_cons (b_list (by rfl) T.n_list (pda_cons (pd_var (pv 1)) pda_nil)) (pda_cons (pd_lst pda_nil) pda_nil)) rfl)
      (pdss_cons (pds_for (pdi_r1 (b_len (by rfl) T.n_len (pda_cons (pd_var (pv 1)) pda_nil)) (by rfl) T.n_range) (pdg_n (i := 4) sc_law_mixed.nd rfl (.inl rfl))
        (pdss_one (pds_exprX (pdx_app rfl (pd_var (pv 3)) (pdx_popAt rfl (pd_var (pv 2)) (pd_callD G_law_draw rfl rfl rfl rfl rfl hg hr (by rfl) T.g_law_draw T.k_law_draw T.b_law_draw (takes_of rfl rfl rfl rfl) (pd_var (pv 0)) (pda_cons (b_len (by rfl) T.n_len (pda_cons (pd_var (pv 2)) pda_nil)) pda_nil) rfl))))) (passes_of rfl) rfl)
      (pdss_one (pds_retV (pv 3)))))⟩

abbrev N_law_reaches : List Str := ["_law_batches_here", "_law_walks", "_law_size"]
theorem sc_law_reaches : FnScope N_law_reaches ["_law_batches_here"] (defScope s_law_reaches) := ⟨rfl, rfl, rfl, by decide +kernel, rfl, by decide +kernel, by decide +kernel⟩
-- slots: 0:_law_batches_here 1:_law_walks 2:_law_size
def D_law_reaches (c : Cl) : DS := (dSeq (dIfS (dTest (dOp eqF (dVar 0) (dTup dNil))) (dRet (dTup (dCons (dC (.int 1)) (dCons (dC (.int 0)) dNil)))) dNext)
  (dSeq (dAsg (dC (.int 1)) (tgName 1))
  (dSeq (dFor (dItA (dSrc (dSl cutF (dVar 0) (dPart (dC (.int 1))) dNoPart))) (tgName 2) (dAsg (dOp mulF (dVar 1) (dOp addF (dVar 2) (dC (.int 1)))) (tgName 1)))
  (dRet (dTup (dCons (dOp mulF (dVar 1) (dOp addF (dOp ixF (dVar 0) (dC (.int 0))) (dC (.int 1)))) (dCons (dOp mulF (dOp ixF (dVar 0) (dC (.int 0))) (dVar 1)) dNil)))))))
def F_law_reaches (c : Cl) : Fn := dDef 3 (D_law_reaches c)
theorem ok_law_reaches (T : Txt K mg) : FnE PW w K mg base 1 T.a_law_reaches T.d_law_reaches ["_law_batches_here"] (spG K 1 (F_law_reaches T.c)) := by
  exact fn_den T.F_law_reaches sc_law_reaches rfl fun cdv hcv A outer s H E hg hr => ⟨_, (pdss_cons (pds_if (t_cmp (c_eq hr.units) (pd_var (pv 0)) (pd_tup pda_nil) (nomark _))
        (pdss_one (pds_ret (pd_tup (pda_cons pd_int (pda_cons pd_int pda_nil)))))
        pdss_nil)
      (pdss_cons (pds_setN (i := 1) sc_law_reaches.nd rfl (.inl rfl) pd_int)
      (pdss_cons (pds_for (pdi_any rfl (pl_val (p_sl (pd_var (pv 0)) (pdo_some pd_int) pdo_none))) (pdg_n (i := 2) sc_law_reaches.nd rfl (.inl rfl))
        (pdss_one (pds_setN (i := 1) sc_law_reaches.nd rfl (.inl rfl) (p_mul (pd_var (pv 1)) (p_add (pd_var (pv 2)) pd_int)))) (passes_of rfl) rfl)
      (pdss_one (pds_ret (pd_tup (pda_cons (p_mul (pd_var (pv 1)) (p_add (p_ix (pd_var (pv 0)) pd_int (fun _ _ => rfl)) pd_int)) (pda_cons (p_mul (p_ix (pd_var (pv 0)) pd_int (fun _ _ => rfl)) (pd_var (pv 1))) pda_nil))))))))⟩

abbrev N_law_rows : List Str := ["_law_many", "_law_ties", "_law_start", "_law_most", "_law_rows_here", "_law_thing", "_law_turn", "_law_row", "_law_one", "_law_other", "_law_weight"]
theorem sc_law_rows : FnScope N_law_rows ["_law_many", "_law_ties", "_law_start", "_law_most"] (defScope s_law_rows) := ⟨rfl, rfl, rfl, by decide +kernel, rfl, by decide +kernel, by decide +kernel⟩
-- slots: 0:_law_many 1:_law_ties 2:_law_start 3:_law_most 4:_law_rows_here 5:_law_thing 6:_law_turn 7:_law_row 8:_law_one 9:_law_other 10:_law_weight
def D_law_rows (c : Cl) : DS := (dSeq (dAsg (dLst (dCons (dLc (dItR1 (dVar 0)) (tgName 5) dYes (dIf (dTest (dOp eqF (dVar 5) (dVar 2))) (dC (.int 0)) (dC .non)) [5]) dNil)) (tgName 4))
  (dSeq (dFor (dItR1 (dVar 3)) (tgName 6) (dSeq (dAsg (dCB lstF (dCons (dOp ixF (dVar 4) (dUn negF (dC (.int 1)))) dNil)) (tgName 7))
  (dSeq (dFor (dItA (dSrc (dVar 1))) (tgTup 3 (tgCons (tgName 8) (tgCons (tgName 9) (tgCons (tgName 10) tgNil)))) (dIfS (dAnd (dTest (dOp notNF (dOp ixF (dOp ixF (dVar 4) (dUn negF (dC (.int 1)))) (dVar 8)) (dC .non))) (dOr (dTest (dOp isNF (dOp ixF (dVar 7) (dVar 9)) (dC .non))) (dTest (dOp ltF (dOp ixF (dVar 7) (dVar 9)) (dOp addF (dOp ixF (dOp ixF (dVar 4) (dUn negF (dC (.int 1)))) (dVar 8)) (dVar 10)))))) (dAsg (dOp addF (dOp ixF (dOp ixF (dVar 4) (dUn negF (dC (.int 1)))) (dVar 8)) (dVar 10)) (tgSub 7 (dVar 9))) dNext))
  (dFz 7 (dDropX (dApp 4 (dX (dVar 7))))))))
  (dRetV 4)))
def F_law_rows (c : Cl) : Fn := dDef 11 (D_law_rows c)
theorem ok_law_rows (T : Txt K mg) : FnE PW w K mg base 1 T.a_law_rows T.d_law_rows ["_law_many", "_law_ties", "_law_start", "_law_most"] (spG K 4 (F_law_rows T.c)) := by
  exact fn_den T.F_law_rows sc_law_rows rfl fun cdv hcv A outer s H E hg hr => ⟨_, (pdss_cons (pds_setN (i := 4) sc_law_rows.nd rfl (.inl rfl) (pd_lst (pda_cons (pd_lcc (own := [("_law_thing", 5)]) s rfl sc_law_rows.nd (pdi_r1 (PD.up (pd_var (pv 0))) (by rfl) T.n_range) (blkOk_by (own := [("_law_thing", 5)]) (N := N_law_rows) (sc := defScope s_law_rows) (by decide +kernel)) (by rfl) (fun _ _ _ _ _ => (pdg_n (i := 5) sc_law_rows.nd rfl (Or.inl rfl))) (fun _ _ _ _ _ => pdts_nil) (fun _ _ _ _ _ => (PD.up (pd_if (t_cmp (c_eq hr.units) (pd_var (pv 5)) (pd_var (pv 2)) (nomark _)) pd_int pd_non)))) pda_nil)))
      (pdss_cons (pds_for (pdi_r1 (pd_var (pv 3)) (by rfl) T.n_range) (pdg_n (i := 6) sc_law_rows.nd rfl (.inl rfl))
        (pdss_cons (pds_setN (i := 7) sc_law_rows.nd rfl (.inl rfl) (b_list (by rfl) T.n_list (pda_cons (p_ix (pd_var (pv 4)) (p_neg pd_int) (fun _ _ => rfl)) pda_nil)))
      (pdss_cons (pds_for (pdi_any rfl (pl_val (pd_var (pv 1)))) (pdg_tup rfl rfl (pdgs_cons (pdg_n (i := 8) sc_law_rows.nd rfl (.inl rfl)) (pdgs_cons (pdg_n (i := 9) sc_law_rows.nd rfl (.inl rfl)) (pdgs_cons (pdg_n (i := 10) sc_law_rows.nd rfl (.inl rfl)) pdgs_nil))))
        (pdss_one (pds_if (pdt_w (pdw_and (t_cmp c_isnot (p_ix (p_ix (pd_var (pv 4)) (p_neg pd_int) (fun _ _ => rfl)) (pd_var (pv 8)) (fun _ _ => rfl)) pd_non (nomark _)) (pdw_and1 (pdt_w (pdw_or (t_cmp c_is (p_ix (pd_var (pv 7)) (pd_var (pv 9)) (fun _ _ => rfl)) pd_non (nomark _)) (pdw_or1 (t_cmp c_lt (p_ix (pd_var (pv 7)) (pd_var (pv 9)) (fun _ _ => rfl)) (p_add (p_ix (p_ix (pd_var (pv 4)) (p_neg pd_int) (fun _ _ => rfl)) (pd_var (pv 8)) (fun _ _ => rfl)) (pd_var (pv 10))) (nomark _))))))))
        (pdss_one (pds_asgG (p_add (p_ix (p_ix (pd_var (pv 4)) (p_neg pd_int) (fun _ _ => rfl)) (pd_var (pv 8)) (fun _ _ => rfl)) (pd_var (pv 10))) (pdg_sub (pd_var (pv 7)) (pd_var (pv 9)))))
        pdss_nil)) (passes_of rfl) rfl)
      (pdss_one (pds_fz 7 (pds_exprX (pdx_app rfl (pd_var (pv 4)) (pdx_x (pd_var (pv 7))))))))) (passes_of rfl) rfl)
      (pdss_one (pds_retV (pv 4)))))⟩
end
end Ge

set_option maxHeartbeats 1000000
namespace Ge
open PySem PySem.Spec PyProof.Rows L2 Sd
section
variable [HasT] {w : World} {K : PySem.W.Frag} {mg : Str → Option Value} {base : Heap}
abbrev N_law_batches : List Str := ["_law_heap_here", "_law_way", "_law_turn"]
theorem sc_law_batches : FnScope N_law_batches ["_law_heap_here"] (defScope s_law_batches) := ⟨rfl, rfl, rfl, by decide +kernel, rfl, by decide +kernel, by decide +kernel⟩
-- slots: 0:_law_heap_here 1:_law_way 2:_law_turn
def D_law_batches (c : Cl) : DS := (dSeq (dAsg (dCallD (F_law_draw c) 0 (dCons (dC (.int 5)) dNil)) (tgName 1))
  (dSeq (dIfS (dTest (dOp eqF (dVar 1) (dC (.int 0)))) (dRet (dOp mulF (dTup (dCons (dC (.int 1)) dNil)) (dCallD (F_law_pick c) 0 (dCons (dLst (dCons (dC (.int 0)) (dCons (dC (.int 1)) (dCons (dC (.int 2)) (dCons (dC (.int 3)) (dCons (dC (.int 4)) (dCons (dC (.int 5)) (dCons (dC (.int 60)) dNil)))))))) dNil)))) dNext)
  (dSeq (dIfS (dTest (dOp eqF (dVar 1) (dC (.int 1)))) (dRet (dTup (dCons (dCallD (F_law_pick c) 0 (dCons (dLst (dCons (dC (.int 1)) (dCons (dC (.int 2)) (dCons (dC (.int 3)) (dCons (dC (.int 4)) (dCons (dC (.int 6)) (dCons (dC (.int 11)) (dCons (dC (.int 100)) dNil)))))))) dNil)) dNil))) dNext)
  (dSeq (dIfS (dTest (dOp eqF (dVar 1) (dC (.int 2)))) (dRet (dCB tupF (dCons (dLc (dItR1 (dCallD (F_law_pick c) 0 (dCons (dLst (dCons (dC (.int 2)) (dCons (dC (.int 3)) (dCons (dC (.int 60)) dNil)))) dNil))) (tgName 2) dYes (dCallD (F_law_pick c) 0 (dCons (dLst (dCons (dC (.int 1)) (dCons (dC (.int 2)) (dCons (dC (.int 3)) (dCons (dC (.int 100)) dNil))))) dNil)) [2]) dNil))) dNext)
  (dRet (dCB tupF (dCons (dLc (dItR1 (dOp addF (dC (.int 1)) (dCallD (F_law_draw c) 0 (dCons (dC (.int 3)) dNil)))) (tgName 2) dYes (dOp addF (dC (.int 1)) (dCallD (F_law_draw c) 0 (dCons (dC (.int 3)) dNil))) [2]) dNil)))))))
@[irreducible] def F_law_batches (c : Cl) : Fn := dDef 3 (D_law_batches c)
theorem ok_law_batches (T : Txt K mg) : FnE PW w K mg base 3 T.a_law_batches T.d_law_batches ["_law_heap_here"] (spG K 1 (F_law_batches T.c)) := by
  unfold F_law_batches
  have G_law_draw := ok_law_draw (P := PW) (w := w) (base := base) T
  have G_law_pick := ok_law_pick (w := w) (base := base) T
  exact fn_den T.F_law_batches sc_law_batches rfl fun cdv hcv A outer s H E hg hr => ⟨_, (pdss_cons (pds_setN (i := 1) sc_law_batches.nd rfl (.inl rfl) (pd_callD G_law_draw rfl rfl rfl rfl rfl hg (hr.mono (by decide)) (by rfl) T.g_law_draw T.k_law_draw T.b_law_draw (takes_of rfl rfl rfl rfl) (pd_var (pv 0)) (pda_cons pd_int pda_nil) rfl))
      (pdss_cons (pds_if (t_cmp (c_eq hr.units) (pd_var (pv 1)) pd_int (nomark _))
        (pdss_one (pds_ret (p_mul (pd_tup (pda_cons pd_int pda_nil)) (pd_callD G_law_pick rfl rfl rfl rfl rfl hg hr (by rfl) T.g_law_pick T.k_law_pick T.b_law_pick (takes_of rfl rfl rfl rfl) (pd_var (pv 0)) (pda_cons (pd_lst (pda_cons pd_int (pda_cons pd_int (pda_cons pd_int (pda_cons pd_int (pda_cons pd_int (pda_cons pd_int (pda_cons pd_int pda_nil)))))))) pda_nil) rfl))))
        pdss_nil)
      (pdss_cons (pds_if (t_cmp (c_eq hr.units) (pd_var (pv 1)) pd_int (nomark _))
        (pdss_one (pds_ret (pd_tup (pda_cons (pd_callD G_law_pick rfl rfl rfl rfl rfl hg hr (by rfl) T.g_law_pick T.k_law_pick T.b_law_pick (takes_of rfl rfl rfl rfl) (pd_var (pv 0)) (pda_cons (pd_lst (pda_cons pd_int (pda_cons pd_int (pda_cons pd_int (pda_cons pd_int (pda_cons pd_int (pda_cons pd_int (pda_cons pd_int pda_nil)))))))) pda_nil) rfl) pda_nil))))
        pdss_nil)
      (pdss_cons (pds_if (t_cmp (c_eq hr.units) (pd_var (pv 1)) pd_int (nomark _))
        (pdss_one (pds_ret (b_tuple (by rfl) T.n_tuple (pda_cons (pd_lcc (own := [("_law_turn", 2)]) s rfl sc_law_batches.nd (pdi_r1 (PD.up (pd_callD G_law_pick rfl rfl rfl rfl rfl hg hr (by rfl) T.g_law_pick T.k_law_pick T.b_law_pick (takes_of rfl rfl rfl rfl) (pd_var (pv 0)) (pda_cons (pd_lst (pda_cons pd_int (pda_cons pd_int (pda_cons pd_int pda_nil)))) pda_nil) rfl)) (by rfl) T.n_range) (blkOk_by (own := [("_law_turn", 2)]) (N := N_law_batches) (sc := defScope s_law_batches) (by decide +kernel)) (by rfl) (fun _ _ _ _ _ => (pdg_n (i := 2) sc_law_batches.nd rfl (Or.inl rfl))) (fun _ _ _ _ _ => pdts_nil) (fun _ _ _ _ _ => (PD.up (pd_callD G_law_pick rfl rfl rfl rfl rfl hg hr (by rfl) T.g_law_pick T.k_law_pick T.b_law_pick takes0 (pd_var (pv 0)) (pda_cons (pd_lst (pda_cons pd_int (pda_cons pd_int (pda_cons pd_int (pda_cons pd_int pda_nil))))) pda_nil) rfl)))) pda_nil))))
        pdss_nil)
      (pdss_one (pds_ret (b_tuple (by rfl) T.n_tuple (pda_cons (pd_lcc (own := [("_law_turn", 2)]) s rfl sc_law_batches.nd (pdi_r1 (PD.up (p_add pd_int (pd_callD G_law_draw rfl rfl rfl rfl rfl hg (hr.mono (by decide)) (by rfl) T.g_law_draw T.k_law_draw T.b_law_draw (takes_of rfl rfl rfl rfl) (pd_var (pv 0)) (pda_cons pd_int pda_nil) rfl))) (by rfl) T.n_range) (blkOk_by (own := [("_law_turn", 2)]) (N := N_law_batches) (sc := defScope s_law_batches) (by decide +kernel)) (by rfl) (fun _ _ _ _ _ => (pdg_n (i := 2) sc_law_batches.nd rfl (Or.inl rfl))) (fun _ _ _ _ _ => pdts_nil) (fun _ _ _ _ _ => (PD.up (p_add pd_int (pd_callD G_law_draw rfl rfl rfl rfl rfl hg (hr.mono (by decide)) (by rfl) T.g_law_draw T.k_law_draw T.b_law_draw takes0 (pd_var (pv 0)) (pda_cons pd_int pda_nil) rfl))))) pda_nil))))))))⟩

abbrev N_law_bad_batches : List Str := []
theorem sc_law_bad_batches : FnScope N_law_bad_batches [] (defScope s_law_bad_batches) := ⟨rfl, rfl, rfl, by decide +kernel, rfl, by decide +kernel, by decide +kernel⟩
-- slots: 
def D_law_bad_batches (c : Cl) : DS := (dRet (dLst (dCons (dLst (dCons (dC (.int 1)) dNil)) (dCons (dTup (dCons (dC (.int 0)) dNil)) (dCons (dTup (dCons (dC (.int 101)) dNil)) (dCons (dTup (dCons (dC (.bl true)) dNil)) (dCons (dOp mulF (dTup (dCons (dC (.int 1)) dNil)) (dC (.int 61))) (dCons (dC .non) (dCons (dC (.int 1)) (dCons (dC (.str "1")) (dCons (dTup (dCons (dTup (dCons (dC (.int 1)) dNil)) dNil)) (dCons (dTup (dCons (dC (.int 1)) (dCons (dOp subF (dC (.int 0)) (dC (.int 1))) dNil))) dNil))))))))))))
def F_law_bad_batches (c : Cl) : Fn := dDef 0 (D_law_bad_batches c)
theorem ok_law_bad_batches (T : Txt K mg) : FnE PW w K mg base 1 T.a_law_bad_batches T.d_law_bad_batches [] (spG K 0 (F_law_bad_batches T.c)) := by
  exact fn_den T.F_law_bad_batches sc_law_bad_batches rfl fun cdv hcv A outer s H E hg hr => ⟨_, (pdss_one (pds_ret (pd_lst (pda_cons (pd_lst (pda_cons pd_int pda_nil)) (pda_cons (pd_tup (pda_cons pd_int pda_nil)) (pda_cons (pd_tup (pda_cons pd_int pda_nil)) (pda_cons (pd_tup (pda_cons pd_bl pda_nil)) (pda_cons (p_mul (pd_tup (pda_cons pd_int pda_nil)) pd_int) (pda_cons pd_non (pda_cons pd_int (pda_cons pd_str (pda_cons (pd_tup (pda_cons (pd_tup (pda_cons pd_int pda_nil)) pda_nil)) (pda_cons (pd_tup (pda_cons pd_int (pda_cons (p_sub pd_int pd_int) pda_nil))) pda_nil)))))))))))))⟩

abbrev N_law_held : List Str := ["_law_rows_here", "_law_times", "_law_reaches_here", "_law_walks", "_law_rings", "_law_one", "_law_other", "_law_weight"]
theorem sc_law_held : FnScope N_law_held ["_law_rows_here", "_law_times", "_law_reaches_here"] (defScope s_law_held) := ⟨rfl, rfl, rfl, by decide +kernel, rfl, by decide +kernel, by decide +kernel⟩
-- slots: 0:_law_rows_here 1:_law_times 2:_law_reaches_here 3:_law_walks 4:_law_rings 5:_law_one 6:_law_other 7:_law_weight
def D_law_held (c : Cl) : DS := (dSeq (dPar 3 4 (dCons (dCB minF (dCons (dOp ixF (dVar 2) (dC (.int 0))) (dCons (dOp subF (dCB lenF (dCons (dOp ixF (dVar 0) (dC (.int 0))) dNil)) (dC (.int 1))) dNil))) (dCons (dCB minF (dCons (dOp ixF (dVar 2) (dC (.int 1))) (dCons (dOp subF (dCB lenF (dCons (dOp ixF (dVar 0) (dC (.int 0))) dNil)) (dC (.int 1))) dNil))) dNil)))
  (dSeq (dFor (dItR1 (dCB lenF (dCons (dVar 0) dNil))) (tgName 5) (dSeq (dIfS (dAnd (dTest (dOp isNF (dOp ixF (dVar 1) (dVar 5)) (dC .non))) (dTest (dOp gtF (dOp ixF (dOp ixF (dOp ixF (dVar 0) (dVar 5)) (dVar 4)) (dVar 5)) (dC (.int 0))))) (dRet (dC (.bl false))) dNext)
  (dFor (dItR1 (dCB lenF (dCons (dVar 0) dNil))) (tgName 6) (dSeq (dAsg (dOp ixF (dOp ixF (dOp ixF (dVar 0) (dVar 5)) (dVar 3)) (dVar 6)) (tgName 7))
  (dIfS (dAnd (dTest (dOp notNF (dOp ixF (dVar 1) (dVar 5)) (dC .non))) (dAnd (dTest (dOp notNF (dOp ixF (dVar 1) (dVar 6)) (dC .non))) (dTest (dOp notNF (dVar 7) (dC .non))))) (dIfS (dTest (dOp ltF (dOp subF (dOp ixF (dVar 1) (dVar 6)) (dOp ixF (dVar 1) (dVar 5))) (dVar 7))) (dRet (dC (.bl false))) dNext) dNext)))))
  (dRet (dC (.bl true)))))
def F_law_held (c : Cl) : Fn := dDef 8 (D_law_held c)
theorem ok_law_held (T : Txt K mg) : FnE PW w K mg base 1 T.a_law_held T.d_law_held ["_law_rows_here", "_law_times", "_law_reaches_here"] (spG K 3 (F_law_held T.c)) := by
  exact fn_den T.F_law_held sc_law_held rfl fun cdv hcv A outer s H E hg hr => ⟨_, (pdss_cons (pds_par2 (i := 3) (j := 4) rfl sc_law_held.nd rfl rfl (by decide) rfl rfl (pda_cons (b_min rfl (by rfl) T.n_min (pda_cons (p_ix (pd_var (pv 2)) pd_int (fun _ _ => rfl)) (pda_cons (p_sub (b_len (by rfl) T.n_len (pda_cons (p_ix (pd_var (pv 0)) pd_int (fun _ _ => rfl)) pda_nil)) pd_int) pda_nil))) (pda_cons (b_min rfl (by rfl) T.n_min (pda_cons (p_ix (pd_var (pv 2)) pd_int (fun _ _ => rfl)) (pda_cons (p_sub (b_len (by rfl) T.n_len (pda_cons (p_ix (pd_var (pv 0)) pd_int (fun _ _ => rfl)) pda_nil)) pd_int) pda_nil))) pda_nil)) rfl)
      (pdss_cons (pds_for (pdi_r1 (b_len (by rfl) T.n_len (pda_cons (pd_var (pv 0)) pda_nil)) (by rfl) T.n_range) (pdg_n (i := 5) sc_law_held.nd rfl (.inl rfl))
        (pdss_cons (pds_if (pdt_w (pdw_and (t_cmp c_is (p_ix (pd_var (pv 1)) (pd_var (pv 5)) (fun _ _ => rfl)) pd_non (nomark _)) (pdw_and1 (t_cmp c_gt (p_ix (p_ix (p_ix (pd_var (pv 0)) (pd_var (pv 5)) (fun _ _ => rfl)) (pd_var (pv 4)) (fun _ _ => rfl)) (pd_var (pv 5)) (fun _ _ => rfl)) pd_int (nomark _)))))
        (pdss_one (pds_ret pd_bl))
        pdss_nil)
      (pdss_one (pds_for (pdi_r1 (b_len (by rfl) T.n_len (pda_cons (pd_var (pv 0)) pda_nil)) (by rfl) T.n_range) (pdg_n (i := 6) sc_law_held.nd rfl (.inl rfl))
        (pdss_cons (pds_setN (i := 7) sc_law_held.nd rfl (.inl rfl) (p_ix (p_ix (p_ix (pd_var (pv 0)) (pd_var (pv 5)) (fun _ _ => rfl)) (pd_var (pv 3)) (fun _ _ => rfl)) (pd_var (pv 6)) (fun _ _ => rfl)))
      (pdss_one (pds_if (pdt_w (pdw_and (t_cmp c_isnot (p_ix (pd_var (pv 1)) (pd_var (pv 5)) (fun _ _ => rfl)) pd_non (nomark _)) (pdw_and (t_cmp c_isnot (p_ix (pd_var (pv 1)) (pd_var (pv 6)) (fun _ _ => rfl)) pd_non (nomark _)) (pdw_and1 (t_cmp c_isnot (pd_var (pv 7)) pd_non (nomark _))))))
        (pdss_one (pds_if (t_cmp c_lt (p_sub (p_ix (pd_var (pv 1)) (pd_var (pv 6)) (fun _ _ => rfl)) (p_ix (pd_var (pv 1)) (pd_var (pv 5)) (fun _ _ => rfl))) (pd_var (pv 7)) (nomark _))
        (pdss_one (pds_ret pd_bl))
        pdss_nil))
        pdss_nil))) (passes_of rfl) rfl))) (passes_of rfl) rfl)
      (pdss_one (pds_ret pd_bl))))⟩

abbrev N_law_some_batches : List Str := ["_law_heap_here", "_law_way"]
theorem sc_law_some_batches : FnScope N_law_some_batches ["_law_heap_here"] (defScope s_law_some_batches) := ⟨rfl, rfl, rfl, by decide +kernel, rfl, by decide +kernel, by decide +kernel⟩
-- slots: 0:_law_heap_here 1:_law_way
def D_law_some_batches (c : Cl) : DS := (dSeq (dAsg (dCallD (F_law_draw c) 0 (dCons (dC (.int 4)) dNil)) (tgName 1))
  (dSeq (dIfS (dTest (dOp eqF (dVar 1) (dC (.int 0)))) (dRet (dCallD (F_law_batches c) 0 dNil)) dNext)
  (dSeq (dIfS (dTest (dOp eqF (dVar 1) (dC (.int 1)))) (dRet (dTup (dCons (dOp addF (dC (.int 1)) (dCallD (F_law_draw c) 0 (dCons (dC (.int 13)) dNil))) dNil))) dNext)
  (dSeq (dIfS (dTest (dOp eqF (dVar 1) (dC (.int 2)))) (dRet (dTup (dCons (dOp addF (dC (.int 1)) (dCallD (F_law_draw c) 0 (dCons (dC (.int 3)) dNil))) (dCons (dOp addF (dC (.int 1)) (dCallD (F_law_draw c) 0 (dCons (dC (.int 11)) dNil))) dNil)))) dNext)
  (dRet (dCallD (F_law_pick c) 0 (dCons (dLst (dCons (dTup dNil) (dCons (dTup (dCons (dC (.int 1)) dNil)) (dCons (dTup (dCons (dC (.int 1)) (dCons (dC (.int 1)) dNil))) (dCons (dTup (dCons (dC (.int 2)) dNil)) (dCons (dTup (dCons (dC (.int 10)) dNil)) (dCons (dTup (dCons (dC (.int 11)) dNil)) (dCons (dTup (dCons (dC (.int 12)) dNil)) (dCons (dTup (dCons (dC (.int 1)) (dCons (dC (.int 10)) dNil))) (dCons (dTup (dCons (dC (.int 1)) (dCons (dC (.int 9)) dNil))) (dCons (dTup (dCons (dC (.int 1)) (dCons (dC (.int 8)) dNil))) (dCons (dTup (dCons (dC (.int 10)) (dCons (dC (.int 1)) dNil))) (dCons (dTup (dCons (dC (.int 5)) (dCons (dC (.int 1)) dNil))) (dCons (dTup (dCons (dC (.int 4)) (dCons (dC (.int 1)) dNil))) (dCons (dTup (dCons (dC (.int 1)) (dCons (dC (.int 1)) (dCons (dC (.int 1)) dNil)))) (dCons (dTup (dCons (dC (.int 1)) (dCons (dC (.int 1)) (dCons (dC (.int 4)) dNil)))) (dCons (dTup (dCons (dC (.int 1)) (dCons (dC (.int 2)) (dCons (dC (.int 2)) dNil)))) (dCons (dTup (dCons (dC (.int 1)) (dCons (dC (.int 4)) (dCons (dC (.int 1)) dNil)))) (dCons (dTup (dCons (dC (.int 2)) (dCons (dC (.int 4)) dNil))) (dCons (dTup (dCons (dC (.int 1)) (dCons (dC (.int 1)) (dCons (dC (.int 1)) (dCons (dC (.int 1)) dNil))))) (dCons (dTup (dCons (dC (.int 3)) (dCons (dC (.int 2)) dNil))) (dCons (dTup (dCons (dC (.int 2)) (dCons (dC (.int 3)) dNil))) (dCons (dTup (dCons (dC (.int 9)) dNil)) (dCons (dTup (dCons (dC (.int 1)) (dCons (dC (.int 11)) dNil))) (dCons (dTup (dCons (dC (.int 100)) (dCons (dC (.int 1)) dNil))) dNil))))))))))))))))))))))))) dNil)))))))
@[irreducible] def F_law_some_batches (c : Cl) : Fn := dDef 2 (D_law_some_batches c)
theorem ok_law_some_batches (T : Txt K mg) : FnE PW w K mg base 4 T.a_law_some_batches T.d_law_some_batches ["_law_heap_here"] (spG K 1 (F_law_some_batches T.c)) := by
  unfold F_law_some_batches
  have G_law_draw := ok_law_draw (P := PW) (w := w) (base := base) T
  have G_law_batches := ok_law_batches (w := w) (base := base) T
  have G_law_pick := ok_law_pick (w := w) (base := base) T
  exact fn_den T.F_law_some_batches sc_law_some_batches rfl fun cdv hcv A outer s H E hg hr => ⟨_, (pdss_cons (pds_setN (i := 1) sc_law_some_batches.nd rfl (.inl rfl) (pd_callD G_law_draw rfl rfl rfl rfl rfl hg (hr.mono (by decide)) (by rfl) T.g_law_draw T.k_law_draw T.b_law_draw (takes_of rfl rfl rfl rfl) (pd_var (pv 0)) (pda_cons pd_int pda_nil) rfl))
      (pdss_cons (pds_if (t_cmp (c_eq hr.units) (pd_var (pv 1)) pd_int (nomark _))
        (pdss_one (pds_ret (pd_callD G_law_batches rfl rfl rfl rfl rfl hg hr (by rfl) T.g_law_batches T.k_law_batches T.b_law_batches (takes_of rfl rfl rfl rfl) (pd_var (pv 0)) pda_nil rfl)))
        pdss_nil)
      (pdss_cons (pds_if (t_cmp (c_eq hr.units) (pd_var (pv 1)) pd_int (nomark _))
        (pdss_one (pds_ret (pd_tup (pda_cons (p_add pd_int (pd_callD G_law_draw rfl rfl rfl rfl rfl hg (hr.mono (by decide)) (by rfl) T.g_law_draw T.k_law_draw T.b_law_draw (takes_of rfl rfl rfl rfl) (pd_var (pv 0)) (pda_cons pd_int pda_nil) rfl)) pda_nil))))
        pdss_nil)
      (pdss_cons (pds_if (t_cmp (c_eq hr.units) (pd_var (pv 1)) pd_int (nomark _))
        (pdss_one (pds_ret (pd_tup (pda_cons (p_add pd_int (pd_callD G_law_draw rfl rfl rfl rfl rfl hg (hr.mono (by decide)) (by rfl) T.g_law_draw T.k_law_draw T.b_law_draw (takes_of rfl rfl rfl rfl) (pd_var (pv 0)) (pda_cons pd_int pda_nil) rfl)) (pda_cons (p_add pd_int (pd_callD G_law_draw rfl rfl rfl rfl rfl hg (hr.mono (by decide)) (by rfl) T.g_law_draw T.k_law_draw T.b_law_draw (takes_of rfl rfl rfl rfl) (pd_var (pv 0)) (pda_cons pd_int pda_nil) rfl)) pda_nil)))))
        pdss_nil)
      (pdss_one (pds_ret (pd_callD G_law_pick rfl rfl rfl rfl rfl hg (hr.mono (by decide)) (by rfl) T.g_law_pick T.k_law_pick T.b_law_pick (takes_of rfl rfl rfl rfl) (pd_var (pv 0)) (pda_cons (pd_lst (pda_cons (pd_tup pda_nil) (pda_cons (pd_tup (pda_cons pd_int pda_nil)) (pda_cons (pd_tup (pda_cons pd_int (pda_cons pd_int pda_nil))) (pda_cons (pd_tup (pda_cons pd_int pda_nil)) (pda_cons (pd_tup (pda_cons pd_int pda_nil)) (pda_cons (pd_tup (pda_cons pd_int pda_nil)) (pda_cons (pd_tup (pda_cons pd_int pda_nil)) (pda_cons (pd_tup (pda_cons pd_int (pda_cons pd_int pda_nil))) (pda_cons (pd_tup (pda_cons pd_int (pda_cons pd_int pda_nil))) (pda_cons (pd_tup (pda_cons pd_int (pda_cons pd_int pda_nil))) (pda_cons (pd_tup (pda_cons pd_int (pda_cons pd_int pda_nil))) (pda_cons (pd_tup (pda_cons pd_int (pda_cons pd_int pda_nil))) (pda_cons (pd_tup (pda_cons pd_int (pda_cons pd_int pda_nil))) (pda_cons (pd_tup (pda_cons pd_int (pda_cons pd_int (pda_cons pd_int pda_nil)))) (pda_cons (pd_tup (pda_cons pd_int (pda_cons pd_int (pda_cons pd_int pda_nil)))) (pda_cons (pd_tup (pda_cons pd_int (pda_cons pd_int (pda_cons pd_int pda_nil)))) (pda_cons (pd_tup (pda_cons pd_int (pda_cons pd_int (pda_cons pd_int pda_nil)))) (pda_cons (pd_tup (pda_cons pd_int (pda_cons pd_int pda_nil))) (pda_cons (pd_tup (pda_cons pd_int (pda_cons pd_int (pda_cons pd_int (pda_cons pd_int pda_nil))))) (pda_cons (pd_tup (pda_cons pd_int (pda_cons pd_int pda_nil))) (pda_cons (pd_tup (pda_cons pd_int (pda_cons pd_int pda_nil))) (pda_cons (pd_tup (pda_cons pd_int pda_nil)) (pda_cons (pd_tup (pda_cons pd_int (pda_cons pd_int pda_nil))) (pda_cons (pd_tup (pda_cons pd_int (pda_cons pd_int pda_nil))) pda_nil))))))))))))))))))))))))) pda_nil) rfl)))))))⟩

abbrev N_law_due : List Str := ["_law_one", "_law_other", "_law_walks", "_law_rings", "_law_more", "_law_longer"]
theorem sc_law_due : FnScope N_law_due ["_law_one", "_law_other"] (defScope s_law_due) := ⟨rfl, rfl, rfl, by decide +kernel, rfl, by decide +kernel, by decide +kernel⟩
-- slots: 0:_law_one 1:_law_other 2:_law_walks 3:_law_rings 4:_law_more 5:_law_longer
def D_law_due (c : Cl) : DS := (dSeq (dAsg (dCall (F_law_reaches c) (dCons (dVar 0) dNil)) (tgTup 2 (tgCons (tgName 2) (tgCons (tgName 3) tgNil))))
  (dSeq (dAsg (dCall (F_law_reaches c) (dCons (dVar 1) dNil)) (tgTup 2 (tgCons (tgName 4) (tgCons (tgName 5) tgNil))))
  (dRet (dAndV (dOrV (dOp geF (dVar 3) (dVar 5)) (dOp geF (dVar 3) (dC (.int 12)))) (dOrV (dOp geF (dVar 2) (dVar 4)) (dOp geF (dVar 3) (dC (.int 11))))))))
def F_law_due (c : Cl) : Fn := dDef 6 (D_law_due c)
theorem ok_law_due (T : Txt K mg) : FnE PW w K mg base 2 T.a_law_due T.d_law_due ["_law_one", "_law_other"] (spG K 2 (F_law_due T.c)) := by
  have G_law_reaches := ok_law_reaches (w := w) (base := base) T
  exact fn_den T.F_law_due sc_law_due rfl fun cdv hcv A outer s H E hg hr => ⟨_, (pdss_cons (pds_asgG (pd_call G_law_reaches rfl rfl rfl rfl rfl hg hr (by rfl) T.g_law_reaches T.k_law_reaches T.b_law_reaches (takes_of rfl rfl rfl rfl) (pda_cons (pd_var (pv 0)) pda_nil) rfl) (pdg_tup rfl rfl (pdgs_cons (pdg_n (i := 2) sc_law_due.nd rfl (.inl rfl)) (pdgs_cons (pdg_n (i := 3) sc_law_due.nd rfl (.inl rfl)) pdgs_nil))))
      (pdss_cons (pds_asgG (pd_call G_law_reaches rfl rfl rfl rfl rfl hg hr (by rfl) T.g_law_reaches T.k_law_reaches T.b_law_reaches (takes_of rfl rfl rfl rfl) (pda_cons (pd_var (pv 1)) pda_nil) rfl) (pdg_tup rfl rfl (pdgs_cons (pdg_n (i := 4) sc_law_due.nd rfl (.inl rfl)) (pdgs_cons (pdg_n (i := 5) sc_law_due.nd rfl (.inl rfl)) pdgs_nil))))
      (pdss_one (pds_ret (pd_and (pd_or (p_cmp c_ge (pd_var (pv 3)) (pd_var (pv 5)) (nomark _)) (pd_one (p_cmp c_ge (pd_var (pv 3)) pd_int (nomark _)))) (pd_one (pd_or (p_cmp c_ge (pd_var (pv 2)) (pd_var (pv 4)) (nomark _)) (pd_one (p_cmp c_ge (pd_var (pv 3)) pd_int (nomark _))))))))))⟩

abbrev N_law_is_case : List Str := ["_law_value", "_law_one", "_law_other", "_law_many", "_law_times", "_law_time", "_law_rows_here", "_law_thing"]
theorem sc_law_is_case : FnScope N_law_is_case ["_law_value", "_law_one", "_law_other"] (defScope s_law_is_case) := ⟨rfl, rfl, rfl, by decide +kernel, rfl, by decide +kernel, by decide +kernel⟩
-- slots: 0:_law_value 1:_law_one 2:_law_other 3:_law_many 4:_law_times 5:_law_time 6:_law_rows_here 7:_law_thing
def D_law_is_case (c : Cl) : DS := (dSeq (dIfS (dOr (dNot (dTest (dCB (isTF .tuple) (dCons (dVar 0) (dCons (dC (.raw (.ty "tuple"))) dNil))))) (dOr (dTest (dOp neF (dCB lenF (dCons (dVar 0) dNil)) (dC (.int 2)))) (dOr (dNot (dTest (dCB (isCF c.C_Table) (dCons (dOp ixF (dVar 0) (dC (.int 0))) (dCons (dC (.raw (.ref c.C_Table))) dNil))))) (dNot (dTest (dCB (isTF .tuple) (dCons (dOp ixF (dVar 0) (dC (.int 1))) (dCons (dC (.raw (.ty "tuple"))) dNil)))))))) (dRet (dC (.bl false))) dNext)
  (dSeq (dAsg (dTup (dCons (dCB lenF (dCons (dFld c.C_Table "things" (dOp ixF (dVar 0) (dC (.int 0)))) dNil)) (dCons (dOp ixF (dVar 0) (dC (.int 1))) dNil))) (tgTup 2 (tgCons (tgName 3) (tgCons (tgName 4) tgNil))))
  (dSeq (dIfS (dOr (dTest (dOp gtF (dVar 3) (dC (.int 12)))) (dOr (dTest (dOp gtF (dCB lenF (dCons (dFld c.C_Table "ties" (dOp ixF (dVar 0) (dC (.int 0)))) dNil)) (dC (.int 60)))) (dTest (dOp neF (dCB lenF (dCons (dVar 4) dNil)) (dVar 3))))) (dRet (dC (.bl false))) dNext)
  (dSeq (dFor (dItA (dSrc (dVar 4))) (tgName 5) (dIfS (dAnd (dTest (dOp notNF (dVar 5) (dC .non))) (dOr (dNot (dTest (dCB (isTF .int) (dCons (dVar 5) (dCons (dC (.raw (.ty "int"))) dNil))))) (dTest (dCB (isTF .bool) (dCons (dVar 5) (dCons (dC (.raw (.ty "bool"))) dNil)))))) (dRet (dC (.bl false))) dNext))
  (dSeq (dAsg (dLc (dItR1 (dVar 3)) (tgName 7) dYes (dCall (F_law_rows c) (dCons (dVar 3) (dCons (dFld c.C_Table "ties" (dOp ixF (dVar 0) (dC (.int 0)))) (dCons (dVar 7) (dCons (dOp addF (dOp mulF (dC (.int 2)) (dVar 3)) (dC (.int 2))) dNil))))) [7]) (tgName 6))
  (dFz 6 (dRet (dAndV (dCall (F_law_held c) (dCons (dVar 6) (dCons (dVar 4) (dCons (dCall (F_law_reaches c) (dCons (dVar 1) dNil)) dNil)))) (dNotV (dCall (F_law_held c) (dCons (dVar 6) (dCons (dVar 4) (dCons (dCall (F_law_reaches c) (dCons (dVar 2) dNil)) dNil)))))))))))))
def F_law_is_case (c : Cl) : Fn := dDef 8 (D_law_is_case c)
theorem ok_law_is_case (T : Txt K mg) : FnE PW w K mg base 2 T.a_law_is_case T.d_law_is_case ["_law_value", "_law_one", "_law_other"] (spG K 3 (F_law_is_case T.c)) := by
  have G_law_rows := ok_law_rows (w := w) (base := base) T
  have G_law_held := ok_law_held (w := w) (base := base) T
  have G_law_reaches := ok_law_reaches (w := w) (base := base) T
  exact fn_den T.F_law_is_case sc_law_is_case rfl fun cdv hcv A outer s H E hg hr => ⟨_, (pdss_cons (pds_if (pdt_w (pdw_or (pdt_not (pdt_val (b_isT .tuple (by rfl) T.n_isinstance (by rfl) T.n_tuple (pd_var (pv 0))))) (pdw_or (t_cmp (c_ne hr.units) (b_len (by rfl) T.n_len (pda_cons (pd_var (pv 0)) pda_nil)) pd_int (nomark _)) (pdw_or (pdt_not (pdt_val (b_isC T.i_Table (by rfl) T.n_isinstance (by rfl) T.g_Table (p_ix (pd_var (pv 0)) pd_int (fun _ _ => rfl))))) (pdw_or1 (pdt_not (pdt_val (b_isT .tuple (by rfl) T.n_isinstance (by rfl) T.n_tuple (p_ix (pd_var (pv 0)) pd_int (fun _ _ => rfl))))))))))
        (pdss_one (pds_ret pd_bl))
        pdss_nil)
      (pdss_cons (pds_asgG (pd_tup (pda_cons (b_len (by rfl) T.n_len (pda_cons (pd_fld rfl T.i_Table.cl T.nf_Table_things (p_ix (pd_var (pv 0)) pd_int (fun _ _ => rfl)) rfl) pda_nil)) (pda_cons (p_ix (pd_var (pv 0)) pd_int (fun _ _ => rfl)) pda_nil))) (pdg_tup rfl rfl (pdgs_cons (pdg_n (i := 3) sc_law_is_case.nd rfl (.inr rfl)) (pdgs_cons (pdg_n (i := 4) sc_law_is_case.nd rfl (.inl rfl)) pdgs_nil))))
      (pdss_cons (pds_if (pdt_w (pdw_or (t_cmp c_gt (pd_var (pv 3)) pd_int (nomark _)) (pdw_or (t_cmp c_gt (b_len (by rfl) T.n_len (pda_cons (pd_fld rfl T.i_Table.cl T.nf_Table_ties (p_ix (pd_var (pv 0)) pd_int (fun _ _ => rfl)) rfl) pda_nil)) pd_int (nomark _)) (pdw_or1 (t_cmp (c_ne hr.units) (b_len (by rfl) T.n_len (pda_cons (pd_var (pv 4)) pda_nil)) (pd_var (pv 3)) (nomark _))))))
        (pdss_one (pds_ret pd_bl))
        pdss_nil)
      (pdss_cons (pds_for (pdi_any rfl (pl_val (pd_var (pv 4)))) (pdg_n (i := 5) sc_law_is_case.nd rfl (.inl rfl))
        (pdss_one (pds_if (pdt_w (pdw_and (t_cmp c_isnot (pd_var (pv 5)) pd_non (nomark _)) (pdw_and1 (pdt_w (pdw_or (pdt_not (pdt_val (b_isT .int (by rfl) T.n_isinstance (by rfl) T.n_int (pd_var (pv 5))))) (pdw_or1 (pdt_val (b_isT .bool (by rfl) T.n_isinstance (by rfl) T.n_bool (pd_var (pv 5))))))))))
        (pdss_one (pds_ret pd_bl))
        pdss_nil)) (passes_of rfl) rfl)
      (pdss_cons (pds_setL (own := [("_law_thing", 7)]) (i := 6) s rfl sc_law_is_case.nd rfl rfl (sw_true rfl rfl rfl (by decide +kernel)) (pdi_r1 (PD.up (pd_var (pv 3))) (by rfl) T.n_range) (blkOk_by (own := [("_law_thing", 7)]) (N := N_law_is_case) (sc := defScope s_law_is_case) (by decide +kernel)) (by rfl) (fun _ _ _ _ _ => (pdg_n (i := 7) sc_law_is_case.nd rfl (Or.inl rfl))) (fun _ _ _ _ _ => pdts_nil) (fun _ _ _ _ _ => (PD.up (pd_call G_law_rows rfl rfl rfl rfl rfl hg hr (by rfl) T.g_law_rows T.k_law_rows T.b_law_rows takes0 (pda_cons (pd_var (pv 3)) (pda_cons (pd_fld rfl T.i_Table.cl T.nf_Table_ties (p_ix (pd_var (pv 0)) pd_int (fun _ _ => rfl)) rfl) (pda_cons (pd_var (pv 7)) (pda_cons (p_add (p_mul pd_int (pd_var (pv 3))) pd_int) pda_nil)))) rfl))))
      (pdss_one (pds_fz 6 (pds_ret (pd_and (pd_call G_law_held rfl rfl rfl rfl rfl hg hr (by rfl) T.g_law_held T.k_law_held T.b_law_held (takes_of rfl rfl rfl rfl) (pda_cons (pd_var (pv 6)) (pda_cons (pd_var (pv 4)) (pda_cons (pd_call G_law_reaches rfl rfl rfl rfl rfl hg hr (by rfl) T.g_law_reaches T.k_law_reaches T.b_law_reaches (takes_of rfl rfl rfl rfl) (pda_cons (pd_var (pv 1)) pda_nil) rfl) pda_nil))) rfl) (pd_one (pd_not (pd_call G_law_held rfl rfl rfl rfl rfl hg hr (by rfl) T.g_law_held T.k_law_held T.b_law_held (takes_of rfl rfl rfl rfl) (pda_cons (pd_var (pv 6)) (pda_cons (pd_var (pv 4)) (pda_cons (pd_call G_law_reaches rfl rfl rfl rfl rfl hg hr (by rfl) T.g_law_reaches T.k_law_reaches T.b_law_reaches (takes_of rfl rfl rfl rfl) (pda_cons (pd_var (pv 2)) pda_nil) rfl) pda_nil))) rfl))))))))))))⟩

abbrev N_law_pair_right : List Str := ["_law_one", "_law_other", "_law_due_here", "_law_told_here", "_law_again"]
theorem sc_law_pair_right : FnScope N_law_pair_right ["_law_one", "_law_other"] (defScope s_law_pair_right) := ⟨rfl, rfl, rfl, by decide +kernel, rfl, by decide +kernel, by decide +kernel⟩
-- slots: 0:_law_one 1:_law_other 2:_law_due_here 3:_law_told_here 4:_law_again
def D_law_pair_right (c : Cl) : DS := (dSeq (dPar 2 3 (dCons (dCall (F_law_due c) (dCons (dVar 0) (dCons (dVar 1) dNil))) (dCons (dCall (F_telling_case c) (dCons (dVar 0) (dCons (dVar 1) dNil))) dNil)))
  (dSeq (dIfS (dOr (dTest (dOp neF (dCB reprF (dCons (dCall (F_is_as_hard c) (dCons (dVar 0) (dCons (dVar 1) dNil))) dNil)) (dCB reprF (dCons (dVar 2) dNil)))) (dTest (dOp neF (dCallK (F_is_as_hard c) (permD [1, 0]) (dCons (dVar 1) (dCons (dVar 0) dNil))) (dVar 2)))) (dRet (dC (.bl false))) dNext)
  (dSeq (dIfS (dTest (dVar 2)) (dRet (dAndV (dOp isNF (dVar 3) (dC .non)) (dOp isNF (dCallK (F_telling_case c) (permD [1, 0]) (dCons (dVar 1) (dCons (dVar 0) dNil))) (dC .non)))) dNext)
  (dSeq (dAsg (dCallK (F_telling_case c) (permD [1, 0]) (dCons (dVar 1) (dCons (dVar 0) dNil))) (tgName 4))
  (dRet (dAndV (dCall (F_law_is_case c) (dCons (dVar 3) (dCons (dVar 0) (dCons (dVar 1) dNil)))) (dAndV (dOwn c.C_Table (F_Table_eq c) (dOp ixF (dVar 4) (dC (.int 0))) (dOp ixF (dVar 3) (dC (.int 0)))) (dOp eqF (dOp ixF (dVar 4) (dC (.int 1))) (dOp ixF (dVar 3) (dC (.int 1)))))))))))
def F_law_pair_right (c : Cl) : Fn := dDef 5 (D_law_pair_right c)
theorem ok_law_pair_right (T : Txt K mg) : FnE PW w K mg base 9 T.a_law_pair_right T.d_law_pair_right ["_law_one", "_law_other"] (spG K 2 (F_law_pair_right T.c)) := by
  have G_telling_case := ok_telling_case (w := w) (base := base) T
  have G_law_due := ok_law_due (w := w) (base := base) T
  have G_is_as_hard := ok_is_as_hard (w := w) (base := base) T
  have G_law_is_case := ok_law_is_case (w := w) (base := base) T
  have G_Table_eq := ok_Table_eq (w := w) (base := base) T
  exact fn_den T.F_law_pair_right sc_law_pair_right rfl fun cdv hcv A outer s H E hg hr => ⟨_, (pdss_cons (pds_par2 (i := 2) (j := 3) rfl sc_law_pair_right.nd rfl rfl (by decide) rfl rfl (pda_cons (pd_call G_law_due rfl rfl rfl rfl rfl hg (hr.mono (by decide)) (by rfl) T.g_law_due T.k_law_due T.b_law_due (takes_of rfl rfl rfl rfl) (pda_cons (pd_var (pv 0)) (pda_cons (pd_var (pv 1)) pda_nil)) rfl) (pda_cons (pd_call G_telling_case rfl rfl rfl rfl rfl hg (hr.mono (by decide)) (by rfl) T.g_telling_case T.k_telling_case T.b_telling_case (takes_of rfl rfl rfl rfl) (pda_cons (pd_var (pv 0)) (pda_cons (pd_var (pv 1)) pda_nil)) rfl) pda_nil)) rfl)
      (pdss_cons (pds_if (pdt_w (pdw_or (t_cmp (c_ne hr.units) (b_repr hg hr.units (by rfl) T.n_repr (pda_cons (pd_call G_is_as_hard rfl rfl rfl rfl rfl hg hr (by rfl) T.g_is_as_hard T.k_is_as_hard T.b_is_as_hard (takes_of rfl rfl rfl rfl) (pda_cons (pd_var (pv 0)) (pda_cons (pd_var (pv 1)) pda_nil)) rfl) pda_nil)) (b_repr hg hr.units (by rfl) T.n_repr (pda_cons (pd_var (pv 2)) pda_nil)) (nomark _)) (pdw_or1 (t_cmp (c_ne hr.units) (pd_callK G_is_as_hard rfl rfl rfl rfl rfl hg hr (by rfl) T.g_is_as_hard T.k_is_as_hard T.w_is_as_hard_10 (perm_D (is := [1, 0]) rfl (by decide)) (takes_of rfl rfl rfl rfl) (pdk_cons (pd_var (pv 1)) (pdk_cons (pd_var (pv 0)) pdk_nil)) rfl) (pd_var (pv 2)) (nomark _)))))
        (pdss_one (pds_ret pd_bl))
        pdss_nil)
      (pdss_cons (pds_if (pdt_val (pd_var (pv 2)))
        (pdss_one (pds_ret (pd_and (p_cmp c_is (pd_var (pv 3)) pd_non (nomark _)) (pd_one (p_cmp c_is (pd_callK G_telling_case rfl rfl rfl rfl rfl hg (hr.mono (by decide)) (by rfl) T.g_telling_case T.k_telling_case T.w_telling_case_10 (perm_D (is := [1, 0]) rfl (by decide)) (takes_of rfl rfl rfl rfl) (pdk_cons (pd_var (pv 1)) (pdk_cons (pd_var (pv 0)) pdk_nil)) rfl) pd_non (nomark _))))))
        pdss_nil)
      (pdss_cons (pds_setN (i := 4) sc_law_pair_right.nd rfl (.inl rfl) (pd_callK G_telling_case rfl rfl rfl rfl rfl hg (hr.mono (by decide)) (by rfl) T.g_telling_case T.k_telling_case T.w_telling_case_10 (perm_D (is := [1, 0]) rfl (by decide)) (takes_of rfl rfl rfl rfl) (pdk_cons (pd_var (pv 1)) (pdk_cons (pd_var (pv 0)) pdk_nil)) rfl))
      (pdss_one (pds_ret (pd_and (pd_call G_law_is_case rfl rfl rfl rfl rfl hg (hr.mono (by decide)) (by rfl) T.g_law_is_case T.k_law_is_case T.b_law_is_case (takes_of rfl rfl rfl rfl) (pda_cons (pd_var (pv 3)) (pda_cons (pd_var (pv 0)) (pda_cons (pd_var (pv 1)) pda_nil))) rfl) (pd_and (pd_own (nomark _) G_Table_eq rfl rfl rfl rfl rfl hg (hr.mono (by decide)) T.h_Table_eq T.b_Table_eq (p_ix (pd_var (pv 4)) pd_int (fun _ _ => rfl)) (p_ix (pd_var (pv 3)) pd_int (fun _ _ => rfl))) (pd_one (p_cmp (c_eq hr.units) (p_ix (pd_var (pv 4)) pd_int (fun _ _ => rfl)) (p_ix (pd_var (pv 3)) pd_int (fun _ _ => rfl)) (nomark _)))))))))))⟩

abbrev N_law_bad_right : List Str := ["_law_heap_here", "_law_good", "_law_value", "_law_pair"]
theorem sc_law_bad_right : FnScope N_law_bad_right ["_law_heap_here"] (defScope s_law_bad_right) := ⟨rfl, rfl, rfl, by decide +kernel, rfl, by decide +kernel, by decide +kernel⟩
-- slots: 0:_law_heap_here 1:_law_good 2:_law_value 3:_law_pair
def D_law_bad_right (c : Cl) : DS := (dSeq (dAsg (dCallD (F_law_some_batches c) 0 dNil) (tgName 1))
  (dSeq (dFor (dItA (dSrc (dFzE (dCall (F_law_bad_batches c) dNil)))) (tgName 2) (dFor (dItA (dSrc (dLst (dCons (dTup (dCons (dVar 2) (dCons (dVar 1) dNil))) (dCons (dTup (dCons (dVar 1) (dCons (dVar 2) dNil))) (dCons (dTup (dCons (dVar 2) (dCons (dC .non) dNil))) dNil)))))) (tgName 3) (dSeq (dIfS (dTest (dOp neF (dTold nt_law_told (xh_law_told c) (dCall (F_is_as_hard c) (dCalm (dCons (dOp ixF (dVar 3) (dC (.int 0))) (dCons (dOp ixF (dVar 3) (dC (.int 1))) dNil))))) (dTup (dCons (dC (.str "number")) (dCons (dC (.str "batches")) dNil))))) (dRet (dC (.bl false))) dNext)
  (dIfS (dTest (dOp neF (dTold nt_law_told (xh_law_told c) (dCall (F_telling_case c) (dCalm (dCons (dOp ixF (dVar 3) (dC (.int 0))) (dCons (dOp ixF (dVar 3) (dC (.int 1))) dNil))))) (dTup (dCons (dC (.str "number")) (dCons (dC (.str "batches")) dNil))))) (dRet (dC (.bl false))) dNext))))
  (dRet (dC (.bl true)))))
@[irreducible] def F_law_bad_right (c : Cl) : Fn := dDef 4 (D_law_bad_right c)
theorem ok_law_bad_right (T : Txt K mg) (B : Tbs T base) : FnE PW w K mg base 11 T.a_law_bad_right T.d_law_bad_right ["_law_heap_here"] (spG K 1 (F_law_bad_right T.c)) := by
  unfold F_law_bad_right
  obtain ⟨_, L_law_told⟩ := tl_law_told T
  have G_law_some_batches := ok_law_some_batches (w := w) (base := base) T
  have G_law_bad_batches := ok_law_bad_batches (w := w) (base := base) T
  have G_is_as_hard := ok_is_as_hard (w := w) (base := base) T
  have G_telling_case := ok_telling_case (w := w) (base := base) T
  exact fn_den T.F_law_bad_right sc_law_bad_right rfl fun cdv hcv A outer s H E hg hr => ⟨_, (pdss_cons (pds_setN (i := 1) sc_law_bad_right.nd rfl (.inl rfl) (pd_callD G_law_some_batches rfl rfl rfl rfl rfl hg (hr.mono (by decide)) (by rfl) T.g_law_some_batches T.k_law_some_batches T.b_law_some_batches (takes_of rfl rfl rfl rfl) (pd_var (pv 0)) pda_nil rfl))
      (pdss_cons (pds_for (pdi_any rfl (pl_val (PD.fzE (pd_call0 G_law_bad_batches rfl rfl rfl rfl rfl hg (hr.mono (by decide)) (by rfl) T.g_law_bad_batches T.k_law_bad_batches T.b_law_bad_batches (takes_of rfl rfl rfl rfl))))) (pdg_n (i := 2) sc_law_bad_right.nd rfl (.inl rfl))
        (pdss_one (pds_for (pdi_any rfl (pl_val (pd_lst (pda_cons (pd_tup (pda_cons (pd_var (pv 2)) (pda_cons (pd_var (pv 1)) pda_nil))) (pda_cons (pd_tup (pda_cons (pd_var (pv 1)) (pda_cons (pd_var (pv 2)) pda_nil))) (pda_cons (pd_tup (pda_cons (pd_var (pv 2)) (pda_cons pd_non pda_nil))) pda_nil)))))) (pdg_n (i := 3) sc_law_bad_right.nd rfl (.inr rfl))
        (pdss_cons (pds_if (t_cmp (c_ne hr.units) (pd_told L_law_told rfl rfl hr (by rfl) T.g_law_told B.tb_law_bad_right (hcv.symm.trans T.cd_law_bad_right) T.tm_law_bad_right T.tu_law_bad_right (LamX.lamS_by (sc := defScope s_law_bad_right) (by decide +kernel)) rfl (fun _ _ _ _ _ => rfl) (fun A2 o2 s2 H2 E2 f2 c2 hgu hr => have hg := hgu.trans hg; (pdf_fn G_is_as_hard rfl rfl rfl rfl rfl hg hr (by rfl) T.g_is_as_hard T.k_is_as_hard T.b_is_as_hard takes_lam (pda_cons (p_ix (pd_var (pv 3)) pd_int (fun _ _ => rfl)) (pda_cons (p_ix (pd_var (pv 3)) pd_int (fun _ _ => rfl)) pda_nil)) rfl))) (pd_tup (pda_cons pd_str (pda_cons pd_str pda_nil))) (nomark _))
        (pdss_one (pds_ret pd_bl))
        pdss_nil)
      (pdss_one (pds_if (t_cmp (c_ne hr.units) (pd_told L_law_told rfl rfl (hr.mono (by decide)) (by rfl) T.g_law_told B.tb_law_bad_right (hcv.symm.trans T.cd_law_bad_right) T.tm_law_bad_right T.tu_law_bad_right (LamX.lamS_by (sc := defScope s_law_bad_right) (by decide +kernel)) rfl (fun _ _ _ _ _ => rfl) (fun A2 o2 s2 H2 E2 f2 c2 hgu hr => have hg := hgu.trans hg; (pdf_fn G_telling_case rfl rfl rfl rfl rfl hg hr (by rfl) T.g_telling_case T.k_telling_case T.b_telling_case takes_lam (pda_cons (p_ix (pd_var (pv 3)) pd_int (fun _ _ => rfl)) (pda_cons (p_ix (pd_var (pv 3)) pd_int (fun _ _ => rfl)) pda_nil)) rfl))) (pd_tup (pda_cons pd_str (pda_cons pd_str pda_nil))) (nomark _))
        (pdss_one (pds_ret pd_bl))
        pdss_nil))) (passes_of rfl) rfl)) (passes_of rfl) rfl)
      (pdss_one (pds_ret pd_bl))))⟩
end
end Ge

set_option maxHeartbeats 1000000
namespace Ge
open PySem PySem.Spec PyProof.Rows L2 Sd
section
variable [HasT] {w : World} {K : PySem.W.Frag} {mg : Str → Option Value} {base : Heap}
abbrev N_law : List Str := ["_law_script", "_law_heap_here", "_law_turn", "_law_one", "_law_other", "_law_near"]
theorem sc_law : FnScope N_law ["_law_script"] (defScope s_law) := ⟨rfl, rfl, rfl, by decide +kernel, rfl, by decide +kernel, by decide +kernel⟩
-- slots: 0:_law_script 1:_law_heap_here 2:_law_turn 3:_law_one 4:_law_other 5:_law_near
def D_law (c : Cl) : DS := (dSeq (dFor (dItR1 (dC (.int 3))) (tgName 2) (dSeq (dFz 1 (dPar 3 4 (dCons (dCallD (F_law_some_batches c) 1 dNil) (dCons (dCallD (F_law_some_batches c) 1 dNil) dNil))))
  (dIfS (dOr (dNot (dTest (dCall (F_law_pair_right c) (dCons (dVar 3) (dCons (dVar 4) dNil))))) (dNot (dTest (dCall (F_law_pair_right c) (dCons (dVar 4) (dCons (dVar 3) dNil)))))) (dRet (dC (.bl false))) dNext)))
  (dSeq (dFz 1 (dAsg (dCallD (F_law_pick c) 1 (dCons (dLst (dCons (dCB tupF (dCons (dCallD (F_law_mixed c) 1 (dCons (dVar 3) dNil)) dNil)) (dCons (dOp addF (dVar 3) (dOp mulF (dTup (dCons (dC (.int 1)) dNil)) (dCB intF (dCons (dOp ltF (dCB lenF (dCons (dVar 3) dNil)) (dC (.int 60))) dNil)))) dNil))) dNil)) (tgName 5)))
  (dSeq (dFz 1 (dIfS (dOr (dNot (dTest (dCall (F_law_pair_right c) (dCons (dVar 3) (dCons (dVar 5) dNil))))) (dNot (dTest (dCall (F_law_pair_right c) (dCons (dTup (dCons (dC (.int 10)) dNil)) (dCons (dCallD (F_law_pick c) 1 (dCons (dLst (dCons (dTup (dCons (dC (.int 1)) (dCons (dC (.int 8)) dNil))) (dCons (dTup (dCons (dC (.int 9)) dNil)) (dCons (dTup (dCons (dC (.int 11)) dNil)) (dCons (dTup (dCons (dC (.int 3)) (dCons (dC (.int 2)) dNil))) dNil))))) dNil)) dNil)))))) (dRet (dC (.bl false))) dNext))
  (dSeq (dFz 1 (dIfS (dOr (dNot (dTest (dCallD (F_law_bad_right c) 1 dNil))) (dOr (dNot (dTest (dCall (F_is_as_hard c) (dCons (dTup (dCons (dC (.int 3)) (dCons (dC (.int 2)) dNil))) (dCons (dTup (dCons (dC (.int 2)) (dCons (dC (.int 3)) dNil))) dNil))))) (dTest (dCall (F_is_as_hard c) (dCons (dTup (dCons (dC (.int 2)) (dCons (dC (.int 3)) dNil))) (dCons (dTup (dCons (dC (.int 3)) (dCons (dC (.int 2)) dNil))) dNil)))))) (dRet (dC (.bl false))) dNext))
  (dRet (dAndV (dOp isNF (dCall (F_telling_case c) (dCons (dTup (dCons (dC (.int 11)) dNil)) (dCons (dTup (dCons (dC (.int 1)) (dCons (dC (.int 10)) dNil))) dNil))) (dC .non)) (dAndV (dCall (F_is_as_hard c) (dCons (dOp mulF (dTup (dCons (dC (.int 1)) dNil)) (dC (.int 5))) (dCons (dOp mulF (dTup (dCons (dC (.int 100)) dNil)) (dC (.int 60))) dNil))) (dNotV (dCall (F_is_as_hard c) (dCons (dTup dNil) (dCons (dTup (dCons (dC (.int 1)) dNil)) dNil)))))))))))
abbrev lawLevel : Nat := 12
abbrev lawSlots : Nat := 4
theorem ok_law (T : Txt K mg) (B : Tbs T base) {f : Addr} {fd : FuncData} (F : Fun K "law" "law" s_law f fd) (hD : ∀ ns : List Int, ns.length ≤ 63 → SaysTrue (lawG lawSlots (D_law T.c) ns)) : FnE PW w K mg base lawLevel f fd ["_law_script"] (spLaw K) := by
  have G_law_some_batches := ok_law_some_batches (w := w) (base := base) T
  have G_law_pair_right := ok_law_pair_right (w := w) (base := base) T
  have G_law_pick := ok_law_pick (w := w) (base := base) T
  have G_law_mixed := ok_law_mixed (w := w) (base := base) T
  have G_law_bad_right := ok_law_bad_right (w := w) (base := base) T B
  have G_is_as_hard := ok_is_as_hard (w := w) (base := base) T
  have G_telling_case := ok_telling_case (w := w) (base := base) T
  exact law_den F sc_law rfl rfl (fun cdv hcv A outer s H E hg hr => ⟨_, _, ps_set (i := 1) sc_law.nd rfl (.inl rfl) (pe_callE (FnE.of0 (ok_heap (P := PW) (w := w) (base := base) T) fun _ _ _ _ h => h) hg (hr.mono (by decide)) (by rfl) T.g_law_heap T.k_law_heap T.b_law_heap (takes_of rfl rfl rfl rfl) (pa_cons (pv 0) pa_nil)), (pdss_cons (pds_for (pdi_r1 pd_int (by rfl) T.n_range) (pdg_n (i := 2) sc_law.nd rfl (.inl rfl))
        (pdss_cons (pds_fz 1 (pds_par2 (i := 3) (j := 4) rfl sc_law.nd rfl rfl (by decide) rfl rfl (pda_cons (pd_callD G_law_some_batches rfl rfl rfl rfl rfl hg (hr.mono (by decide)) (by rfl) T.g_law_some_batches T.k_law_some_batches T.b_law_some_batches (takes_of rfl rfl rfl rfl) (pd_var (pv 1)) pda_nil rfl) (pda_cons (pd_callD G_law_some_batches rfl rfl rfl rfl rfl hg (hr.mono (by decide)) (by rfl) T.g_law_some_batches T.k_law_some_batches T.b_law_some_batches (takes_of rfl rfl rfl rfl) (pd_var (pv 1)) pda_nil rfl) pda_nil)) rfl))
      (pdss_one (pds_if (pdt_w (pdw_or (pdt_not (pdt_val (pd_call G_law_pair_right rfl rfl rfl rfl rfl hg (hr.mono (by decide)) (by rfl) T.g_law_pair_right T.k_law_pair_right T.b_law_pair_right (takes_of rfl rfl rfl rfl) (pda_cons (pd_var (pv 3)) (pda_cons (pd_var (pv 4)) pda_nil)) rfl))) (pdw_or1 (pdt_not (pdt_val (pd_call G_law_pair_right rfl rfl rfl rfl rfl hg (hr.mono (by decide)) (by rfl) T.g_law_pair_right T.k_law_pair_right T.b_law_pair_right (takes_of rfl rfl rfl rfl) (pda_cons (pd_var (pv 4)) (pda_cons (pd_var (pv 3)) pda_nil)) rfl))))))
        (pdss_one (pds_ret pd_bl))
        pdss_nil))) (passes_of rfl) rfl)
      (pdss_cons (pds_fz 1 (pds_setN (i := 5) sc_law.nd rfl (.inl rfl) (pd_callD G_law_pick rfl rfl rfl rfl rfl hg (hr.mono (by decide)) (by rfl) T.g_law_pick T.k_law_pick T.b_law_pick (takes_of rfl rfl rfl rfl) (pd_var (pv 1)) (pda_cons (pd_lst (pda_cons (b_tuple (by rfl) T.n_tuple (pda_cons (pd_callD G_law_mixed rfl rfl rfl rfl rfl hg (hr.mono (by decide)) (by rfl) T.g_law_mixed T.k_law_mixed T.b_law_mixed (takes_of rfl rfl rfl rfl) (pd_var (pv 1)) (pda_cons (pd_var (pv 3)) pda_nil) rfl) pda_nil)) (pda_cons (p_add (pd_var (pv 3)) (p_mul (pd_tup (pda_cons pd_int pda_nil)) (b_int (by rfl) T.n_int (pda_cons (p_cmp c_lt (b_len (by rfl) T.n_len (pda_cons (pd_var (pv 3)) pda_nil)) pd_int (nomark _)) pda_nil)))) pda_nil))) pda_nil) rfl)))
      (pdss_cons (pds_fz 1 (pds_if (pdt_w (pdw_or (pdt_not (pdt_val (pd_call G_law_pair_right rfl rfl rfl rfl rfl hg (hr.mono (by decide)) (by rfl) T.g_law_pair_right T.k_law_pair_right T.b_law_pair_right (takes_of rfl rfl rfl rfl) (pda_cons (pd_var (pv 3)) (pda_cons (pd_var (pv 5)) pda_nil)) rfl))) (pdw_or1 (pdt_not (pdt_val (pd_call G_law_pair_right rfl rfl rfl rfl rfl hg (hr.mono (by decide)) (by rfl) T.g_law_pair_right T.k_law_pair_right T.b_law_pair_right (takes_of rfl rfl rfl rfl) (pda_cons (pd_tup (pda_cons pd_int pda_nil)) (pda_cons (pd_callD G_law_pick rfl rfl rfl rfl rfl hg (hr.mono (by decide)) (by rfl) T.g_law_pick T.k_law_pick T.b_law_pick (takes_of rfl rfl rfl rfl) (pd_var (pv 1)) (pda_cons (pd_lst (pda_cons (pd_tup (pda_cons pd_int (pda_cons pd_int pda_nil))) (pda_cons (pd_tup (pda_cons pd_int pda_nil)) (pda_cons (pd_tup (pda_cons pd_int pda_nil)) (pda_cons (pd_tup (pda_cons pd_int (pda_cons pd_int pda_nil))) pda_nil))))) pda_nil) rfl) pda_nil)) rfl))))))
        (pdss_one (pds_ret pd_bl))
        pdss_nil))
      (pdss_cons (pds_fz 1 (pds_if (pdt_w (pdw_or (pdt_not (pdt_val (pd_callD G_law_bad_right rfl rfl rfl rfl rfl hg hr (by rfl) T.g_law_bad_right T.k_law_bad_right T.b_law_bad_right (takes_of rfl rfl rfl rfl) (pd_var (pv 1)) pda_nil rfl))) (pdw_or (pdt_not (pdt_val (pd_call G_is_as_hard rfl rfl rfl rfl rfl hg (hr.mono (by decide)) (by rfl) T.g_is_as_hard T.k_is_as_hard T.b_is_as_hard (takes_of rfl rfl rfl rfl) (pda_cons (pd_tup (pda_cons pd_int (pda_cons pd_int pda_nil))) (pda_cons (pd_tup (pda_cons pd_int (pda_cons pd_int pda_nil))) pda_nil)) rfl))) (pdw_or1 (pdt_val (pd_call G_is_as_hard rfl rfl rfl rfl rfl hg (hr.mono (by decide)) (by rfl) T.g_is_as_hard T.k_is_as_hard T.b_is_as_hard (takes_of rfl rfl rfl rfl) (pda_cons (pd_tup (pda_cons pd_int (pda_cons pd_int pda_nil))) (pda_cons (pd_tup (pda_cons pd_int (pda_cons pd_int pda_nil))) pda_nil)) rfl))))))
        (pdss_one (pds_ret pd_bl))
        pdss_nil))
      (pdss_one (pds_ret (pd_and (p_cmp c_is (pd_call G_telling_case rfl rfl rfl rfl rfl hg (hr.mono (by decide)) (by rfl) T.g_telling_case T.k_telling_case T.b_telling_case (takes_of rfl rfl rfl rfl) (pda_cons (pd_tup (pda_cons pd_int pda_nil)) (pda_cons (pd_tup (pda_cons pd_int (pda_cons pd_int pda_nil))) pda_nil)) rfl) pd_non (nomark _)) (pd_and (pd_call G_is_as_hard rfl rfl rfl rfl rfl hg (hr.mono (by decide)) (by rfl) T.g_is_as_hard T.k_is_as_hard T.b_is_as_hard (takes_of rfl rfl rfl rfl) (pda_cons (p_mul (pd_tup (pda_cons pd_int pda_nil)) pd_int) (pda_cons (p_mul (pd_tup (pda_cons pd_int pda_nil)) pd_int) pda_nil)) rfl) (pd_one (pd_not (pd_call G_is_as_hard rfl rfl rfl rfl rfl hg (hr.mono (by decide)) (by rfl) T.g_is_as_hard T.k_is_as_hard T.b_is_as_hard (takes_of rfl rfl rfl rfl) (pda_cons (pd_tup pda_nil) (pda_cons (pd_tup (pda_cons pd_int pda_nil)) pda_nil)) rfl)))))))))))⟩) hD
end
end Ge

set_option maxHeartbeats 400000
namespace Ge
open PySem PySem.Spec PyProof.Rows L2 Sd
/-! ### evaluating -/
section
variable {α β : Type} {N : α → Prop} {E : Exn → Prop} {ρ : List Sl} {s t : Sl} {l : List Sl} {n i j : Nat} {a b : DE} {x y : Int} {ds es : List Da} {os : List Ow} {u v : Str} {d : Da} {c : Bool}
theorem v_pure {a : α} : (G.pure a).good N E = N a := rfl
theorem v_fail : (G.fail : G α).good N E = False := rfl
theorem v_bind {g : G β} {f : β → G α} : (g.bind f).good N E = g.good (fun a => (f a).good N E) E := propext G.good_bind
theorem v_pb {a : α} {f : α → G β} : (G.pure a).bind f = f a := rfl
theorem v_fb {f : α → G β} : (G.fail).bind f = .fail := rfl
theorem v_bb {γ : Type} {g : G α} {f : α → G β} {h : β → G γ} : (g.bind f).bind h = g.bind fun a => (f a).bind h := G.bind_assoc g f h
theorem v_get0 : get (s :: l) 0 = s := rfl
theorem v_getS : get (s :: l) (n + 1) = get l n := rfl
theorem v_rdd : rd (.val (.fz d)) = .pure (.dat d) := rfl
theorem v_rdl : rd (.val (.ol os)) = .pure (.view (.ol os)) := rfl
theorem v_rds : rd .src = .pure .src := rfl
theorem v_opt {a : α} : optG (some a) = .pure a := rfl
theorem v_optn : optG (none : Option α) = .fail := rfl
theorem v_var : dVar i ρ = rd (get ρ i) := rfl
theorem v_c : dC d ρ = .pure (.dat d) := rfl
theorem v_op {f : Op2} : dOp f a b ρ = (a ρ).bind fun x => (b ρ).bind fun y => optG (f x y) := rfl
theorem v_un {f : Sl → Option Sl} : dUn f a ρ = (a ρ).bind fun x => optG (f x) := rfl
theorem v_nil : dNil ρ = .pure [] := rfl
theorem v_cons {r : DA} : dCons a r ρ = (a ρ).bind fun x => (r ρ).bind fun l => .pure (x :: l) := rfl
theorem v_cb {f : List Sl → Option Sl} {r : DA} : dCB f r ρ = (r ρ).bind fun l => optG (f l) := rfl
theorem v_test : dTest a ρ = (a ρ).bind boolG := rfl
theorem v_boolG : boolG (.val (.fz (.bl c))) = .pure c := rfl
theorem v_and {p q : DB} : dAnd p q ρ = (p ρ).bind fun x => if x = true then q ρ else .pure false := rfl
theorem v_or {p q : DB} : dOr p q ρ = (p ρ).bind fun x => if x = true then .pure true else q ρ := rfl
theorem v_not {p : DB} : dNot p ρ = (p ρ).bind fun x => .pure (!x) := rfl
theorem v_if {p : DB} : dIf p a b ρ = (p ρ).bind fun x => if x = true then a ρ else b ρ := rfl
theorem v_tup {r : DA} : dTup r ρ = (r ρ).bind fun l => optG (match ows l with | some os => if small os.length then some (.dat (.tup (frzs os))) else none | none => none) := rfl
theorem v_lst {r : DA} : dLst r ρ = (r ρ).bind fun l => optG (match ows l with | some os => if small os.length then some (.val (.ol os)) else none | none => none) := rfl
theorem v_owsn : ows [] = some [] := rfl
theorem v_owsc {o : Ow} {r : List Sl} : ows (.val o :: r) = match ows r with | some os => some (o :: os) | none => none := rfl
theorem v_frzn : frzs [] = [] := rfl
theorem v_frzc {o : Ow} {r : List Ow} : frzs (o :: r) = o.frz :: frzs r := rfl
theorem v_fz : (Ow.fz d).frz = d := rfl
theorem v_seq {p q : DS} : dSeq p q ρ = (p ρ).bind fun o => match o with | .nx ρ' => q ρ' | o => .pure o := rfl
theorem v_next : dNext ρ = .pure (.nx ρ) := rfl
theorem v_brk : dBreak ρ = .pure (.bk ρ) := rfl
theorem v_cont : dCont ρ = .pure (.ct ρ) := rfl
theorem v_drop : dDrop a ρ = (a ρ).bind fun _ => .pure (.nx ρ) := rfl
theorem v_ret : dRet a ρ = (a ρ).bind fun s => .pure (.rt s) := rfl
theorem v_retn : dRetN ρ = .pure (.rt (.dat .non)) := rfl
theorem v_ifs {p : DB} {q r : DS} : dIfS p q r ρ = (p ρ).bind fun x => if x = true then q ρ else r ρ := rfl
theorem v_dfz {p : DS} : dFz i p ρ = p (ρ.set i (frzSl (get ρ i))) := rfl
theorem v_gone {p : DS} : dGone i p ρ = p (ρ.set i .no) := rfl
theorem v_tgn {o : Ow} : tgName i ρ (.val o) = .pure (ρ.set i (.val o)) := rfl
theorem v_tgnil : tgNil ρ [] = .pure ρ := rfl
theorem v_tgcons {p : DT} {q : DTs} {r : List Da} : tgCons p q ρ (d :: r) = (p ρ (.dat d)).bind fun ρ' => q ρ' r := rfl
theorem v_tgtup {q : DTs} : tgTup n q ρ (.val (.fz (.tup ds))) = if ds.length = n then q ρ ds else .fail := rfl
theorem v_asg {p : DT} : dAsg a p ρ = (a ρ).bind fun s => (p ρ s).bind fun ρ' => .pure (.nx ρ') := rfl
theorem v_setx {p : DX} : dSetX p i ρ = (p ρ).bind fun q => (tgName i q.2 q.1).bind fun ρ' => .pure (.nx ρ') := rfl
theorem v_dropx {p : DX} : dDropX p ρ = (p ρ).bind fun q => .pure (.nx q.2) := rfl
theorem v_x : dX a ρ = (a ρ).bind fun s => .pure (s, ρ) := rfl
theorem v_isol : isOl (.val (.ol os)) = true := rfl
theorem v_app {p : DX} : dApp i p ρ = if isOl (get ρ i) = true then (p ρ).bind (appG i) else .fail := rfl
theorem v_for {it : DI} {p : DT} {q : DS} : dFor it p q ρ = (it ρ).bind fun xs => forG p q xs ρ := rfl
theorem v_call {F : Fn} {r : DA} : dCall F r ρ = (r ρ).bind fun l => match ows l with | some os => F ((frzs os).map Sl.dat) | none => .fail := rfl
theorem v_issrc : isSrc .src = true := rfl
theorem v_callD {F : Fn} {r : DA} : dCallD F i r ρ = if isSrc (get ρ i) = true then (r ρ).bind fun l => match ows l with | some os => F (.src :: (frzs os).map Sl.dat) | none => .fail else .fail := rfl
theorem v_callK {F : Fn} {r : DA} {g : List Da → List Da} : dCallK F g r ρ = (r ρ).bind fun l => match ows l with | some os => F ((g (frzs os)).map Sl.dat) | none => .fail := rfl
theorem v_par {r : DA} {s t : Sl} : dPar i j r ρ = (r ρ).bind fun l => match l with
  | [x, y] => (tgName i ρ x).bind fun ρ1 => (tgName j ρ1 y).bind fun ρ2 => .pure (.nx ρ2) | _ => .fail := rfl
theorem v_retv {o : Ow} (h : get ρ i = .val o) : dRetV i ρ = .pure (.rt (.val o)) := by unfold dRetV; rw [h]
/-! operations -/
theorem v_add : addF (.val (.fz (.int x))) (.val (.fz (.int y))) = some (.dat (.int (x + y))) := rfl
theorem v_sub : subF (.val (.fz (.int x))) (.val (.fz (.int y))) = some (.dat (.int (x - y))) := rfl
theorem v_lt : ltF (.val (.fz (.int x))) (.val (.fz (.int y))) = some (.dat (.bl (decide (x < y)))) := rfl
theorem v_le : leF (.val (.fz (.int x))) (.val (.fz (.int y))) = some (.dat (.bl (decide (x ≤ y)))) := rfl
theorem v_gt : gtF (.val (.fz (.int x))) (.val (.fz (.int y))) = some (.dat (.bl (decide (y < x)))) := rfl
theorem v_ge : geF (.val (.fz (.int x))) (.val (.fz (.int y))) = some (.dat (.bl (decide (y ≤ x)))) := rfl
theorem v_lts : ltF (.val (.fz (.str u))) (.val (.fz (.str v))) = some (.dat (.bl (decide (u.cps.toList < v.cps.toList)))) := rfl
theorem v_len_t : lenF [.val (.fz (.tup ds))] = some (.dat (.int ds.length)) := rfl
theorem v_len_l : lenF [.val (.fz (.lst ds))] = some (.dat (.int ds.length)) := rfl
theorem allFz_len : ∀ {os : List Ow} {ds : List Da}, allFz os = some ds → ds.length = os.length
  | [], ds, h => by
    cases h
    rfl
  | o :: os, ds, h => by
    unfold allFz at h
    split at h
    · cases ‹_ = []›
    · rename_i e
      cases e
      split at h
      · cases h
        rename_i hl
        rw [List.length_cons, List.length_cons, allFz_len hl]
      · cases h
    · cases h
theorem v_len_f : lenF [.val (.ol (ds.map .fz))] = some (.dat (.int ds.length)) := by
  have h : (Sl.val (.ol (ds.map Ow.fz))).items = some ds := allFz_map ds
  unfold lenF one
  dsimp only
  rw [h]
theorem v_len_v : lenF [.view (.ol os)] = some (.dat (.int os.length)) := by
  unfold lenF one
  dsimp only
  cases h : (Sl.view (.ol os)).items with
  | none => rfl
  | some ds => 
    have h : allFz os = some ds := h
    dsimp only
    rw [allFz_len h]
theorem v_len_sc {ns : List Int} : lenF [.val (.fz (.scr ns))] = some (.dat (.int ns.length)) := rfl
theorem v_abs : absF [.val (.fz (.int x))] = some (.dat (.int (if x < 0 then -x else x))) := rfl
theorem v_int : intF [.val (.fz (.int x))] = some (.dat (.int x)) := rfl
theorem v_intb : intF [.val (.fz (.bl c))] = some (.dat (.int (if c = true then 1 else 0))) := rfl
theorem v_tupf : tupF [.val (.ol (ds.map .fz))] = some (.dat (.tup ds)) := by
  have h : (Sl.val (.ol (ds.map Ow.fz))).lds = some ds := allFz_map ds
  unfold tupF one
  dsimp only
  rw [h]
theorem v_ixt : ixF (.val (.fz (.tup ds))) (.val (.fz (.int x))) = match atI ds x with | some d => some (.dat d) | none => none := rfl
theorem v_ixl : ixF (.val (.fz (.lst ds))) (.val (.fz (.int x))) = match atI ds x with | some d => some (.dat d) | none => none := rfl
theorem v_cut {lo hi : Option Int} : cutF (.val (.fz (.tup ds))) lo hi = some (.dat (.tup (cutD ds lo hi))) := rfl
theorem v_sl {f : SlF} {p q : DO} : dSl f a p q ρ = (a ρ).bind fun s => (p ρ).bind fun l => (q ρ).bind fun h => optG (f s l h) := rfl
theorem v_nopart : dNoPart ρ = .pure none := rfl
theorem v_part : dPart a ρ = (a ρ).bind intO := rfl
theorem v_into : intO (.val (.fz (.int x))) = .pure (some x) := rfl
theorem v_fld {C : Addr} {f : Str} {ns : List Str} : dFld C f a ρ = (a ρ).bind fun s => optG (fldF C f s) := rfl
theorem v_fldo {C : Addr} {f : Str} {ns : List Str} : fldF C f (.val (.fz (.obj C ns ds))) = match luF ns ds f with | some d => some (.dat d) | none => none := by
  simp only [fldF, if_true]
  try (cases luF ns ds f <;> rfl)
/-! ### walks, loops, displays with for -/
theorem v_ita {r : DL} : dItA r ρ = (r ρ).bind fun p => .pure p.2 := rfl
theorem v_enu {r : DL} : dItEnu r ρ = (r ρ).bind fun p => .pure (enuD p.2) := rfl
theorem v_srcv : dSrcV i ρ = optG (sqD (get ρ i)) := rfl
theorem v_src : dSrc a ρ = (a ρ).bind fun s => optG (sqD s) := rfl
theorem v_sqt : sqD (.val (.fz (.tup ds))) = some (true, ds) := rfl
theorem v_sql : sqD (.val (.fz (.lst ds))) = some (false, ds) := rfl
theorem v_sqf : sqD (.val (.ol (ds.map .fz))) = some (false, ds) := by
  show (match allFz (ds.map .fz) with | some ds => some (false, ds) | none => none) = _
  rw [allFz_map]
theorem v_r1 (h : smallI x = true) {a : DE} (ha : a ρ = .pure (.dat (.int x))) : dItR1 a ρ = .pure (rngD 0 x) := by
  unfold dItR1
  rw [ha]
  show (if smallI x = true then _ else _) = _
  rw [if_pos h]
/-- a loop: what holds of the slots ahead of each turn -/
theorem for_good {p : DT} {q : DS} {NO : Out → Prop} {xs : List Da} (I : Nat → List Sl → Prop) (h0 : I 0 ρ)
    (h : ∀ k z ρ1, xs[k]? = some z → I k ρ1 → (p ρ1 (.dat z)).good (fun ρ2 => (q ρ2).good (fun o => match o with | .nx ρ3 => I (k + 1) ρ3 | .ct ρ3 => I (k + 1) ρ3 | .bk ρ3 => NO (.nx ρ3) | .rt s => NO (.rt s)) E) E)
    (he : ∀ ρ1, I xs.length ρ1 → NO (.nx ρ1)) : (forG p q xs ρ).good NO E := by
  induction xs generalizing ρ I with
  | nil => exact he ρ h0
  | cons z xs ih =>
    unfold forG
    rw [v_bind]
    refine G.good_mono (fun ρ2 k2 => ?_) (fun _ h => h) (h 0 z ρ rfl h0)
    rw [v_bind]
    refine G.good_mono (fun o k3 => ?_) (fun _ h => h) k2
    have go : ∀ ρ3, I 1 ρ3 → (forG p q xs ρ3).good NO E := fun ρ3 h3 => ih (fun k => I (k + 1)) h3 (fun k w ρ1 e i1 => h (k + 1) w ρ1 e i1) fun ρ1 i1 => he ρ1 i1
    cases o with
    | nx ρ3 => exact go ρ3 k3
    | ct ρ3 => exact go ρ3 k3
    | bk ρ3 => exact k3
    | rt s => exact k3
/-- .. where nothing is drawn: it is over, or it returned -/
theorem for_eq {p : DT} {q : DS} {xs : List Da} (I : Nat → List Sl → Prop) (R : Sl → Prop) (h0 : I 0 ρ)
    (h : ∀ k z ρ1, xs[k]? = some z → I k ρ1 → (∃ ρ3, (p ρ1 (.dat z)).bind q = .pure (.nx ρ3) ∧ I (k + 1) ρ3) ∨ ∃ s, (p ρ1 (.dat z)).bind q = .pure (.rt s) ∧ R s) :
    (∃ ρ3, forG p q xs ρ = .pure (.nx ρ3) ∧ I xs.length ρ3) ∨ ∃ s, forG p q xs ρ = .pure (.rt s) ∧ R s := by
  induction xs generalizing ρ I with
  | nil => exact .inl ⟨ρ, rfl, h0⟩
  | cons z xs ih =>
    unfold forG
    rcases h 0 z ρ rfl h0 with ⟨ρ3, e, i1⟩ | ⟨s, e, r⟩
    · rw [← G.bind_assoc, e]
      exact ih (fun k => I (k + 1)) i1 fun k w ρ1 e i1 => h (k + 1) w ρ1 e i1
    · rw [← G.bind_assoc, e]
      exact .inr ⟨s, rfl, r⟩
/-- .. and never returns -/
theorem for_nx {p : DT} {q : DS} {xs : List Da} (I : Nat → List Sl → Prop) (h0 : I 0 ρ)
    (h : ∀ k z ρ1, xs[k]? = some z → I k ρ1 → ∃ ρ3, (p ρ1 (.dat z)).bind q = .pure (.nx ρ3) ∧ I (k + 1) ρ3) : ∃ ρ3, forG p q xs ρ = .pure (.nx ρ3) ∧ I xs.length ρ3 := by
  rcases for_eq I (fun _ => False) h0 (fun k z ρ1 e i => .inl (h k z ρ1 e i)) with h | ⟨_, _, h⟩
  · exact h
  · exact h.elim
theorem lcG_map {γ : Type} {f : Da → G (List Ow)} {g : γ → Da} {r : γ → List Ow} : ∀ {l : List γ}, (∀ z ∈ l, f (g z) = .pure (r z)) → lcG f (l.map g) = .pure (l.map r).flatten
  | [], _ => rfl
  | z :: l, h => by
    rw [List.map_cons]
    unfold lcG
    rw [h z List.mem_cons_self, v_pb, lcG_map fun w m => h w (List.mem_cons_of_mem _ m)]
    rfl
theorem lcG_eq {f : Da → G (List Ow)} {g : Da → List Ow} : ∀ {xs : List Da}, (∀ z ∈ xs, f z = .pure (g z)) → lcG f xs = .pure (xs.map g).flatten
  | [], _ => rfl
  | z :: xs, h => by
    unfold lcG
    rw [h z List.mem_cons_self, v_pb, lcG_eq fun w m => h w (List.mem_cons_of_mem _ m)]
    rfl
/-- a display with for, nothing drawn -/
theorem lc_eq {γ : Type} {it : DI} {p : DT} {tt : DB} {el : DE} {vs : List Nat} {l : List γ} {g : γ → Da} (t : γ → Bool) (r : γ → Da) (hi : it ρ = .pure (l.map g)) (hn : noes ρ vs = true) (hs : l.length ≤ 1000000)
    (h : ∀ z ∈ l, lcE p tt el ρ (g z) = .pure (if t z = true then [.fz (r z)] else [])) : dLc it p tt el vs ρ = .pure (.fresh ((l.filter t).map r)) := by
  unfold dLc
  rw [hi, v_pb, if_pos (by rw [hn, List.length_map]; exact decide_eq_true hs), lcG_map h]
  show G.pure (Sl.val (.ol _)) = G.pure (Sl.val (.ol _))
  congr 3
  clear hi hs h
  induction l with
  | nil => rfl
  | cons z l ih =>
    rw [List.map_cons, List.flatten_cons, ih, List.filter_cons]
    split <;> rfl
/-- .. something drawn, or errors not yet known -/
theorem lcG_good {f : Da → G (List Ow)} {NL : List Ow → Prop} (P : Da → List Ow → Prop) : ∀ {xs : List Da}, (∀ z ∈ xs, (f z).good (P z) E) → (∀ L : List (List Ow), Paired P xs L → NL L.flatten) → (lcG f xs).good NL E
  | [], _, k => k [] .nil
  | z :: xs, h, k => by
    unfold lcG
    rw [v_bind]
    refine G.good_mono (fun a pa => ?_) (fun _ h => h) (h z List.mem_cons_self)
    rw [v_bind]
    exact lcG_good P (fun w m => h w (List.mem_cons_of_mem _ m)) fun L hp => k (a :: L) (.cons pa hp)
end
end Ge

set_option maxHeartbeats 400000
namespace Ge
open PySem PySem.Spec PyProof.Rows L2 Sd
variable [HasT]
theorem v_calm {α : Type} {a : α} : (G.pure a).calm = .pure a := rfl
theorem enu_map {α : Type} (g : α → Da) (l : List α) : enuD (l.map g) = l.zipIdx.map fun p => .tup [.int (p.2 : Nat), g p.1] := by
  unfold enuD
  rw [List.mapIdx_eq_zipIdx_map, List.zipIdx_map, List.map_map]
  rfl
theorem in_ints (x : Int) : ∀ ns : List Int, inV (V.int x) (ns.map V.int) = decide (x ∈ ns) := by
  intro ns
  unfold inV
  induction ns with
  | nil => rfl
  | cons n ns ih =>
    rw [List.map_cons, List.any_cons, ih]
    have : eqV (V.int n) (V.int x) = (n == x) := rfl
    rw [this]
    by_cases e : n = x
    · subst e
      simp
    · rw [show (n == x) = false by simpa using e, Bool.false_or]
      by_cases m : x ∈ ns
      · rw [decide_eq_true m, decide_eq_true (List.mem_cons_of_mem _ m)]
      · rw [decide_eq_false m, decide_eq_false (fun z => (List.mem_cons.mp z).elim (fun w => e w.symm) m)]
theorem flVs_ints : ∀ ns : List Int, flVs (ns.map .int) = some (ns.map V.int)
  | [] => rfl
  | n :: ns => by
    rw [List.map_cons]
    unfold flVs
    rw [flVs_ints ns]
    rfl
theorem inF_ints {x : Int} {ns : List Int} {ds : List Da} (e : ds = ns.map .int) : inF (.val (.fz (.int x))) (.val (.fz (.tup ds))) = some (.dat (.bl (decide (x ∈ ns)))) := by
  subst e
  have h : inB (.dat (.int x)) (.dat (.tup (ns.map .int))) = some (decide (x ∈ ns)) := by
    unfold inB
    dsimp only [flV, Sl.items, Sl.tds]
    rw [flVs_ints]
    dsimp only
    rw [in_ints]
  unfold inF
  rw [h]
theorem lcE_eq {p : DT} {tt : DB} {el : DE} {ρ ρ1 : List Sl} {z d : Da} {c : Bool} (h1 : p ρ (.dat z) = .pure ρ1) (h2 : tt ρ1 = .pure c) (h3 : c = true → el ρ1 = .pure (.dat d)) : lcE p tt el ρ z = .pure (if c = true then [.fz d] else []) := by
  unfold lcE
  rw [h1, v_calm, v_pb, h2, v_calm, v_pb]
  cases c with
  | false => rfl
  | true =>
    show ((el ρ1).calm.bind _) = _
    rw [h3 rfl]
    rfl
theorem zip_filter {α : Type} (t : α → Bool) (ts : List α) : ((ts.zipIdx.filter fun p => t p.1).map fun p => Da.int (p.2 : Nat)) = ((List.range ts.length).filter fun i => match ts[i]? with | some z => t z | none => false).map fun (i : Nat) => Da.int (i : Int) := by
  have key : ∀ (ts : List α) (k : Nat), ((ts.zipIdx k).filter fun p => t p.1).map (fun p => Da.int (p.2 : Nat)) = (((List.range ts.length).filter fun i => match ts[i]? with | some z => t z | none => false).map fun (i : Nat) => Da.int ((i + k : Nat) : Int)) := by
    intro ts
    induction ts with
    | nil => intro k; rfl
    | cons z ts ih =>
      intro k
      rw [List.zipIdx_cons, List.length_cons, List.range_succ_eq_map, List.filter_cons, List.filter_cons, List.filter_map]
      have e := ih (k + 1)
      have tail : List.map (fun (i : Nat) => Da.int ((i + k : Nat) : Int)) (List.map Nat.succ (List.filter ((fun i => match (z :: ts)[i]? with | some z => t z | none => false) ∘ Nat.succ) (List.range ts.length))) = List.map (fun (p : α × Nat) => Da.int (p.2 : Nat)) (List.filter (fun p => t p.1) (ts.zipIdx (k + 1))) := by
        rw [e, List.map_map]
        refine List.map_congr_left fun i _ => ?_
        show Da.int ((i + 1 + k : Nat) : Int) = Da.int ((i + (k + 1) : Nat) : Int)
        rw [Nat.add_right_comm, Nat.add_assoc]
      have h0 : (match (z :: ts)[0]? with | some z => t z | none => false) = t z := rfl
      rw [h0]
      cases hz : t z with
      | true =>
        simp only [if_true, List.map_cons]
        rw [tail, Nat.zero_add]
      | false =>
        simp only [Bool.false_eq_true, if_false]
        exact tail.symm
  have := key ts 0
  simpa using this

/-! ### == of data without truth values -/
mutual
def Da.pl : Da → Bool
  | .non => true | .int _ => true | .str _ => true | .tup ds => pls ds | .lst ds => pls ds | _ => false
def pls : List Da → Bool
  | [] => true
  | d :: r => d.pl && pls r
end
mutual
theorem pl_eqv : ∀ (d e : Da), d.pl = true → e.pl = true → PyData.eqv d.py e.py = true → d = e
  | .non, e, _, h, q => by cases e <;> simp_all [Da.pl, Da.py, PyData.eqv]
  | .int i, e, _, h, q => by cases e <;> simp_all [Da.pl, Da.py, PyData.eqv]
  | .str x, e, _, h, q => by cases e <;> simp_all [Da.pl, Da.py, PyData.eqv]
  | .tup ds, .tup es, h1, h2, q => by
    rw [pls_eqv ds es (by simpa [Da.pl] using h1) (by simpa [Da.pl] using h2) (by simpa [Da.py, PyData.eqv] using q)]
  | .lst ds, .lst es, h1, h2, q => by
    rw [pls_eqv ds es (by simpa [Da.pl] using h1) (by simpa [Da.pl] using h2) (by simpa [Da.py, PyData.eqv] using q)]
  | .tup ds, .non, _, _, q => by simp [Da.py, PyData.eqv] at q
  | .tup ds, .int _, _, _, q => by simp [Da.py, PyData.eqv] at q
  | .tup ds, .str _, _, _, q => by simp [Da.py, PyData.eqv] at q
  | .tup ds, .lst _, _, _, q => by simp [Da.py, PyData.eqv] at q
  | .lst ds, .non, _, _, q => by simp [Da.py, PyData.eqv] at q
  | .lst ds, .int _, _, _, q => by simp [Da.py, PyData.eqv] at q
  | .lst ds, .str _, _, _, q => by simp [Da.py, PyData.eqv] at q
  | .lst ds, .tup _, _, _, q => by simp [Da.py, PyData.eqv] at q
  | _, .bl _, _, h, _ => by simp [Da.pl] at h
  | _, .obj _ _ _, _, h, _ => by simp [Da.pl] at h
  | _, .raw _, _, h, _ => by simp [Da.pl] at h
  | _, .dct _ _, _, h, _ => by simp [Da.pl] at h
  | _, .scr _, _, h, _ => by simp [Da.pl] at h
  | .bl _, _, h, _, _ => by simp [Da.pl] at h
  | .obj _ _ _, _, h, _, _ => by simp [Da.pl] at h
  | .raw _, _, h, _, _ => by simp [Da.pl] at h
  | .dct _ _, _, h, _, _ => by simp [Da.pl] at h
  | .scr _, _, h, _, _ => by simp [Da.pl] at h
theorem pls_eqv : ∀ (ds es : List Da), pls ds = true → pls es = true → PyData.eqvAll (pys ds) (pys es) = true → ds = es
  | [], [], _, _, _ => rfl
  | [], e :: es, _, _, q => by simp [pys, PyData.eqvAll] at q
  | d :: ds, [], _, _, q => by simp [pys, PyData.eqvAll] at q
  | d :: ds, e :: es, h1, h2, q => by
    simp only [pls, Bool.and_eq_true] at h1 h2
    simp only [pys, PyData.eqvAll, Bool.and_eq_true] at q
    rw [pl_eqv d e h1.1 h2.1 q.1, pls_eqv ds es h1.2 h2.2 q.2]
end
theorem eqv_same {n : Nat} {d : Da} (h : d.lays n = true) : PyData.eqv d.py d.py = true := SeqAt.eqv_refl _ (lays_flat n d h).1
theorem eqB_same {d : Da} (h : d.lays 60 = true) (hf : flV d = none) : eqB d d = some true := by
  unfold eqB
  rw [hf]
  dsimp only
  rw [if_pos (by rw [h]; rfl), eqv_same h]
theorem eqB_not {d e : Da} (h : d.lays 60 = true) (h' : e.lays 60 = true) (p : d.pl = true) (p' : e.pl = true) (hf : flV d = none) (ne : d ≠ e) : eqB d e = some false := by
  have k : PyData.eqv d.py e.py = false := by
    cases z : PyData.eqv d.py e.py with
    | true => exact absurd (pl_eqv d e p p' z) ne
    | false => rfl
  unfold eqB
  rw [hf]
  cases flV e <;> (dsimp only; rw [if_pos (by rw [h, h']; rfl), k])
/-- the two sides as data -/
theorem eqF_same {d : Da} {s t : Sl} (hs : s.da = some d) (ht : t.da = some d) (h : d.lays 60 = true) (hf : flV d = none) : eqF s t = some (.dat (.bl true)) := by
  unfold eqF
  rw [hs, ht]
  dsimp only
  rw [eqB_same h hf]
theorem eqF_not {d e : Da} {s t : Sl} (hs : s.da = some d) (ht : t.da = some e) (h : d.lays 60 = true) (h' : e.lays 60 = true) (p : d.pl = true) (p' : e.pl = true) (hf : flV d = none) (ne : d ≠ e) : eqF s t = some (.dat (.bl false)) := by
  unfold eqF
  rw [hs, ht]
  dsimp only
  rw [eqB_not h h' p p' hf ne]
theorem neF_same {d : Da} {s t : Sl} (hs : s.da = some d) (ht : t.da = some d) (h : d.lays 60 = true) (hf : flV d = none) : neF s t = some (.dat (.bl false)) := by
  unfold neF
  rw [hs, ht]
  dsimp only
  rw [eqB_same h hf]
  rfl
theorem neF_not {d e : Da} {s t : Sl} (hs : s.da = some d) (ht : t.da = some e) (h : d.lays 60 = true) (h' : e.lays 60 = true) (p : d.pl = true) (p' : e.pl = true) (hf : flV d = none) (ne : d ≠ e) : neF s t = some (.dat (.bl true)) := by
  unfold neF
  rw [hs, ht]
  dsimp only
  rw [eqB_not h h' p p' hf ne]
  rfl
theorem eqF_int {x y : Int} : eqF (.dat (.int x)) (.dat (.int y)) = some (.dat (.bl (decide (x = y)))) := by
  have e : eqB (.int x) (.int y) = some (decide (x = y)) := by
    show (if scal (V.int x) (V.int y) = true then some (decide (V.int x = V.int y)) else none) = _
    rw [if_pos (show scal (V.int x) (V.int y) = true from rfl), dec_int]
    rfl
  unfold eqF
  show (match eqB (.int x) (.int y) with | some c => some (Sl.dat (.bl c)) | none => none) = _
  rw [e]
theorem neF_int {x y : Int} : neF (.dat (.int x)) (.dat (.int y)) = some (.dat (.bl (!decide (x = y)))) := by
  have e : eqB (.int x) (.int y) = some (decide (x = y)) := by
    show (if scal (V.int x) (V.int y) = true then some (decide (V.int x = V.int y)) else none) = _
    rw [if_pos (show scal (V.int x) (V.int y) = true from rfl), dec_int]
    rfl
  unfold neF
  show (match eqB (.int x) (.int y) with | some c => some (Sl.dat (.bl (!c))) | none => none) = _
  rw [e]
theorem for_go {β : Type} {p : DT} {q : DS} {xs : List Da} {ρ : List Sl} {k : Out → G β} {r : G β} (I : Nat → List Sl → Prop) (h0 : I 0 ρ)
    (h : ∀ k z ρ1, xs[k]? = some z → I k ρ1 → ∃ ρ3, (p ρ1 (.dat z)).bind q = .pure (.nx ρ3) ∧ I (k + 1) ρ3) (he : ∀ ρ3, I xs.length ρ3 → k (.nx ρ3) = r) : (forG p q xs ρ).bind k = r := by
  obtain ⟨ρ3, e, i⟩ := for_nx I h0 h
  rw [e]
  exact he ρ3 i
/-- .. that returns when something is so -/
theorem for_go2 {β : Type} {p : DT} {q : DS} {xs : List Da} {ρ : List Sl} {k : Out → G β} {r : G β} (I : Nat → List Sl → Prop) (R : Sl → Prop) (h0 : I 0 ρ)
    (h : ∀ k z ρ1, xs[k]? = some z → I k ρ1 → (∃ ρ3, (p ρ1 (.dat z)).bind q = .pure (.nx ρ3) ∧ I (k + 1) ρ3) ∨ ∃ s, (p ρ1 (.dat z)).bind q = .pure (.rt s) ∧ R s) (he : ∀ ρ3, I xs.length ρ3 → k (.nx ρ3) = r)
    (hr : ∀ s, R s → k (.rt s) = r) : (forG p q xs ρ).bind k = r := by
  rcases for_eq I R h0 h with ⟨ρ3, e, i⟩ | ⟨s, e, i⟩
  · rw [e]
    exact he ρ3 i
  · rw [e]
    exact hr s i
/-- a display with for and no if -/
theorem lcY {γ : Type} {it : DI} {p : DT} {el : DE} {vs : List Nat} {l : List γ} {g : γ → Da} {ρ : List Sl} (ρ1 : γ → List Sl) (r : γ → Da) (hi : it ρ = .pure (l.map g)) (hn : noes ρ vs = true) (hs : l.length ≤ 1000000)
    (h1 : ∀ z ∈ l, p ρ (.dat (g z)) = .pure (ρ1 z)) (h2 : ∀ z ∈ l, el (ρ1 z) = .pure (.dat (r z))) : dLc it p dYes el vs ρ = .pure (.fresh (l.map r)) := by
  rw [lc_eq (fun _ => true) r hi hn hs fun z m => ?_]
  · rw [List.filter_eq_self.mpr fun _ _ => rfl]
  · exact lcE_eq (c := true) (h1 z m) rfl fun _ => h2 z m
theorem blsD_map {γ : Type} (r : γ → Bool) : ∀ l : List γ, blsD (l.map fun z => .bl (r z)) = some (l.map r)
  | [] => rfl
  | z :: l => by
    rw [List.map_cons]
    unfold blsD
    rw [blsD_map r l]
    rfl
theorem v_all {γ : Type} {l : List γ} {r : γ → Bool} : allF [.fresh (l.map fun z => .bl (r z))] = some (.dat (.bl (l.all r))) := by
  unfold allF one
  dsimp only
  rw [lds_fresh]
  dsimp only
  rw [blsD_map]
  simp
theorem v_any {γ : Type} {l : List γ} {r : γ → Bool} : anyF [.fresh (l.map fun z => .bl (r z))] = some (.dat (.bl (l.any r))) := by
  unfold anyF one
  dsimp only
  rw [lds_fresh]
  dsimp only
  rw [blsD_map]
  simp
theorem all_lc {γ : Type} {it : DI} {p : DT} {el : DE} {vs : List Nat} {l : List γ} {g : γ → Da} {ρ : List Sl} (ρ1 : γ → List Sl) (r : γ → Bool) (hi : it ρ = .pure (l.map g)) (hn : noes ρ vs = true) (hs : l.length ≤ 1000000)
    (h1 : ∀ z ∈ l, p ρ (.dat (g z)) = .pure (ρ1 z)) (h2 : ∀ z ∈ l, el (ρ1 z) = .pure (.dat (.bl (r z)))) : dCB allF (dCons (dLc it p dYes el vs) dNil) ρ = .pure (.dat (.bl (l.all r))) := by
  rw [v_cb, v_cons, lcY ρ1 (fun z => .bl (r z)) hi hn hs h1 h2]
  show optG (allF [.fresh _]) = _
  rw [v_all]
  rfl
theorem small_ok {n : Nat} (h : n ≤ 1000000) : small n = true := decide_eq_true h
theorem v_len_s {z : Str} (h : z.length ≤ 1000000) : lenF [.val (.fz (.str z))] = some (.dat (.int z.length)) := by
  show (if small z.length = true then some (Sl.dat (.int z.length)) else none) = _
  rw [if_pos (small_ok h)]
section
variable {ρ : List Sl} {a b e : DE} {x y z : Int}
theorem chain_le (h1 : x ≤ y) (h2 : y ≤ z) (ha : a ρ = .pure (.dat (.int x))) (hb : b ρ = .pure (.dat (.int y))) (he : e ρ = .pure (.dat (.int z))) : dChain leF leF a b e ρ = .pure (.dat (.bl true)) := by
  unfold dChain
  rw [ha, v_pb, hb, v_pb, v_le, v_opt, v_pb, decide_eq_true h1]
  show ((e ρ).bind fun u => optG (leF (.dat (.int y)) u)) = _
  rw [he, v_pb, v_le, decide_eq_true h2]
  rfl
theorem chain_lt (h1 : x ≤ y) (h2 : y < z) (ha : a ρ = .pure (.dat (.int x))) (hb : b ρ = .pure (.dat (.int y))) (he : e ρ = .pure (.dat (.int z))) : dChain leF ltF a b e ρ = .pure (.dat (.bl true)) := by
  unfold dChain
  rw [ha, v_pb, hb, v_pb, v_le, v_opt, v_pb, decide_eq_true h1]
  show ((e ρ).bind fun u => optG (ltF (.dat (.int y)) u)) = _
  rw [he, v_pb, v_lt, decide_eq_true h2]
  rfl
end
theorem in_sign {z : Str} {c : Nat} : inF (.dat (.str ⟨#[c]⟩)) (.dat (.str z)) = some (.dat (.bl (decide (c ∈ z.cps.toList)))) := rfl
theorem v_its {ρ : List Sl} {a : DE} {z : Str} (h : a ρ = .pure (.dat (.str z))) : dItS a ρ = .pure (z.cps.toList.map fun c => .str ⟨#[c]⟩) := by
  unfold dItS
  rw [h]
  rfl
theorem v_r1p {ρ : List Sl} {a : DE} {n : Nat} (h : n ≤ 1000000) (ha : a ρ = .pure (.dat (.int n))) : dItR1 a ρ = .pure ((List.range n).map fun (i : Nat) => .int (i : Int)) := by
  rw [v_r1 (x := n) (by unfold smallI; rw [Bool.and_eq_true]; exact ⟨decide_eq_true (by omega), decide_eq_true (by omega)⟩) ha]
  unfold rngD
  rw [Int.sub_zero, Int.toNat_natCast]
  congr 2
  funext i
  rw [Int.zero_add]
def finG (o : Out) : G Sl := match o with
  | .rt (.val o) => .pure (.val o) | .nx _ => .pure (.dat .non) | _ => .fail
theorem def_at {n : Nat} {D : DS} {ss ρ0 : List Sl} (h : ss ++ List.replicate (n - ss.length) .no = ρ0) : dDef n D ss = (D ρ0).bind finG := by
  unfold dDef
  rw [h]
  rfl
def seqG (q : DS) (o : Out) : G Out := match o with
  | .nx ρ' => q ρ' | o => .pure o
theorem v_seq2 {p q : DS} {ρ : List Sl} : dSeq p q ρ = (p ρ).bind (seqG q) := rfl
theorem v_seqn {q : DS} {ρ : List Sl} : seqG q (.nx ρ) = q ρ := rfl
theorem v_seqr {q : DS} {s : Sl} : seqG q (.rt s) = .pure (.rt s) := rfl
theorem v_fin {o : Ow} : finG (.rt (.val o)) = .pure (.val o) := rfl
section
variable {ρ : List Sl} {a b e : DE} {s : Sl} {ds : List Da} {x y : Int} {z : Str} {c : Bool}
theorem v_andv : dAndV a b ρ = (a ρ).bind fun x => (boolG x).bind fun x => if x = true then b ρ else .pure (.dat (.bl false)) := rfl
theorem v_orv : dOrV a b ρ = (a ρ).bind fun x => (boolG x).bind fun x => if x = true then .pure (.dat (.bl true)) else b ρ := rfl
theorem v_notv : dNotV a ρ = (a ρ).bind fun x => (boolG x).bind fun x => .pure (.dat (.bl (!x))) := rfl
theorem v_chain {f g : Op2} : dChain f g a b e ρ = (a ρ).bind fun x => (b ρ).bind fun y => (optG (f x y)).bind fun z => (boolG z).bind fun z => if z = true then (e ρ).bind fun u => optG (g y u) else .pure (.dat (.bl false)) := rfl
theorem v_ist_t : isTF .tuple [.val (.fz (.tup ds)), s] = some (.dat (.bl true)) := rfl
theorem v_ist_i : isTF .int [.val (.fz (.int x)), s] = some (.dat (.bl true)) := rfl
theorem v_ist_b : isTF .bool [.val (.fz (.int x)), s] = some (.dat (.bl false)) := rfl
theorem v_ist_s : isTF .str [.val (.fz (.str z)), s] = some (.dat (.bl true)) := rfl
theorem v_isc {C : Addr} {ns : List Str} : isCF C [.val (.fz (.obj C ns ds)), s] = some (.dat (.bl true)) := by
  simp [isCF]
theorem v_eqi : eqF (.val (.fz (.int x))) (.val (.fz (.int y))) = some (.dat (.bl (decide (x = y)))) := eqF_int
theorem v_nei : neF (.val (.fz (.int x))) (.val (.fz (.int y))) = some (.dat (.bl (!decide (x = y)))) := neF_int
theorem v_isn_n : isNF (.val (.fz .non)) (.val (.fz .non)) = some (.dat (.bl true)) := rfl
theorem v_isn_i : isNF (.val (.fz (.int x))) (.val (.fz .non)) = some (.dat (.bl false)) := rfl
theorem v_notn_n : notNF (.val (.fz .non)) (.val (.fz .non)) = some (.dat (.bl false)) := rfl
theorem v_notn_i : notNF (.val (.fz (.int x))) (.val (.fz .non)) = some (.dat (.bl true)) := rfl
theorem v_map0 {f : Da → Sl} : List.map f [] = [] := rfl
theorem v_n0 : ((0 : Nat) : Int) = 0 := rfl
theorem v_n1 : ((1 : Nat) : Int) = 1 := rfl
theorem v_n2 : ((2 : Nat) : Int) = 2 := rfl
theorem v_n3 : ((3 : Nat) : Int) = 3 := rfl
theorem v_make {C : Addr} {ns : List Str} {Fi : FnI} {r : DA} : dMake C ns Fi r ρ = (r ρ).bind fun l => match ows l with | some os => (Fi ((frzs os).map Sl.dat)).bind fun fs => .pure (.dat (.obj C ns fs)) | none => .fail := rfl
theorem v_consC {r : DA} : dConsC a r ρ = (a ρ).bind fun x => if x.isView = true then .fail else (r ρ).bind fun l => .pure (x :: l) := rfl
theorem v_opC {f : Op2} : dOpC f a b ρ = (a ρ).bind fun x => if x.isView = true then .fail else (b ρ).bind fun y => optG (f x y) := rfl
theorem v_isv {o : Ow} : Sl.isView (.val o) = false := rfl
theorem v_isv2 {o : Ow} : Sl.isView (.view o) = true := rfl
theorem v_addt {xs ys : List Da} : addF (.val (.fz (.tup xs))) (.val (.fz (.tup ys))) = if small (xs.length + ys.length) = true then some (.dat (.tup (xs ++ ys))) else none := by
  show (match (if small (xs.length + ys.length) = true then some (Sl.dat (.tup (xs ++ ys))) else none) with | some r => some r | none => none) = _
  cases small (xs.length + ys.length) <;> rfl
theorem v_adds {u v : Str} : addF (.val (.fz (.str u))) (.val (.fz (.str v))) = if small (u.length + v.length) = true then some (.dat (.str (u ++ v))) else none := by
  show (match (if small (u.length + v.length) = true then some (Sl.dat (.str (u ++ v))) else none) with | some r => some r | none => none) = _
  cases small (u.length + v.length) <;> rfl
theorem v_addl {xs ys : List Da} : addF (.val (.ol (xs.map .fz))) (.val (.ol (ys.map .fz))) = if small (xs.length + ys.length) = true then some (.fresh (xs ++ ys)) else none := by
  show llF (.fresh xs) (.fresh ys) = _
  unfold llF
  rw [lds_fresh, lds_fresh]
theorem v_callV {F : Fn} {r : DA} : dCallV F r ρ = (r ρ).bind fun l => match das l with | some ds => (F (ds.map Sl.dat)).bind fun s => if flat s = true then .pure s else .fail | none => .fail := rfl
theorem v_dasn : das [] = some [] := rfl
theorem v_dasc {r : List Sl} : das (s :: r) = match s.da, das r with | some d, some ds => some (d :: ds) | _, _ => none := rfl
theorem v_dav {o : Ow} : Sl.da (.val o) = some o.frz := rfl
theorem v_daw {o : Ow} : Sl.da (.view o) = some o.frz := rfl
theorem v_flb : flat (.val (.fz (.bl c))) = true := rfl
theorem v_frzol {os : List Ow} : (Ow.ol os).frz = .lst (frzs os) := rfl
theorem v_frzsl {o : Ow} : frzSl (.val o) = .val (.fz o.frz) := rfl
theorem v_frzsrc : frzSl .src = .src := rfl
theorem v_mov {i j : Nat} {o : Ow} (h : get ρ i = .val o) : dMov i j ρ = .pure (.nx ((ρ.set i .no).set j (.val o))) := by
  unfold dMov
  rw [h]
theorem v_adll {xs ys : List Da} : addF (.val (.fz (.lst xs))) (.val (.ol (ys.map .fz))) = if small (xs.length + ys.length) = true then some (.fresh (xs ++ ys)) else none := by
  show llF (.dat (.lst xs)) (.fresh ys) = _
  unfold llF
  rw [lds_fresh]
  rfl
theorem v_retv2 {i : Nat} : dRetV i ρ = match get ρ i with | .val o => .pure (.rt (.val o)) | _ => .fail := rfl
theorem v_lstR2 {x y : Int} (h : rngOk x y = true) : lstR2F [.val (.fz (.int x)), .val (.fz (.int y))] = some (.fresh (rngD x y)) := by
  show (if rngOk x y = true then _ else _) = _
  rw [if_pos h]
theorem v_tgsub {i : Nat} : tgSub i a ρ s = if isOl (get ρ i) = true then (a ρ).bind (subG i ρ s) else .fail := rfl
theorem v_subg {i : Nat} {n : Int} {o : Ow} {os : List Ow} (h : get ρ i = .val (.ol os)) : subG i ρ (.val o) (.val (.fz (.int n))) = match ixN os.length n with | some j => .pure (ρ.set i (.val (.ol (os.set j o)))) | none => .fail := by
  unfold subG
  rw [h]
  try rfl
theorem v_rep {ds : List Da} {k : Int} : mulF (.val (.ol (ds.map .fz))) (.val (.fz (.int k))) = if (smallI k && small (ds.length * k.toNat)) = true then some (.fresh (List.replicate k.toNat ds).flatten) else none := by
  show (match repF (.fresh ds) (.dat (.int k)) with | some r => some r | none => none) = _
  unfold repF
  rw [lds_fresh]
  dsimp only
  cases (smallI k && small (ds.length * k.toNat)) <;> rfl
theorem v_repT {ds : List Da} {k : Int} : mulF (.val (.fz (.tup ds))) (.val (.fz (.int k))) = if (smallI k && small (ds.length * k.toNat)) = true then some (.dat (.tup (List.replicate k.toNat ds).flatten)) else none := rfl
theorem v_mul {x y : Int} : mulF (.val (.fz (.int x))) (.val (.fz (.int y))) = if mulC x y = true then some (.dat (.int (x * y))) else none := by
  show (match (if mulC x y = true then some (Sl.dat (.int (x * y))) else none) with | some r => some r | none => none) = _
  cases mulC x y <;> rfl
theorem v_mod {x y : Int} : modF (.val (.fz (.int x))) (.val (.fz (.int y))) = if decide (0 < y) = true then some (.dat (.int (x % y))) else none := rfl
theorem v_neg {x : Int} : negF (.val (.fz (.int x))) = some (.dat (.int (-x))) := rfl
end
end Ge

set_option maxHeartbeats 400000
namespace Ge
open PySem PySem.Spec PyProof.Rows L2 Sd
variable [HasT]
/-! ### whatever is drawn: one rule for each construct; the defs that are called stay closed -/
section
variable {α β : Type} {E : Exn → Prop} {ρ : List Sl} {i j n : Nat} {a b : DE} {r : DA} {F : Fn} {l : List Sl} {os : List Ow}
/-- whatever is drawn: N of the value, E of the error; closed to unfolding -/
structure Gd (g : G α) (N : α → Prop) (E : Exn → Prop) : Prop where
  h : g.good N E
theorem h_pure {N : α → Prop} {x : α} (h : N x) : Gd (.pure x) N E := ⟨h⟩
theorem h_bind {N : α → Prop} {g : G β} {f : β → G α} (h : Gd g (fun x => Gd (f x) N E) E) : Gd (g.bind f) N E := ⟨G.good_bind.mpr (G.good_mono (fun _ k => k.h) (fun _ h => h) h.h)⟩
theorem h_mono {N M : α → Prop} {g : G α} (h : Gd g M E) (k : ∀ x, M x → N x) : Gd g N E := ⟨G.good_mono k (fun _ h => h) h.h⟩
theorem h_eq {N : α → Prop} {g : G α} {x : α} (e : g = .pure x) (h : N x) : Gd g N E := by rw [e]; exact h_pure h
theorem h_drw {N : α → Prop} {m : Int} {k : Int → G α} (h1 : 0 < m) (h2 : m < 1073741824) (h : ∀ v, 0 ≤ v → v < m → Gd (k v) N E) : Gd (.draw m k) N E := ⟨h1, h2, fun v a b => (h v a b).h⟩
theorem h_fin {N : Sl → Prop} {o : Ow} (h : N (.val o)) : Gd (finG (.rt (.val o))) N E := h_pure h
theorem h_def {N : Sl → Prop} {D : DS} {ss : List Sl} (ρ0 : List Sl) (e : ss ++ List.replicate (n - ss.length) .no = ρ0) (h : Gd (D ρ0) (fun o => Gd (finG o) N E) E) : Gd (dDef n D ss) N E := by
  rw [def_at e]
  exact h_bind h
theorem h_seq {NO : Out → Prop} {p q : DS} (h : Gd (p ρ) (fun o => Gd (seqG q o) NO E) E) : Gd (dSeq p q ρ) NO E := h_bind h
theorem h_seqN {NO : Out → Prop} {p q : DS} (h : Gd (p ρ) (fun o => ∃ ρ1, o = .nx ρ1 ∧ Gd (q ρ1) NO E) E) : Gd (dSeq p q ρ) NO E :=
  h_bind (h_mono h fun o k => by
    obtain ⟨ρ1, rfl, k⟩ := k
    exact k)
theorem h_seq1 {NO : Out → Prop} {p q : DS} {ρ1 : List Sl} (e : p ρ = .pure (.nx ρ1)) (h : Gd (q ρ1) NO E) : Gd (dSeq p q ρ) NO E := by
  rw [v_seq2, e]
  exact h
theorem h_next {NO : Out → Prop} (h : NO (.nx ρ)) : Gd (dNext ρ) NO E := h_pure h
theorem h_asg {NO : Out → Prop} {p : DT} (h : Gd (a ρ) (fun s => Gd (p ρ s) (fun ρ1 => NO (.nx ρ1)) E) E) : Gd (dAsg a p ρ) NO E :=
  h_bind (h_mono h fun _ k => h_bind (h_mono k fun _ k => h_pure k))
theorem h_ret {NO : Out → Prop} (h : Gd (a ρ) (fun s => NO (.rt s)) E) : Gd (dRet a ρ) NO E := h_bind (h_mono h fun _ k => h_pure k)
theorem h_ifs {NO : Out → Prop} {t : DB} {p q : DS} (h : Gd (t ρ) (fun c => Gd (if c = true then p ρ else q ρ) NO E) E) : Gd (dIfS t p q ρ) NO E := h_bind h
theorem h_drop {NO : Out → Prop} (h : Gd (a ρ) (fun _ => NO (.nx ρ)) E) : Gd (dDrop a ρ) NO E := h_bind (h_mono h fun _ k => h_pure k)
theorem h_test {N : Bool → Prop} (h : Gd (a ρ) (fun s => Gd (boolG s) N E) E) : Gd (dTest a ρ) N E := h_bind h
theorem h_not {N : Bool → Prop} {t : DB} (h : Gd (t ρ) (fun c => N (!c)) E) : Gd (dNot t ρ) N E := h_bind (h_mono h fun _ k => h_pure k)
theorem h_and {N : Bool → Prop} {t u : DB} (h : Gd (t ρ) (fun c => Gd (if c = true then u ρ else .pure false) N E) E) : Gd (dAnd t u ρ) N E := h_bind h
theorem h_or {N : Bool → Prop} {t u : DB} (h : Gd (t ρ) (fun c => Gd (if c = true then .pure true else u ρ) N E) E) : Gd (dOr t u ρ) N E := h_bind h
theorem h_if {N : Sl → Prop} {t : DB} (h : Gd (t ρ) (fun c => Gd (if c = true then a ρ else b ρ) N E) E) : Gd (dIf t a b ρ) N E := h_bind h
theorem h_opt {N : α → Prop} {o : Option α} {x : α} (e : o = some x) (h : N x) : Gd (optG o) N E := by rw [e]; exact h_pure h
theorem h_op {N : Sl → Prop} {f : Op2} (h : Gd (a ρ) (fun x => Gd (b ρ) (fun y => ∃ z, f x y = some z ∧ N z) E) E) : Gd (dOp f a b ρ) N E := h_bind (h_mono h fun _ k => h_bind (h_mono k fun _ ⟨_, e, k⟩ => h_opt e k))
theorem h_un {N : Sl → Prop} {f : Sl → Option Sl} (h : Gd (a ρ) (fun x => ∃ z, f x = some z ∧ N z) E) : Gd (dUn f a ρ) N E := h_bind (h_mono h fun _ ⟨_, e, k⟩ => h_opt e k)
theorem h_cb {N : Sl → Prop} {f : List Sl → Option Sl} (h : Gd (r ρ) (fun l => ∃ z, f l = some z ∧ N z) E) : Gd (dCB f r ρ) N E := h_bind (h_mono h fun _ ⟨_, e, k⟩ => h_opt e k)
theorem h_nil {N : List Sl → Prop} (h : N []) : Gd (dNil ρ) N E := h_pure h
theorem h_cons {N : List Sl → Prop} (h : Gd (a ρ) (fun x => Gd (r ρ) (fun l => N (x :: l)) E) E) : Gd (dCons a r ρ) N E := h_bind (h_mono h fun _ k => h_bind (h_mono k fun _ k => h_pure k))
theorem h_fz {NO : Out → Prop} {p : DS} (ρ1 : List Sl) (e : ρ.set i (frzSl (get ρ i)) = ρ1) (h : Gd (p ρ1) NO E) : Gd (dFz i p ρ) NO E := by
  rw [v_dfz, e]
  exact h
theorem h_gone {NO : Out → Prop} {p : DS} (ρ1 : List Sl) (e : ρ.set i .no = ρ1) (h : Gd (p ρ1) NO E) : Gd (dGone i p ρ) NO E := by
  rw [v_gone, e]
  exact h
theorem h_par {NO : Out → Prop} (h : Gd (r ρ) (fun l => ∃ x y, l = [.val x, .val y] ∧ NO (.nx ((ρ.set i (.val x)).set j (.val y)))) E) : Gd (dPar i j r ρ) NO E := by
  refine h_bind (h_mono h fun l k => ?_)
  obtain ⟨x, y, rfl, k⟩ := k
  exact h_pure k
/-- a call with the source of draws -/
theorem h_callD {N : Sl → Prop} (hs : get ρ i = .src) (h : Gd (r ρ) (fun l => ∃ os ds, ows l = some os ∧ frzs os = ds ∧ Gd (F (.src :: ds.map Sl.dat)) N E) E) : Gd (dCallD F i r ρ) N E := by
  rw [v_callD, hs, if_pos v_issrc]
  refine h_bind (h_mono h fun l k => ?_)
  obtain ⟨os, ds, e1, e2, k⟩ := k
  rw [e1]
  subst e2
  exact k
/-- .. whose arguments draw nothing -/
theorem h_callD1 {N : Sl → Prop} (args : List Sl) (hs : get ρ i = .src) (hr : r ρ = .pure l) (ho : ows l = some os) (ha : .src :: (frzs os).map Sl.dat = args) (h : Gd (F args) N E) : Gd (dCallD F i r ρ) N E := by
  refine h_callD hs (h_eq hr ⟨os, _, ho, rfl, ?_⟩)
  rw [ha]
  exact h
theorem h_call1 {N : Sl → Prop} (args : List Sl) (hr : r ρ = .pure l) (ho : ows l = some os) (ha : (frzs os).map Sl.dat = args) (h : Gd (F args) N E) : Gd (dCall F r ρ) N E := by
  rw [v_call, hr, v_pb, ho]
  dsimp only
  rw [ha]
  exact h
/-- a loop: what holds of the slots ahead of each turn -/
theorem h_for {it : DI} {p : DT} {q : DS} {xs : List Da} {NO : Out → Prop} (I : Nat → List Sl → Prop) (hi : it ρ = .pure xs) (h0 : I 0 ρ)
    (h : ∀ k z ρ1, xs[k]? = some z → I k ρ1 → Gd (p ρ1 (.dat z)) (fun ρ2 => Gd (q ρ2) (fun o => match o with | .nx ρ3 => I (k + 1) ρ3 | .ct ρ3 => I (k + 1) ρ3 | .bk ρ3 => NO (.nx ρ3) | .rt s => NO (.rt s)) E) E)
    (he : ∀ ρ1, I xs.length ρ1 → NO (.nx ρ1)) : Gd (dFor it p q ρ) NO E := by
  rw [v_for, hi, v_pb]
  exact ⟨for_good I h0 (fun k z ρ1 e i => G.good_mono (fun _ k => k.h) (fun _ h => h) (h k z ρ1 e i).h) he⟩
theorem e_call1 {s : Sl} (args : List Sl) (hr : r ρ = .pure l) (ho : ows l = some os) (ha : (frzs os).map Sl.dat = args) (h : F args = .pure s) : dCall F r ρ = .pure s := by
  rw [v_call, hr, v_pb, ho]
  dsimp only
  rw [ha]
  exact h
theorem e_callK1 {s : Sl} {g : List Da → List Da} (args : List Sl) (hr : r ρ = .pure l) (ho : ows l = some os) (ha : (g (frzs os)).map Sl.dat = args) (h : F args = .pure s) : dCallK F g r ρ = .pure s := by
  rw [v_callK, hr, v_pb, ho]
  dsimp only
  rw [ha]
  exact h
theorem e_make {C : Addr} {ns : List Str} {Fi : FnI} {fs : List Da} (args : List Sl) (hr : r ρ = .pure l) (ho : ows l = some os) (ha : (frzs os).map Sl.dat = args) (h : Fi args = .pure fs) : dMake C ns Fi r ρ = .pure (.dat (.obj C ns fs)) := by
  rw [v_make, hr, v_pb, ho]
  dsimp only
  rw [ha, h]
  rfl
theorem e_op {f : Op2} {x y z : Sl} (ha : a ρ = .pure x) (hb : b ρ = .pure y) (h : f x y = some z) : dOp f a b ρ = .pure z := by
  rw [v_op, ha, v_pb, hb, v_pb, h]
  rfl
theorem e_un {f : Sl → Option Sl} {x z : Sl} (ha : a ρ = .pure x) (h : f x = some z) : dUn f a ρ = .pure z := by
  rw [v_un, ha, v_pb, h]
  rfl
theorem e_cb {f : List Sl → Option Sl} {z : Sl} (hr : r ρ = .pure l) (h : f l = some z) : dCB f r ρ = .pure z := by
  rw [v_cb, hr, v_pb, h]
  rfl
theorem e_cons {x : Sl} (ha : a ρ = .pure x) (hr : r ρ = .pure l) : dCons a r ρ = .pure (x :: l) := by
  rw [v_cons, ha, v_pb, hr]
  rfl
theorem e_consC {x : Sl} (ha : a ρ = .pure x) (hx : x.isView = false) (hr : r ρ = .pure l) : dConsC a r ρ = .pure (x :: l) := by
  rw [v_consC, ha, v_pb, hx, hr]
  rfl
theorem e_lst (hr : r ρ = .pure l) (ho : ows l = some os) (hs : small os.length = true) : dLst r ρ = .pure (.val (.ol os)) := by
  rw [v_lst, hr, v_pb, ho]
  dsimp only
  rw [if_pos hs]
  rfl
theorem e_tup (hr : r ρ = .pure l) (ho : ows l = some os) (hs : small os.length = true) : dTup r ρ = .pure (.dat (.tup (frzs os))) := by
  rw [v_tup, hr, v_pb, ho]
  dsimp only
  rw [if_pos hs]
  rfl
theorem e_nil : dNil ρ = .pure [] := rfl
theorem e_c {d : Da} : dC d ρ = .pure (.dat d) := rfl
theorem e_test {c : Bool} (ha : a ρ = .pure (.dat (.bl c))) : dTest a ρ = .pure c := by
  rw [v_test, ha]
  rfl
theorem e_not {t : DB} {c : Bool} (h : t ρ = .pure c) : dNot t ρ = .pure (!c) := by
  rw [v_not, h]
  rfl
theorem e_notT {t : DB} (h : t ρ = .pure true) : dNot t ρ = .pure false := by
  rw [v_not, h]
  rfl
theorem e_notF {t : DB} (h : t ρ = .pure false) : dNot t ρ = .pure true := by
  rw [v_not, h]
  rfl
theorem e_and {t u : DB} {c d : Bool} (h : t ρ = .pure c) (k : c = true → u ρ = .pure d) (hd : c = false → d = false) : dAnd t u ρ = .pure d := by
  rw [v_and, h, v_pb]
  cases c with
  | true => exact k rfl
  | false => rw [hd rfl]; rfl
theorem e_orF {t u : DB} {d : Bool} (h : t ρ = .pure false) (k : u ρ = .pure d) : dOr t u ρ = .pure d := by
  rw [v_or, h, v_pb]
  exact k
theorem e_orT {t u : DB} (h : t ρ = .pure true) : dOr t u ρ = .pure true := by
  rw [v_or, h, v_pb]
  rfl
theorem e_andvT {x : Sl} (h : a ρ = .pure (.dat (.bl true))) (k : b ρ = .pure x) : dAndV a b ρ = .pure x := by
  rw [v_andv, h, v_pb]
  exact k
theorem e_asg {x : Sl} {p : DT} {ρ1 : List Sl} (ha : a ρ = .pure x) (hp : p ρ x = .pure ρ1) : dAsg a p ρ = .pure (.nx ρ1) := by
  rw [v_asg, ha, v_pb, hp]
  rfl
theorem e_ifT {t : DB} {p q : DS} {g : G Out} (h : t ρ = .pure true) (k : p ρ = g) : dIfS t p q ρ = g := by
  rw [v_ifs, h, v_pb]
  exact k
theorem e_ifF {t : DB} {p q : DS} {g : G Out} (h : t ρ = .pure false) (k : q ρ = g) : dIfS t p q ρ = g := by
  rw [v_ifs, h, v_pb]
  exact k
theorem e_seq {p q : DS} {ρ1 : List Sl} {g : G Out} (h : p ρ = .pure (.nx ρ1)) (k : q ρ1 = g) : dSeq p q ρ = g := by
  rw [v_seq2, h]
  exact k
theorem e_fld {C : Addr} {f : Str} {s t : Sl} (h : a ρ = .pure s) (k : fldF C f s = some t) : dFld C f a ρ = .pure t := by
  rw [show dFld C f a ρ = (a ρ).bind fun s => optG (fldF C f s) from rfl, h, v_pb, k]
  rfl
end
end Ge

set_option maxHeartbeats 400000
namespace Ge
open PySem PySem.Spec PyProof.Rows L2 Sd
variable [HasT]
/-- a name: one to six letters -/
structure NameOk (z : Str) : Prop where
  lo : 1 ≤ z.length
  hi : z.length ≤ 6
  ab : ∀ c ∈ z.cps.toList, c ∈ ("abcdefghijklmnopqrstuvwxyz" : Str).cps.toList
/-- names, ascending -/
structure ThingsOk (zs : List Str) : Prop where
  lo : 1 ≤ zs.length
  hi : zs.length ≤ 12
  nm : ∀ z ∈ zs, NameOk z
  up : ∀ (i : Nat) x y, zs[i]? = some x → zs[i + 1]? = some y → x.cps.toList < y.cps.toList
/-- a tie of two unlike things of so many -/
structure TieOk (n : Int) (a b w : Int) : Prop where
  a0 : 0 ≤ a
  a1 : a < n
  b0 : 0 ≤ b
  b1 : b < n
  ne : a ≠ b
  lo : -1000000 ≤ w
  hi : w ≤ 1000000
/-- a tie as data -/
def tieD (t : Int × Int × Int) : Da := .tup [.int t.1, .int t.2.1, .int t.2.2]
abbrev tabF : List Str := ["things", "ties"]
/-- a table as data -/
def tabD (C : Addr) (zs : List Str) (ts : List (Int × Int × Int)) : Da := .obj C tabF [.tup (zs.map .str), .tup (ts.map tieD)]
structure TabOk (zs : List Str) (ts : List (Int × Int × Int)) : Prop where
  th : ThingsOk zs
  few : ts.length ≤ 60
  ti : ∀ t ∈ ts, TieOk zs.length t.1 t.2.1 t.2.2
/-- the numbers of the ties of a thing -/
def withL (ts : List (Int × Int × Int)) (th : Int) : List Nat := (List.range ts.length).filter fun i => match ts[i]? with | some t => decide (th ∈ [t.1, t.2.1]) | none => false
def ixD (l : List Nat) : Da := .tup (l.map fun (i : Nat) => .int (i : Int))
theorem tabD_ts {C : Addr} {zs zs' : List Str} {ts ts' : List (Int × Int × Int)} (h : tabD C zs ts = tabD C zs' ts') : zs = zs' ∧ ts = ts' := by
  unfold tabD at h
  simp only [Da.obj.injEq, List.cons.injEq, Da.tup.injEq, and_true, true_and] at h
  refine ⟨List.map_inj_right (fun a b h => by injection h) |>.mp h.1, List.map_inj_right (fun a b h => ?_) |>.mp h.2⟩
  unfold tieD at h
  simp only [Da.tup.injEq, List.cons.injEq, Da.int.injEq, and_true] at h
  exact Prod.ext h.1 (Prod.ext h.2.1 h.2.2)
/-- the numbers of the ties from one thing to another one -/
def betweenL (ts : List (Int × Int × Int)) (x y : Int) : List Nat := (List.range ts.length).filter fun i => match ts[i]? with | some t => decide (t.1 = x) && decide (t.2.1 = y) | none => false
theorem between_lt {ts : List (Int × Int × Int)} {x y : Int} {i : Nat} (h : i ∈ betweenL ts x y) : i < ts.length := List.mem_range.mp (List.mem_filter.mp h).1
theorem between_len {ts : List (Int × Int × Int)} {x y : Int} : (betweenL ts x y).length ≤ ts.length := by
  have := List.length_filter_le (fun i => match ts[i]? with | some t => decide (t.1 = x) && decide (t.2.1 = y) | none => false) (List.range ts.length)
  rw [List.length_range] at this
  exact this
def wAt (ts : List (Int × Int × Int)) (i : Nat) : Int := match ts[i]? with | some t => t.2.2 | none => 0
def better (ts : List (Int × Int × Int)) (f : Option Nat) (i : Nat) : Option Nat := match f with
  | none => some i
  | some j => if wAt ts j < wAt ts i then some i else some j
def bestOf (ts : List (Int × Int × Int)) (l : List Nat) : Option Nat := l.foldl (better ts) none
def optD : Option Nat → Da
  | none => .non | some i => .int (i : Int)
def optW (ts : List (Int × Int × Int)) : Option Nat → Da
  | none => .non | some i => .int (wAt ts i)
theorem best_mem {ts : List (Int × Int × Int)} : ∀ {l : List Nat} {f : Option Nat} {j : Nat}, l.foldl (better ts) f = some j → j ∈ l ∨ f = some j
  | [], f, j, h => .inr h
  | i :: l, f, j, h => by
    rcases best_mem (l := l) h with m | m
    · exact .inl (List.mem_cons_of_mem _ m)
    · unfold better at m
      cases f with
      | none => exact .inl (by rw [Option.some.inj m]; exact List.mem_cons_self)
      | some k =>
        simp only at m
        split at m
        · exact .inl (by rw [Option.some.inj m]; exact List.mem_cons_self)
        · exact .inr m
/-- the pairs that have a tie, row by row -/
def dueP (n : Nat) (ts : List (Int × Int × Int)) : List (Int × Int) := (List.range n).flatMap fun (i : Nat) => ((List.range n).filter fun (j : Nat) => ts.any fun t => decide (t.1 = i) && decide (t.2.1 = j)).map fun (j : Nat) => ((i : Int), (j : Int))
theorem mem_dueP {n : Nat} {ts : List (Int × Int × Int)} (h : ∀ t ∈ ts, TieOk n t.1 t.2.1 t.2.2) {p : Int × Int} : p ∈ dueP n ts ↔ ∃ t ∈ ts, p = (t.1, t.2.1) := by
  unfold dueP
  simp only [List.mem_flatMap, List.mem_map, List.mem_filter, List.mem_range, List.any_eq_true, Bool.and_eq_true, decide_eq_true_eq]
  constructor
  · rintro ⟨i, hi, j, ⟨hj, t, mt, e1, e2⟩, rfl⟩
    exact ⟨t, mt, by rw [e1, e2]⟩
  · rintro ⟨t, mt, rfl⟩
    obtain ⟨a0, a1, b0, b1, _⟩ := h t mt
    exact ⟨t.1.toNat, by omega, t.2.1.toNat, ⟨by omega, t, mt, by omega, by omega⟩, by rw [Int.toNat_of_nonneg a0, Int.toNat_of_nonneg b0]⟩
theorem rise_dueP (n : Nat) (ts : List (Int × Int × Int)) : (dueP n ts).Pairwise PLt := by
  unfold dueP
  rw [List.pairwise_flatMap]
  refine ⟨fun i mi => List.pairwise_map.mpr ?_, ?_⟩
  · refine (List.Pairwise.filter _ List.pairwise_lt_range).imp fun {x y} h => .inr ⟨rfl, ?_⟩
    show (x : Int) < y
    omega
  · refine List.pairwise_lt_range.imp fun {x y} h p mp q mq => .inl ?_
    obtain ⟨j, _, rfl⟩ := List.mem_map.mp mp
    obtain ⟨k, _, rfl⟩ := List.mem_map.mp mq
    show (x : Int) < y
    omega
/-- the greatest weight of a pair -/
def wOf (ts : List (Int × Int × Int)) (p : Int × Int) : Int := match bestOf ts (betweenL ts p.1 p.2) with | some j => wAt ts j | none => 0
def fewL (n : Nat) (ts : List (Int × Int × Int)) : List (Int × Int × Int) := (dueP n ts).map fun p => (p.1, p.2, wOf ts p)
theorem len_sub {α : Type} [DecidableEq α] : ∀ {l m : List α}, l.Nodup → (∀ x ∈ l, x ∈ m) → l.length ≤ m.length
  | [], _, _, _ => Nat.zero_le _
  | x :: l, m, h, s => by
    obtain ⟨nx, nl⟩ := List.nodup_cons.mp h
    have mx := s x List.mem_cons_self
    have := len_sub (l := l) (m := m.erase x) nl fun y my => (List.mem_erase_of_ne (show y ≠ x from fun e => nx (by rw [← e]; exact my))).mpr (s y (List.mem_cons_of_mem _ my))
    rw [List.length_erase_of_mem mx] at this
    have p := List.length_pos_of_mem mx
    rw [List.length_cons]
    omega
theorem dueP_len {n : Nat} {ts : List (Int × Int × Int)} (h : ∀ t ∈ ts, TieOk n t.1 t.2.1 t.2.2) : (dueP n ts).length ≤ ts.length := by
  have nd : (dueP n ts).Nodup := List.Pairwise.imp (R := PLt) (S := fun x y => x ≠ y) (fun {x y} h e => plt_irrefl (p := x) (by rw [← e] at h; exact h)) (rise_dueP n ts)
  have := len_sub (m := ts.map fun t => (t.1, t.2.1)) nd fun p mp => by
    obtain ⟨t, mt, rfl⟩ := (mem_dueP h).mp mp
    exact List.mem_map_of_mem (f := fun t : Int × Int × Int => (t.1, t.2.1)) mt
  rwa [List.length_map] at this
theorem foldl_some {ts : List (Int × Int × Int)} : ∀ (l : List Nat) (j : Nat), ∃ k, l.foldl (better ts) (some j) = some k
  | [], j => ⟨j, rfl⟩
  | i :: l, j => by
    show ∃ k, l.foldl (better ts) (better ts (some j) i) = some k
    unfold better
    split
    · cases ‹some j = none›
    · split <;> exact foldl_some l _
theorem best_some {ts : List (Int × Int × Int)} {l : List Nat} (h : l ≠ []) : ∃ j, bestOf ts l = some j := by
  cases l with
  | nil => exact absurd rfl h
  | cons i l => exact foldl_some l i
theorem between_ne {ts : List (Int × Int × Int)} {t : Int × Int × Int} (h : t ∈ ts) : betweenL ts t.1 t.2.1 ≠ [] := fun e => by
  obtain ⟨i, hi, ei⟩ := List.getElem_of_mem h
  have : i ∈ betweenL ts t.1 t.2.1 := by
    unfold betweenL
    rw [List.mem_filter, List.mem_range]
    refine ⟨hi, ?_⟩
    rw [List.getElem?_eq_getElem hi, ei]
    simp
  rw [e] at this
  cases this
theorem optW_of {n : Nat} {ts : List (Int × Int × Int)} (h : ∀ t ∈ ts, TieOk n t.1 t.2.1 t.2.2) {p : Int × Int} (mp : p ∈ dueP n ts) : optW ts (bestOf ts (betweenL ts p.1 p.2)) = .int (wOf ts p) := by
  obtain ⟨t, mt, rfl⟩ := (mem_dueP h).mp mp
  obtain ⟨j, ej⟩ := best_some (ts := ts) (between_ne mt)
  unfold wOf
  rw [ej]
  rfl
theorem few_ok {zs : List Str} {ts : List (Int × Int × Int)} (ok : TabOk zs ts) : TabOk zs (fewL zs.length ts) := by
  refine ⟨ok.th, ?_, fun q mq => ?_⟩
  · unfold fewL
    rw [List.length_map]
    exact Nat.le_trans (dueP_len ok.ti) ok.few
  · obtain ⟨p, mp, rfl⟩ := List.mem_map.mp mq
    obtain ⟨t, mt, rfl⟩ := (mem_dueP ok.ti).mp mp
    obtain ⟨j, ej⟩ := best_some (ts := ts) (between_ne mt)
    have lj : j < ts.length := by
      rcases best_mem ej with m | m
      · exact between_lt m
      · cases m
    have ew : wOf ts (t.1, t.2.1) = ts[j].2.2 := by
      unfold wOf
      rw [ej]
      show wAt ts j = _
      unfold wAt
      rw [List.getElem?_eq_getElem lj]
    obtain ⟨a0, a1, b0, b1, ne, _, _⟩ := ok.ti t mt
    obtain ⟨_, _, _, _, _, lo, hi⟩ := ok.ti _ (List.getElem_mem lj)
    exact ⟨a0, a1, b0, b1, ne, by rw [ew]; exact lo, by rw [ew]; exact hi⟩
/-- a tie for each pair at most -/
def Few (n : Nat) (fs : List (Int × Int × Int)) : Prop := (∀ t ∈ fs, TieOk n t.1 t.2.1 t.2.2) ∧ ∀ t ∈ fs, ∀ u ∈ fs, u.1 = t.1 → u.2.1 = t.2.1 → u = t
theorem best_max {ts : List (Int × Int × Int)} : ∀ {l : List Nat} {f : Option Nat} {j : Nat}, l.foldl (better ts) f = some j → (∀ i ∈ l, wAt ts i ≤ wAt ts j) ∧ ∀ k, f = some k → wAt ts k ≤ wAt ts j
  | [], f, j, h => by
    have h' : f = some j := h
    refine ⟨fun i m => absurd m List.not_mem_nil, fun k e => ?_⟩
    rw [e] at h'
    rw [Option.some.inj h']
    exact Int.le_refl _
  | i :: l, f, j, h => by
    have h' : l.foldl (better ts) (better ts f i) = some j := h
    obtain ⟨h1, h2⟩ := best_max h'
    have key : wAt ts i ≤ wAt ts j ∧ ∀ k, f = some k → wAt ts k ≤ wAt ts j := by
      cases f with
      | none => exact ⟨h2 i rfl, nofun⟩
      | some k =>
        by_cases g : wAt ts k < wAt ts i
        · have := h2 i (by unfold better; simp only [if_pos g])
          exact ⟨this, fun k' e => by rw [← Option.some.inj e]; omega⟩
        · have := h2 k (by unfold better; simp only [if_neg g])
          exact ⟨by omega, fun k' e => by rw [← Option.some.inj e]; exact this⟩
    refine ⟨fun x m => ?_, key.2⟩
    rcases List.mem_cons.mp m with rfl | m
    · exact key.1
    · exact h1 x m
/-- the weights of the ties of a pair -/
def rowL (ts : List (Int × Int × Int)) (x y : Int) : List Int := (ts.filter fun t => decide (t.1 = x) && decide (t.2.1 = y)).map fun t => t.2.2
theorem mem_rowL {ts : List (Int × Int × Int)} {x y v : Int} : v ∈ rowL ts x y ↔ ∃ i, i ∈ betweenL ts x y ∧ wAt ts i = v := by
  unfold rowL betweenL
  simp only [List.mem_map, List.mem_filter, List.mem_range, Bool.and_eq_true, decide_eq_true_eq]
  constructor
  · rintro ⟨t, ⟨mt, e1, e2⟩, rfl⟩
    obtain ⟨i, hi, ei⟩ := List.getElem_of_mem mt
    refine ⟨i, ⟨hi, ?_⟩, ?_⟩
    · rw [List.getElem?_eq_getElem hi, ei]
      simp [e1, e2]
    · unfold wAt
      rw [List.getElem?_eq_getElem hi, ei]
  · rintro ⟨i, ⟨hi, h⟩, rfl⟩
    rw [List.getElem?_eq_getElem hi] at h
    simp only [Bool.and_eq_true, decide_eq_true_eq] at h
    refine ⟨ts[i], ⟨List.getElem_mem hi, h.1, h.2⟩, ?_⟩
    unfold wAt
    rw [List.getElem?_eq_getElem hi]
/-- the weight told is the greatest of the row -/
theorem wOf_max {ts : List (Int × Int × Int)} {x y : Int} (h : rowL ts x y ≠ []) : wOf ts (x, y) ∈ rowL ts x y ∧ ∀ v ∈ rowL ts x y, v ≤ wOf ts (x, y) := by
  have ne : betweenL ts x y ≠ [] := fun e => by
    obtain ⟨v, r, er⟩ := List.exists_cons_of_ne_nil h
    obtain ⟨i, mi, _⟩ := mem_rowL.mp (show v ∈ rowL ts x y by rw [er]; exact List.mem_cons_self)
    rw [e] at mi
    cases mi
  obtain ⟨j, ej⟩ := best_some (ts := ts) ne
  have ew : wOf ts (x, y) = wAt ts j := by
    unfold wOf
    rw [ej]
  have mj : j ∈ betweenL ts x y := by
    rcases best_mem ej with m | m
    · exact m
    · cases m
  refine ⟨mem_rowL.mpr ⟨j, mj, ew.symm⟩, fun v mv => ?_⟩
  obtain ⟨i, mi, rfl⟩ := mem_rowL.mp mv
  rw [ew]
  exact (best_max ej).1 i mi
theorem row_any {ts : List (Int × Int × Int)} {x y : Int} : (ts.any fun t => decide (t.1 = x) && decide (t.2.1 = y)) = !(rowL ts x y).isEmpty := by
  unfold rowL
  rw [List.isEmpty_map]
  induction ts with
  | nil => rfl
  | cons t ts ih =>
    rw [List.any_cons, List.filter_cons]
    cases e : (decide (t.1 = x) && decide (t.2.1 = y)) with
    | true => rfl
    | false => rw [Bool.false_or, ih]; rfl
theorem few_Few {zs : List Str} {ts : List (Int × Int × Int)} (ok : TabOk zs ts) : Few zs.length (fewL zs.length ts) := by
  refine ⟨(few_ok ok).ti, fun t mt u mu e1 e2 => ?_⟩
  obtain ⟨p, mp, rfl⟩ := List.mem_map.mp mt
  obtain ⟨q, mq, rfl⟩ := List.mem_map.mp mu
  have : q = p := Prod.ext e1 e2
  rw [this]
def optI : Option Int → Da
  | none => .non | some i => .int i
def tmAt (tm : List (Option Int)) (i : Int) : Option Int := tm.getD i.toNat none
theorem ix_tm {tm : List (Option Int)} {i : Int} (h0 : 0 ≤ i) (h1 : i < tm.length) : atI (tm.map optI) i = some (optI (tmAt tm i)) := by
  obtain ⟨j, rfl⟩ : ∃ j : Nat, i = j := ⟨i.toNat, by omega⟩
  refine atI_nat ?_
  unfold tmAt
  have hj : j < tm.length := by omega
  rw [List.getElem?_map, List.getD_eq_getElem?_getD, Int.toNat_natCast, List.getElem?_eq_getElem hj]
  rfl
def okT (tm : List (Option Int)) (t : Int × Int × Int) : Bool := match tmAt tm t.1, tmAt tm t.2.1 with
  | some x, some y => !decide (y - x < t.2.2)
  | _, _ => true
def keptB (ts : List (Int × Int × Int)) (tm : List (Option Int)) : Bool := ts.all (okT tm)
theorem mem_few {n : Nat} {ts : List (Int × Int × Int)} (h : ∀ t ∈ ts, TieOk n t.1 t.2.1 t.2.2) {u : Int × Int × Int} : u ∈ fewL n ts ↔ (∃ t ∈ ts, t.1 = u.1 ∧ t.2.1 = u.2.1) ∧ u.2.2 = wOf ts (u.1, u.2.1) := by
  unfold fewL
  rw [List.mem_map]
  constructor
  · rintro ⟨p, mp, rfl⟩
    obtain ⟨t, mt, rfl⟩ := (mem_dueP h).mp mp
    exact ⟨⟨t, mt, rfl, rfl⟩, rfl⟩
  · rintro ⟨⟨t, mt, e1, e2⟩, e3⟩
    refine ⟨(u.1, u.2.1), (mem_dueP h).mpr ⟨t, mt, by rw [e1, e2]⟩, ?_⟩
    rw [← e3]
theorem in_row {ts : List (Int × Int × Int)} {t : Int × Int × Int} (h : t ∈ ts) : t.2.2 ∈ rowL ts t.1 t.2.1 := by
  unfold rowL
  refine List.mem_map.mpr ⟨t, List.mem_filter.mpr ⟨h, ?_⟩, rfl⟩
  rw [decide_eq_true rfl, decide_eq_true rfl]
  rfl
theorem of_row {ts : List (Int × Int × Int)} {x y v : Int} (h : v ∈ rowL ts x y) : (x, y, v) ∈ ts := by
  unfold rowL at h
  obtain ⟨t, mt, rfl⟩ := List.mem_map.mp h
  obtain ⟨m, e⟩ := List.mem_filter.mp mt
  simp only [Bool.and_eq_true, decide_eq_true_eq] at e
  rw [← e.1, ← e.2]
  exact m
theorem ne_row {ts : List (Int × Int × Int)} {t : Int × Int × Int} (h : t ∈ ts) : rowL ts t.1 t.2.1 ≠ [] := fun e => by
  have := in_row h
  rw [e] at this
  cases this
/-- a tie between the same things that asks for less -/
theorem okT_mono {tm : List (Option Int)} {a b v w : Int} (h : v ≤ w) (k : okT tm (a, b, w) = true) : okT tm (a, b, v) = true := by
  unfold okT at *
  simp only at *
  split at k
  · simp only [Bool.not_eq_true', decide_eq_false_iff_not] at *
    omega
  · rfl
theorem kept_same {n : Nat} {ts : List (Int × Int × Int)} (h : ∀ t ∈ ts, TieOk n t.1 t.2.1 t.2.2) (tm : List (Option Int)) : keptB (fewL n ts) tm = keptB ts tm := by
  rw [Bool.eq_iff_iff]
  unfold keptB
  rw [List.all_eq_true, List.all_eq_true]
  constructor
  · intro k t mt
    have m := (mem_few h (u := (t.1, t.2.1, wOf ts (t.1, t.2.1)))).mpr ⟨⟨t, mt, rfl, rfl⟩, rfl⟩
    exact okT_mono ((wOf_max (ne_row mt)).2 _ (in_row mt)) (k _ m)
  · intro k u mu
    obtain ⟨⟨t, mt, e1, e2⟩, e3⟩ := (mem_few h).mp mu
    have ne := ne_row mt
    rw [e1, e2] at ne
    have m := of_row (wOf_max ne).1
    rw [← e3] at m
    exact k _ m
theorem few_idem {zs : List Str} {ts : List (Int × Int × Int)} (ok : TabOk zs ts) : fewL zs.length (fewL zs.length ts) = fewL zs.length ts := by
  have h := ok.ti
  have h2 := (few_ok ok).ti
  have eP : dueP zs.length (fewL zs.length ts) = dueP zs.length ts := rising_unique (rise_dueP _ _) (rise_dueP _ _) fun p => by
    rw [mem_dueP h2, mem_dueP h]
    constructor
    · rintro ⟨u, mu, rfl⟩
      obtain ⟨⟨t, mt, e1, e2⟩, _⟩ := (mem_few h).mp mu
      exact ⟨t, mt, by rw [e1, e2]⟩
    · rintro ⟨t, mt, rfl⟩
      exact ⟨_, (mem_few h (u := (t.1, t.2.1, wOf ts (t.1, t.2.1)))).mpr ⟨⟨t, mt, rfl, rfl⟩, rfl⟩, rfl⟩
  show (dueP zs.length (fewL zs.length ts)).map _ = (dueP zs.length ts).map _
  rw [eP]
  refine List.map_congr_left fun p mp => ?_
  obtain ⟨t, mt, rfl⟩ := (mem_dueP h).mp mp
  have m := (mem_few h (u := (t.1, t.2.1, wOf ts (t.1, t.2.1)))).mpr ⟨⟨t, mt, rfl, rfl⟩, rfl⟩
  have w1 := of_row (wOf_max (ne_row m)).1
  have w2 := ((mem_few h).mp w1).2
  show (t.1, t.2.1, wOf (fewL zs.length ts) (t.1, t.2.1)) = (t.1, t.2.1, wOf ts (t.1, t.2.1))
  rw [show wOf (fewL zs.length ts) (t.1, t.2.1) = wOf ts (t.1, t.2.1) from w2]
/-- as the law builds it -/
def dueL (n : Nat) (ts : List (Int × Int × Int)) : List (Int × Int × Int) := (List.range n).flatMap fun (i : Nat) => (List.range n).flatMap fun (j : Nat) => if (rowL ts i j).isEmpty = true then [] else [((i : Int), (j : Int), wOf ts (i, j))]
theorem filter_flat {α β : Type} (p : α → Bool) (f : α → β) : ∀ l : List α, (l.filter p).map f = l.flatMap fun x => if p x = true then [f x] else []
  | [] => rfl
  | x :: l => by
    rw [List.filter_cons, List.flatMap_cons, ← filter_flat p f l]
    cases p x <;> rfl
theorem few_due (n : Nat) (ts : List (Int × Int × Int)) : fewL n ts = dueL n ts := by
  unfold fewL dueL dueP
  rw [List.map_flatMap]
  congr 1
  funext i
  rw [List.map_map, filter_flat]
  congr 1
  funext j
  rw [row_any]
  cases (rowL ts i j).isEmpty <;> rfl
/-- a cell of the law's due list -/
def cellL (ts : List (Int × Int × Int)) (x y : Int) : List (Int × Int × Int) := if (rowL ts x y).isEmpty = true then [] else [(x, y, wOf ts (x, y))]
def rowsL (n : Nat) (ts : List (Int × Int × Int)) (i : Nat) : List (Int × Int × Int) := (List.range i).flatMap fun (i : Nat) => (List.range n).flatMap fun (j : Nat) => cellL ts ((0 : Int) + i) ((0 : Int) + j)
theorem rows_due (n : Nat) (ts : List (Int × Int × Int)) : rowsL n ts n = fewL n ts := by
  rw [few_due]
  unfold rowsL dueL cellL
  simp only [Int.zero_add]
theorem cell_len (ts : List (Int × Int × Int)) (x y : Int) : (cellL ts x y).length ≤ 1 := by
  unfold cellL
  split
  · exact Nat.zero_le _
  · exact Nat.le_refl _
theorem flat_le {α β : Type} (f : α → List β) (m : Nat) : ∀ l : List α, (∀ x ∈ l, (f x).length ≤ m) → (l.flatMap f).length ≤ m * l.length
  | [], _ => Nat.zero_le _
  | x :: l, h => by
    rw [List.flatMap_cons, List.length_append, List.length_cons, Nat.mul_succ]
    have h1 := h x List.mem_cons_self
    have h2 := flat_le f m l fun y k => h y (List.mem_cons_of_mem _ k)
    omega
end Ge

set_option maxHeartbeats 400000
namespace Ge
open PySem PySem.Spec PyProof.Rows L2 Sd
variable [HasT]
/-! ### the rows of the greatest weights -/
def stepR (prev cur : List (Option Int)) (t : Int × Int × Int) : List (Option Int) := match tmAt prev t.1 with
  | none => cur
  | some x => match tmAt cur t.2.1 with
    | none => cur.set t.2.1.toNat (some (x + t.2.2))
    | some y => if y < x + t.2.2 then cur.set t.2.1.toNat (some (x + t.2.2)) else cur
def nextR (ts : List (Int × Int × Int)) (prev : List (Option Int)) : List (Option Int) := ts.foldl (stepR prev) prev
def startR (m : Nat) (s : Nat) : List (Option Int) := (List.range m).map fun i => if i = s then some 0 else none
def rowN (m : Nat) (ts : List (Int × Int × Int)) (s : Nat) : Nat → List (Option Int)
  | 0 => startR m s
  | k + 1 => nextR ts (rowN m ts s k)
theorem step_len (prev cur : List (Option Int)) (t : Int × Int × Int) : (stepR prev cur t).length = cur.length := by
  unfold stepR
  split
  · rfl
  · split
    · rw [List.length_set]
    · split
      · rw [List.length_set]
      · rfl
theorem fold_len (prev : List (Option Int)) : ∀ (ts : List (Int × Int × Int)) (cur : List (Option Int)), (ts.foldl (stepR prev) cur).length = cur.length
  | [], cur => rfl
  | t :: ts, cur => by rw [List.foldl_cons, fold_len prev ts, step_len]
theorem row_len (m : Nat) (ts : List (Int × Int × Int)) (s : Nat) : ∀ k, (rowN m ts s k).length = m
  | 0 => by simp [rowN, startR]
  | k + 1 => by rw [rowN, nextR, fold_len, row_len m ts s k]
def roD (r : List (Option Int)) : Da := .lst (r.map optI)
def roO (r : List (Option Int)) : Ow := .ol ((r.map optI).map .fz)
def IsRow (o : Ow) (r : List (Option Int)) : Prop := o = roO r ∨ o = .fz (roD r)
theorem row_list {o : Ow} {r : List (Option Int)} (h : IsRow o r) : lstF [mkView o] = some (.fresh (r.map optI)) := by
  rcases h with rfl | rfl
  · show (match (Sl.view (roO r)).items with | some ds => some (Sl.fresh ds) | none => none) = _
    rw [show (Sl.view (roO r)).items = allFz ((r.map optI).map .fz) from rfl, allFz_map]
  · rfl
theorem row_ix {o : Ow} {r : List (Option Int)} (h : IsRow o r) {i : Int} (h0 : 0 ≤ i) (h1 : i < r.length) : ixF (mkView o) (.dat (.int i)) = some (.dat (optI (tmAt r i))) := by
  rcases h with rfl | rfl
  · show (match atI ((r.map optI).map Ow.fz) i with | some o => some (mkView o) | none => none) = _
    obtain ⟨n, rfl⟩ := Int.eq_ofNat_of_zero_le h0
    have hn : n < r.length := by omega
    have e : ((r.map optI).map Ow.fz)[n]? = some (.fz (optI (tmAt r n))) := by
      unfold tmAt
      rw [List.getElem?_map, List.getElem?_map, List.getD_eq_getElem?_getD, Int.toNat_natCast, List.getElem?_eq_getElem hn]
      rfl
    rw [atI_nat e]
    rfl
  · show (match atI (r.map optI) i with | some d => some (Sl.dat d) | none => none) = _
    rw [ix_tm h0 h1]
theorem ixN_n {n j : Nat} (hj : j < n) : ixN n (j : Int) = some j := by
  unfold ixN
  rw [if_pos (by omega), if_pos (by omega), Int.toNat_natCast]
theorem tm_set {r : List (Option Int)} {i : Nat} {v : Option Int} (h : i < r.length) : ((r.map optI).map Ow.fz).set i (.fz (optI v)) = ((r.set i v).map optI).map .fz := by
  rw [List.map_set, List.map_set]
section
variable {c : Cl} {ts : List (Int × Int × Int)} {m L s : Nat}
/-- the slots of _law_rows -/
def rwR (ts : List (Int × Int × Int)) (m s L : Nat) (os : List Ow) (a b d e f : Sl) : List Sl := [.dat (.int m), .dat (.tup (ts.map tieD)), .dat (.int s), .dat (.int L), .val (.ol os), .no, a, b, d, e, f]
def rwN (ts : List (Int × Int × Int)) (m s L : Nat) (os : List Ow) (a : Sl) (cur : List (Option Int)) (d e f : Sl) : List Sl := [.dat (.int m), .dat (.tup (ts.map tieD)), .dat (.int s), .dat (.int L), .val (.ol os), .no, a, .fresh (cur.map optI), d, e, f]
def osK (m : Nat) (ts : List (Int × Int × Int)) (s k : Nat) : List Ow := roO (startR m s) :: (List.range k).map fun i => .fz (roD (rowN m ts s (i + 1)))
theorem os_last (m : Nat) (ts : List (Int × Int × Int)) (s : Nat) : ∀ k, ∃ os o, osK m ts s k = os ++ [o] ∧ IsRow o (rowN m ts s k)
  | 0 => ⟨[], _, rfl, .inl rfl⟩
  | k + 1 => ⟨osK m ts s k, _, by unfold osK; rw [List.range_succ, List.map_append]; rfl, .inr rfl⟩
theorem ix_last {ρ : List Sl} {os : List Ow} {o : Ow} (h : get ρ 4 = .val (.ol (os ++ [o]))) : dOp ixF (dVar 4) (dUn negF (dC (.int 1))) ρ = .pure (mkView o) := by
  refine e_op (x := .view (.ol (os ++ [o]))) (y := .dat (.int (-1))) (by rw [v_var, h]; rfl) rfl ?_
  show (match atI (os ++ [o]) (-1) with | some o => some (mkView o) | none => none) = _
  rw [atI_last]
theorem r_turn {os : List Ow} {o : Ow} {prev cur : List (Option Int)} {a : Sl} {x y w : Int} (ho : IsRow o prev) (hl : cur.length = prev.length) (x0 : 0 ≤ x) (x1 : x < prev.length) (y0 : 0 ≤ y) (y1 : y < prev.length) :
    (dIfS (dAnd (dTest (dOp notNF (dOp ixF (dOp ixF (dVar 4) (dUn negF (dC (.int 1)))) (dVar 8)) (dC .non))) (dOr (dTest (dOp isNF (dOp ixF (dVar 7) (dVar 9)) (dC .non))) (dTest (dOp ltF (dOp ixF (dVar 7) (dVar 9)) (dOp addF (dOp ixF (dOp ixF (dVar 4) (dUn negF (dC (.int 1)))) (dVar 8)) (dVar 10)))))) (dAsg (dOp addF (dOp ixF (dOp ixF (dVar 4) (dUn negF (dC (.int 1)))) (dVar 8)) (dVar 10)) (tgSub 7 (dVar 9))) dNext)
      (rwN ts m s L (os ++ [o]) a cur (.dat (.int x)) (.dat (.int y)) (.dat (.int w))) = .pure (.nx (rwN ts m s L (os ++ [o]) a (stepR prev cur (x, y, w)) (.dat (.int x)) (.dat (.int y)) (.dat (.int w)))) := by
  generalize hρ : rwN ts m s L (os ++ [o]) a cur (.dat (.int x)) (.dat (.int y)) (.dat (.int w)) = ρ
  have g4 : get ρ 4 = .val (.ol (os ++ [o])) := by rw [← hρ]; rfl
  have g7 : get ρ 7 = .fresh (cur.map optI) := by rw [← hρ]; rfl
  have g8 : get ρ 8 = .dat (.int x) := by rw [← hρ]; rfl
  have g9 : get ρ 9 = .dat (.int y) := by rw [← hρ]; rfl
  have g10 : get ρ 10 = .dat (.int w) := by rw [← hρ]; rfl
  have v8 : dVar 8 ρ = .pure (.dat (.int x)) := by rw [v_var, g8]; rfl
  have v9 : dVar 9 ρ = .pure (.dat (.int y)) := by rw [v_var, g9]; rfl
  have v10 : dVar 10 ρ = .pure (.dat (.int w)) := by rw [v_var, g10]; rfl
  have v7 : dVar 7 ρ = .pure (.view (roO cur)) := by rw [v_var, g7]; rfl
  have E2 : dOp ixF (dOp ixF (dVar 4) (dUn negF (dC (.int 1)))) (dVar 8) ρ = .pure (.dat (optI (tmAt prev x))) := e_op (ix_last g4) v8 (row_ix ho x0 x1)
  have E3 : dOp ixF (dVar 7) (dVar 9) ρ = .pure (.dat (optI (tmAt cur y))) := e_op v7 v9 (row_ix (o := roO cur) (.inl rfl) y0 (by rw [hl]; exact y1))
  have yn : y.toNat < cur.length := by omega
  have put : ∀ z : Int, dAsg (dOp addF (dOp ixF (dOp ixF (dVar 4) (dUn negF (dC (.int 1)))) (dVar 8)) (dVar 10)) (tgSub 7 (dVar 9)) ρ = .pure (.nx (rwN ts m s L (os ++ [o]) a (cur.set y.toNat (some (z + w))) (.dat (.int x)) (.dat (.int y)) (.dat (.int w)))) ∨ tmAt prev x ≠ some z := fun z => by
    by_cases e : tmAt prev x = some z
    · left
      refine e_asg (x := .dat (.int (z + w))) (e_op E2 v10 (by rw [e]; rfl)) ?_
      rw [v_tgsub, g7, if_pos (show isOl (Sl.fresh (cur.map optI)) = true from rfl), v9, v_pb, v_subg g7, show (((cur.map optI).map Ow.fz).length) = cur.length by simp]
      obtain ⟨n, rfl⟩ := Int.eq_ofNat_of_zero_le y0
      rw [ixN_n (by omega)]
      dsimp only
      rw [← hρ, Int.toNat_natCast]
      show G.pure (rwN ts m s L (os ++ [o]) a cur (.dat (.int x)) (.dat (.int n)) (.dat (.int w)) |>.set 7 (.val (.ol (((cur.map optI).map Ow.fz).set n (.fz (optI (some (z + w)))))))) = _
      rw [tm_set (by omega)]
      rfl
    · exact .inr e
  cases e1 : tmAt prev x with
  | none =>
    refine e_ifF (e_and (c := false) (e_test (e_op E2 rfl (by rw [e1]; rfl))) nofun fun _ => rfl) ?_
    rw [v_next, ← hρ]
    unfold stepR
    rw [e1]
  | some z =>
    have c1 : dTest (dOp notNF (dOp ixF (dOp ixF (dVar 4) (dUn negF (dC (.int 1)))) (dVar 8)) (dC .non)) ρ = .pure true := e_test (e_op E2 rfl (by rw [e1]; rfl))
    have p := (put z).resolve_right (fun n => n e1)
    cases e2 : tmAt cur y with
    | none =>
      refine e_ifT (e_and c1 (fun _ => e_orT (e_test (e_op E3 rfl (by rw [e2]; rfl)))) nofun) ?_
      rw [p]
      unfold stepR
      rw [e1]
      dsimp only
      rw [e2]
    | some u =>
      have c2 : dTest (dOp isNF (dOp ixF (dVar 7) (dVar 9)) (dC .non)) ρ = .pure false := e_test (e_op E3 rfl (by rw [e2]; rfl))
      have c3 : dTest (dOp ltF (dOp ixF (dVar 7) (dVar 9)) (dOp addF (dOp ixF (dOp ixF (dVar 4) (dUn negF (dC (.int 1)))) (dVar 8)) (dVar 10))) ρ = .pure (decide (u < z + w)) := e_test (e_op E3 (e_op (z := .dat (.int (z + w))) E2 v10 (by rw [e1]; rfl)) (by rw [e2]; rfl))
      by_cases g : u < z + w
      · refine e_ifT (e_and c1 (fun _ => e_orF c2 (c3.trans (by rw [decide_eq_true g]))) nofun) ?_
        rw [p]
        unfold stepR
        rw [e1]
        dsimp only
        rw [e2]
        dsimp only
        rw [if_pos g]
      · refine e_ifF (e_and c1 (fun _ => e_orF c2 (c3.trans (by rw [decide_eq_false g]))) nofun) ?_
        rw [v_next, ← hρ]
        unfold stepR
        rw [e1]
        dsimp only
        rw [e2]
        dsimp only
        rw [if_neg g]
end
end Ge

set_option maxHeartbeats 400000
namespace Ge
open PySem PySem.Spec PyProof.Rows L2 Sd
variable [HasT]
section
variable {c : Cl} {ts : List (Int × Int × Int)} {m L s : Nat}
/-- the ends of ties are numbers of things -/
def EndsOk (m : Nat) (ts : List (Int × Int × Int)) : Prop := ∀ t ∈ ts, (0 ≤ t.1 ∧ t.1 < m) ∧ 0 ≤ t.2.1 ∧ t.2.1 < m
theorem r_pass {os : List Ow} {o : Ow} {prev : List (Option Int)} {a d e f : Sl} (ho : IsRow o prev) (hm : prev.length = m) (ok : EndsOk m ts) :
    ∃ d' e' f', dFor (dItA (dSrc (dVar 1))) (tgTup 3 (tgCons (tgName 8) (tgCons (tgName 9) (tgCons (tgName 10) tgNil)))) (dIfS (dAnd (dTest (dOp notNF (dOp ixF (dOp ixF (dVar 4) (dUn negF (dC (.int 1)))) (dVar 8)) (dC .non))) (dOr (dTest (dOp isNF (dOp ixF (dVar 7) (dVar 9)) (dC .non))) (dTest (dOp ltF (dOp ixF (dVar 7) (dVar 9)) (dOp addF (dOp ixF (dOp ixF (dVar 4) (dUn negF (dC (.int 1)))) (dVar 8)) (dVar 10)))))) (dAsg (dOp addF (dOp ixF (dOp ixF (dVar 4) (dUn negF (dC (.int 1)))) (dVar 8)) (dVar 10)) (tgSub 7 (dVar 9))) dNext)
      (rwN ts m s L (os ++ [o]) a prev d e f) = .pure (.nx (rwN ts m s L (os ++ [o]) a (nextR ts prev) d' e' f')) := by
  have key := for_nx (ρ := rwN ts m s L (os ++ [o]) a prev d e f) (p := tgTup 3 (tgCons (tgName 8) (tgCons (tgName 9) (tgCons (tgName 10) tgNil)))) (q := dIfS (dAnd (dTest (dOp notNF (dOp ixF (dOp ixF (dVar 4) (dUn negF (dC (.int 1)))) (dVar 8)) (dC .non))) (dOr (dTest (dOp isNF (dOp ixF (dVar 7) (dVar 9)) (dC .non))) (dTest (dOp ltF (dOp ixF (dVar 7) (dVar 9)) (dOp addF (dOp ixF (dOp ixF (dVar 4) (dUn negF (dC (.int 1)))) (dVar 8)) (dVar 10)))))) (dAsg (dOp addF (dOp ixF (dOp ixF (dVar 4) (dUn negF (dC (.int 1)))) (dVar 8)) (dVar 10)) (tgSub 7 (dVar 9))) dNext) (xs := ts.map tieD) (fun j ρ => ∃ d e f, ρ = rwN ts m s L (os ++ [o]) a ((ts.take j).foldl (stepR prev) prev) d e f) ⟨d, e, f, rfl⟩ ?_
  · obtain ⟨ρ3, h1, d', e', f', h2⟩ := key
    refine ⟨d', e', f', ?_⟩
    rw [v_for, v_ita, v_src]
    refine Eq.trans (show _ = forG _ _ (ts.map tieD) _ from rfl) (h1.trans ?_)
    rw [h2, List.length_map, List.take_length]
    try rfl
  · rintro k z ρ1 hz ⟨d, e, f, rfl⟩
    rw [List.getElem?_map] at hz
    cases ht : ts[k]? with
    | none => rw [ht] at hz; cases hz
    | some t =>
      rw [ht] at hz
      cases hz
      obtain ⟨x, y, w⟩ := t
      obtain ⟨⟨x0, x1⟩, y0, y1⟩ := ok _ (List.mem_of_getElem? ht)
      refine ⟨_, r_turn ho (fold_len prev _ _) x0 (by rw [hm]; exact x1) y0 (by rw [hm]; exact y1), .dat (.int x), .dat (.int y), .dat (.int w), ?_⟩
      rw [List.take_add_one, ht]
      simp only [Option.toList_some, List.foldl_append, List.foldl_cons, List.foldl_nil]
theorem r_outer {k : Nat} {a0 a b d e f : Sl} (ok : EndsOk m ts) (hk : k < 1000) (hs : (osK m ts s k).length ≤ 100000) :
    ∃ b' d' e' f', dSeq (dAsg (dCB lstF (dCons (dOp ixF (dVar 4) (dUn negF (dC (.int 1)))) dNil)) (tgName 7))
      (dSeq (dFor (dItA (dSrc (dVar 1))) (tgTup 3 (tgCons (tgName 8) (tgCons (tgName 9) (tgCons (tgName 10) tgNil)))) (dIfS (dAnd (dTest (dOp notNF (dOp ixF (dOp ixF (dVar 4) (dUn negF (dC (.int 1)))) (dVar 8)) (dC .non))) (dOr (dTest (dOp isNF (dOp ixF (dVar 7) (dVar 9)) (dC .non))) (dTest (dOp ltF (dOp ixF (dVar 7) (dVar 9)) (dOp addF (dOp ixF (dOp ixF (dVar 4) (dUn negF (dC (.int 1)))) (dVar 8)) (dVar 10)))))) (dAsg (dOp addF (dOp ixF (dOp ixF (dVar 4) (dUn negF (dC (.int 1)))) (dVar 8)) (dVar 10)) (tgSub 7 (dVar 9))) dNext))
        (dFz 7 (dDropX (dApp 4 (dX (dVar 7))))))
      (rwR ts m s L (osK m ts s k) a b d e f) = .pure (.nx (rwR ts m s L (osK m ts s (k + 1)) a b' d' e' f')) := by
  obtain ⟨os, o, ho, hr⟩ := os_last m ts s k
  obtain ⟨d', e', f', hp⟩ := r_pass (s := s) (L := L) (os := os) (a := a) (d := d) (e := e) (f := f) hr (row_len m ts s k) ok
  refine ⟨.dat (roD (rowN m ts s (k + 1))), d', e', f', ?_⟩
  refine e_seq (ρ1 := rwN ts m s L (os ++ [o]) a (rowN m ts s k) d e f) (e_asg (e_cb (e_cons (ix_last (os := os) (o := o) (by rw [ho]; rfl)) rfl) (row_list hr)) (by rw [ho]; rfl)) (e_seq hp ?_)
  rw [v_dfz]
  show dDropX (dApp 4 (dX (dVar 7))) ([.dat (.int m), .dat (.tup (ts.map tieD)), .dat (.int s), .dat (.int L), .val (.ol (os ++ [o])), .no, a, .dat (Ow.ol (((nextR ts (rowN m ts s k)).map optI).map .fz)).frz, d', e', f'] : List Sl) = _
  rw [v_dropx, v_app]
  show ((if small ((os ++ [o]).length + 1) = true then G.pure (Sl.dat .non, _) else .fail).bind _) = _
  rw [if_pos (small_ok (by rw [← ho]; omega)), v_pb]
  have fz : (Ow.ol (((nextR ts (rowN m ts s k)).map optI).map Ow.fz)).frz = roD (rowN m ts s (k + 1)) := by
    show Da.lst (frzs _) = _
    rw [frzs_map]
    rfl
  rw [fz]
  show G.pure (Out.nx [.dat (.int m), .dat (.tup (ts.map tieD)), .dat (.int s), .dat (.int L), .val (.ol ((os ++ [o]) ++ [.fz (roD (rowN m ts s (k + 1)))])), .no, a, .dat (roD (rowN m ts s (k + 1))), d', e', f']) = _
  have e : (os ++ [o]) ++ [.fz (roD (rowN m ts s (k + 1)))] = osK m ts s (k + 1) := by
    rw [← ho]
    unfold osK
    rw [List.range_succ, List.map_append]
    rfl
  rw [e]
  rfl
end
end Ge

set_option maxHeartbeats 400000
namespace Ge
open PySem PySem.Spec PyProof.Rows L2 Sd
variable [HasT]
section
variable {c : Cl} {ts : List (Int × Int × Int)} {m L s : Nat}
theorem r_rows (ok : EndsOk m ts) (hm : m ≤ 1000) (hL : L ≤ 900) : F_law_rows c [.dat (.int m), .dat (.tup (ts.map tieD)), .dat (.int s), .dat (.int L)] = .pure (.val (.ol (osK m ts s L))) := by
  unfold F_law_rows D_law_rows
  rw [def_at (ρ0 := [.dat (.int m), .dat (.tup (ts.map tieD)), .dat (.int s), .dat (.int L), .no, .no, .no, .no, .no, .no, .no]) rfl]
  have h1 : dAsg (dLst (dCons (dLc (dItR1 (dVar 0)) (tgName 5) dYes (dIf (dTest (dOp eqF (dVar 5) (dVar 2))) (dC (.int 0)) (dC .non)) [5]) dNil)) (tgName 4) [.dat (.int m), .dat (.tup (ts.map tieD)), .dat (.int s), .dat (.int L), .no, .no, .no, .no, .no, .no, .no] = .pure (.nx (rwR ts m s L (osK m ts s 0) .no .no .no .no .no)) := by
    refine e_asg (x := .val (.ol (osK m ts s 0))) (e_lst (l := [.val (roO (startR m s))]) (os := osK m ts s 0) (e_cons ?_ rfl) rfl rfl) rfl
    refine (lcY (l := List.range m) (g := fun i => .int (i : Int)) (fun i => [.dat (.int m), .dat (.tup (ts.map tieD)), .dat (.int s), .dat (.int L), .no, .dat (.int (i : Int)), .no, .no, .no, .no, .no]) (fun i => optI (if i = s then some 0 else none)) (v_r1p (by omega) rfl) rfl (by rw [List.length_range]; omega) (fun z _ => rfl) (fun z _ => ?_)).trans ?_
    · show dIf (dTest (dOp eqF (dVar 5) (dVar 2))) (dC (.int 0)) (dC .non) _ = _
      rw [v_if, v_test, v_op]
      show ((optG (eqF (.dat (.int (z : Int))) (.dat (.int (s : Int))))).bind boolG).bind _ = _
      rw [v_eqi]
      show (if decide ((z : Int) = s) = true then _ else _) = _
      by_cases e : z = s
      · rw [if_pos e, if_pos (decide_eq_true (by omega))]
        rfl
      · rw [if_neg e, if_neg (by simp; omega)]
        rfl
    · unfold startR roO
      show _ = G.pure (Sl.fresh (((List.range m).map _).map optI))
      rw [List.map_map]
      rfl
  have key := for_nx (ρ := rwR ts m s L (osK m ts s 0) .no .no .no .no .no) (p := tgName 6) (q := dSeq (dAsg (dCB lstF (dCons (dOp ixF (dVar 4) (dUn negF (dC (.int 1)))) dNil)) (tgName 7))
      (dSeq (dFor (dItA (dSrc (dVar 1))) (tgTup 3 (tgCons (tgName 8) (tgCons (tgName 9) (tgCons (tgName 10) tgNil)))) (dIfS (dAnd (dTest (dOp notNF (dOp ixF (dOp ixF (dVar 4) (dUn negF (dC (.int 1)))) (dVar 8)) (dC .non))) (dOr (dTest (dOp isNF (dOp ixF (dVar 7) (dVar 9)) (dC .non))) (dTest (dOp ltF (dOp ixF (dVar 7) (dVar 9)) (dOp addF (dOp ixF (dOp ixF (dVar 4) (dUn negF (dC (.int 1)))) (dVar 8)) (dVar 10)))))) (dAsg (dOp addF (dOp ixF (dOp ixF (dVar 4) (dUn negF (dC (.int 1)))) (dVar 8)) (dVar 10)) (tgSub 7 (dVar 9))) dNext))
        (dFz 7 (dDropX (dApp 4 (dX (dVar 7))))))) (xs := (List.range L).map fun (i : Nat) => .int (i : Int)) (fun k ρ => ∃ a b d e f, ρ = rwR ts m s L (osK m ts s k) a b d e f) ⟨.no, .no, .no, .no, .no, rfl⟩ ?_
  · obtain ⟨ρ3, h2, a, b, d, e, f, h3⟩ := key
    rw [v_seq2, h1]
    show (dSeq (dFor (dItR1 (dVar 3)) _ _) (dRetV 4) (rwR ts m s L (osK m ts s 0) .no .no .no .no .no)).bind finG = _
    rw [v_seq2, v_for, v_r1p (n := L) (by omega) rfl, v_pb, h2, h3, List.length_map, List.length_range]
    rfl
  · rintro k z ρ1 hz ⟨a, b, d, e, f, rfl⟩
    rw [List.getElem?_map] at hz
    have hk : k < L := by
      cases hr : (List.range L)[k]? with
      | none => rw [hr] at hz; cases hz
      | some q => simpa using (List.getElem?_eq_some_iff.mp hr).1
    rw [List.getElem?_range hk] at hz
    cases hz
    obtain ⟨b', d', e', f', h⟩ := r_outer (ts := ts) (m := m) (s := s) (L := L) (k := k) (a0 := .no) (a := .dat (.int (k : Int))) (b := b) (d := d) (e := e) (f := f) ok (by omega) (by unfold osK; simp; omega)
    exact ⟨_, h, _, _, _, _, _, rfl⟩
end
end Ge

set_option maxHeartbeats 400000
namespace Ge
open PySem PySem.Spec PyProof.Rows L2 Sd
/-! ### whether times are held: plain -/
def ringOk (row : List (Option Int)) (i : Nat) : Bool := match tmAt row i with
  | some x => decide (x ≤ 0) | none => false
def walkOk (tm : List (Option Int)) (row : List (Option Int)) (m : Nat) (a : Int) : Bool := (List.range m).all fun j => match tmAt tm j, tmAt row j with
  | some b, some v => decide (v ≤ b - a) | _, _ => true
def heldB (m : Nat) (tm : List (Option Int)) (rw rr : Nat → List (Option Int)) : Bool := (List.range m).all fun i => match tmAt tm i with
  | none => ringOk (rr i) i | some a => walkOk tm (rw i) m a
/-- all rows at once -/
def ringsP (tm : List (Option Int)) (rows : List (List (Option Int))) : Bool := rows.zipIdx.all fun p => match tmAt tm p.2 with | none => ringOk p.1 p.2 | some _ => true
def walksP (tm : List (Option Int)) (rows : List (List (Option Int))) : Bool := rows.zipIdx.all fun p => match tmAt tm p.2 with | none => true | some a => walkOk tm p.1 rows.length a
def goC (P : Nat → List (List (Option Int)) → Bool) (ts : List (Int × Int × Int)) : Nat → Nat → List (List (Option Int)) → Bool
  | 0, _, _ => true
  | n + 1, k, rows => P k rows && goC P ts n (k + 1) (rows.map (nextR ts))
def chk (m : Nat) (ts : List (Int × Int × Int)) (tm : List (Option Int)) (L R0 W0 : Nat) : Bool :=
  goC (fun k rows => (ringsP tm rows == decide (k < R0)) && (walksP tm rows == decide (k < W0))) ts (L + 1) 0 ((List.range m).map (startR m))
theorem go_ok {P : Nat → List (List (Option Int)) → Bool} {ts : List (Int × Int × Int)} {m : Nat} : ∀ {n k : Nat}, goC P ts n k ((List.range m).map fun s => rowN m ts s k) = true → ∀ j, k ≤ j → j < k + n → P j ((List.range m).map fun s => rowN m ts s j) = true
  | 0, k, _, j, h1, h2 => by omega
  | n + 1, k, h, j, h1, h2 => by
    unfold goC at h
    rw [Bool.and_eq_true, List.map_map] at h
    by_cases e : j = k
    · rw [e]; exact h.1
    · exact go_ok (n := n) (k := k + 1) h.2 j (by omega) (by omega)
def ringT (n : Nat) : List (Int × Int × Int) := (List.range (n - 1)).map (fun (i : Nat) => ((i : Int), (i : Int) + 1, (0 : Int))) ++ [((n : Int) - 1, 0, 1)]
def rowT (t : Nat) : List (Int × Int × Int) := (List.range t).map (fun (i : Nat) => ((i : Int), (i : Int) + 1, (1 : Int)))
def roundT (t : Nat) : List (Int × Int × Int) := (List.range 10).map (fun (i : Nat) => ((i : Int) + 1, (i : Int) + 2, (0 : Int))) ++ [(11, 1, 1), (0, 1, 0), ((t : Int) - 12, 0, 0)]
def noT12 (n : Nat) : List (Option Int) := List.replicate n none
def rowTm (t : Nat) : List (Option Int) := [some 0] ++ List.replicate (t - 1) none ++ [some ((t : Int) - 1)]
def oneTm : List (Option Int) := [some 0] ++ List.replicate 11 none
theorem zip_all {α : Type} (f : Nat → α) (p : α × Nat → Bool) (m : Nat) : ((List.range m).map f).zipIdx.all p = (List.range m).all fun i => p (f i, i) := by
  rw [Bool.eq_iff_iff, List.all_eq_true, List.all_eq_true]
  constructor
  · intro h i hi
    refine h (f i, i) ?_
    rw [List.mem_zipIdx_iff_getElem?, List.getElem?_map, List.getElem?_range (List.mem_range.mp hi)]
    rfl
  · rintro h ⟨x, i⟩ hx
    rw [List.mem_zipIdx_iff_getElem?, List.getElem?_map] at hx
    cases e : (List.range m)[i]? with
    | none => rw [e] at hx; cases hx
    | some j =>
      have hi : i < m := by simpa using (List.getElem?_eq_some_iff.mp e).1
      rw [List.getElem?_range hi] at hx
      cases hx
      exact h i (List.mem_range.mpr hi)
theorem held_chk {m : Nat} {ts : List (Int × Int × Int)} {tm : List (Option Int)} {L R0 W0 w r : Nat} (h : chk m ts tm L R0 W0 = true) (hw : w ≤ L) (hr : r ≤ L) :
    heldB m tm (fun i => rowN m ts i w) (fun i => rowN m ts i r) = (decide (r < R0) && decide (w < W0)) := by
  have g := go_ok (m := m) (k := 0) h
  have e1 := g r (by omega) (by omega)
  have e2 := g w (by omega) (by omega)
  simp only [Bool.and_eq_true, beq_iff_eq] at e1 e2
  rw [← e1.1, ← e2.2]
  unfold ringsP walksP heldB
  rw [zip_all, zip_all, List.length_map, List.length_range, Bool.eq_iff_iff, Bool.and_eq_true, List.all_eq_true, List.all_eq_true, List.all_eq_true]
  constructor
  · intro h
    refine ⟨fun i hi => ?_, fun i hi => ?_⟩
    · have := h i hi
      cases e : tmAt tm i with
      | none => rw [e] at this; exact this
      | some a => rfl
    · have := h i hi
      cases e : tmAt tm i with
      | none => rfl
      | some a => rw [e] at this; exact this
  · rintro ⟨h1, h2⟩ i hi
    have k1 := h1 i hi
    have k2 := h2 i hi
    cases e : tmAt tm i with
    | none => rw [e] at k1; exact k1
    | some a => rw [e] at k2; exact k2
theorem chkA {n : Nat} (h1 : 2 ≤ n) (h2 : n ≤ 12) : chk n (ringT n) (noT12 n) (2 * n + 2) n 1000 = true := by
  have h : ((List.range 13).all fun n => decide (n < 2) || chk n (ringT n) (noT12 n) (2 * n + 2) n 1000) = true := by kernel_rfl
  have := List.all_eq_true.mp h n (List.mem_range.mpr (by omega))
  rw [Bool.or_eq_true, decide_eq_true_eq] at this
  exact this.resolve_left (by omega)
theorem chkB {t : Nat} (h1 : 2 ≤ t) (h2 : t ≤ 11) : chk (t + 1) (rowT t) (rowTm t) (2 * (t + 1) + 2) 1000 t = true := by
  have h : ((List.range 12).all fun t => decide (t < 2) || chk (t + 1) (rowT t) (rowTm t) (2 * (t + 1) + 2) 1000 t) = true := by kernel_rfl
  have := List.all_eq_true.mp h t (List.mem_range.mpr (by omega))
  rw [Bool.or_eq_true, decide_eq_true_eq] at this
  exact this.resolve_left (by omega)
theorem chkC : chk 12 (ringT 12) oneTm 26 12 12 = true := by kernel_rfl
theorem chkD {t : Nat} (h1 : 13 ≤ t) (h2 : t ≤ 20 + 1) : chk 12 (roundT t) oneTm 26 11 t = true := by
  have h : ((List.range 9).all fun i => chk 12 (roundT (i + 13)) oneTm 26 11 (i + 13)) = true := by kernel_rfl
  have := List.all_eq_true.mp h (t - 13) (List.mem_range.mpr (by omega))
  rw [show t - 13 + 13 = t by omega] at this
  exact this
end Ge

set_option maxHeartbeats 400000
namespace Ge
open PySem PySem.Spec PyProof.Rows L2 Sd
variable [HasT]
def rowsDa (m : Nat) (ts : List (Int × Int × Int)) (L : Nat) : Da := .lst ((List.range m).map fun s => .lst ((List.range (L + 1)).map fun k => roD (rowN m ts s k)))
theorem ixF_lst {ds : List Da} {n : Nat} {d : Da} (h : ds[n]? = some d) : ixF (.dat (.lst ds)) (.dat (.int n)) = some (.dat d) := by
  show (match atI ds n with | some d => some (Sl.dat d) | none => none) = _
  rw [atI_nat h]
theorem ixF_tup {ds : List Da} {n : Nat} {d : Da} (h : ds[n]? = some d) : ixF (.dat (.tup ds)) (.dat (.int n)) = some (.dat d) := by
  show (match atI ds n with | some d => some (Sl.dat d) | none => none) = _
  rw [atI_nat h]
theorem tm_get {tm : List (Option Int)} {n : Nat} (h : n < tm.length) : (tm.map optI)[n]? = some (optI (tmAt tm n)) := by
  unfold tmAt
  rw [List.getElem?_map, List.getD_eq_getElem?_getD, Int.toNat_natCast, List.getElem?_eq_getElem h]
  rfl
section
variable {c : Cl} {ts : List (Int × Int × Int)} {tm : List (Option Int)} {m L wn rn : Nat} {x : Da}
def hR (m : Nat) (ts : List (Int × Int × Int)) (L : Nat) (tm : List (Option Int)) (x : Da) (wn rn : Nat) (f g h : Sl) : List Sl := [.dat (rowsDa m ts L), .dat (.tup (tm.map optI)), .dat x, .dat (.int wn), .dat (.int rn), f, g, h]
theorem cell_at {ρ : List Sl} {a b d : Nat} {i k j : Nat} (h0 : get ρ 0 = .dat (rowsDa m ts L)) (ha : get ρ a = .dat (.int i)) (hb : get ρ b = .dat (.int k)) (hd : get ρ d = .dat (.int j)) (hi : i < m) (hk : k ≤ L) (hj : j < m) :
    dOp ixF (dOp ixF (dOp ixF (dVar 0) (dVar a)) (dVar b)) (dVar d) ρ = .pure (.dat (optI (tmAt (rowN m ts i k) j))) := by
  refine e_op (x := .dat (roD (rowN m ts i k))) (y := .dat (.int j)) (e_op (x := .dat (.lst ((List.range (L + 1)).map fun k => roD (rowN m ts i k)))) (y := .dat (.int k)) (e_op (x := .dat (rowsDa m ts L)) (y := .dat (.int i)) (by rw [v_var, h0]; rfl) (by rw [v_var, ha]; rfl) ?_) (by rw [v_var, hb]; rfl) ?_) (by rw [v_var, hd]; rfl) ?_
  · exact ixF_lst (by rw [List.getElem?_map, List.getElem?_range hi]; rfl)
  · exact ixF_lst (by rw [List.getElem?_map, List.getElem?_range (by omega)]; rfl)
  · exact ixF_lst (tm_get (by rw [row_len]; exact hj))
theorem time_at {ρ : List Sl} {a : Nat} {i : Nat} (h0 : get ρ 1 = .dat (.tup (tm.map optI))) (ha : get ρ a = .dat (.int i)) (hi : i < tm.length) : dOp ixF (dVar 1) (dVar a) ρ = .pure (.dat (optI (tmAt tm i))) :=
  e_op (x := .dat (.tup (tm.map optI))) (y := .dat (.int i)) (by rw [v_var, h0]; rfl) (by rw [v_var, ha]; rfl) (ixF_tup (tm_get hi))
def badW (tm : List (Option Int)) (row : List (Option Int)) (i j : Nat) : Bool := match tmAt tm i, tmAt tm j, tmAt row j with
  | some a, some b, some v => decide (b - a < v) | _, _, _ => false
theorem held_in {i j : Nat} {g h : Sl} (hi : i < m) (hj : j < m) (hw : wn ≤ L) (ht : tm.length = m) :
    dSeq (dAsg (dOp ixF (dOp ixF (dOp ixF (dVar 0) (dVar 5)) (dVar 3)) (dVar 6)) (tgName 7)) (dIfS (dAnd (dTest (dOp notNF (dOp ixF (dVar 1) (dVar 5)) (dC .non))) (dAnd (dTest (dOp notNF (dOp ixF (dVar 1) (dVar 6)) (dC .non))) (dTest (dOp notNF (dVar 7) (dC .non))))) (dIfS (dTest (dOp ltF (dOp subF (dOp ixF (dVar 1) (dVar 6)) (dOp ixF (dVar 1) (dVar 5))) (dVar 7))) (dRet (dC (.bl false))) dNext) dNext)
      (hR m ts L tm x wn rn (.dat (.int i)) (.dat (.int j)) h) = .pure (if badW tm (rowN m ts i wn) i j = true then .rt (.dat (.bl false)) else .nx (hR m ts L tm x wn rn (.dat (.int i)) (.dat (.int j)) (.dat (optI (tmAt (rowN m ts i wn) j))))) := by
  refine e_seq (ρ1 := hR m ts L tm x wn rn (.dat (.int i)) (.dat (.int j)) (.dat (optI (tmAt (rowN m ts i wn) j)))) (e_asg (cell_at (b := 3) (d := 6) (a := 5) rfl rfl rfl rfl hi hw hj) rfl) ?_
  have t5 : dOp ixF (dVar 1) (dVar 5) (hR m ts L tm x wn rn (.dat (.int i)) (.dat (.int j)) (.dat (optI (tmAt (rowN m ts i wn) j)))) = .pure (.dat (optI (tmAt tm i))) := time_at rfl rfl (by omega)
  have t6 : dOp ixF (dVar 1) (dVar 6) (hR m ts L tm x wn rn (.dat (.int i)) (.dat (.int j)) (.dat (optI (tmAt (rowN m ts i wn) j)))) = .pure (.dat (optI (tmAt tm j))) := time_at rfl rfl (by omega)
  have t7 : dVar 7 (hR m ts L tm x wn rn (.dat (.int i)) (.dat (.int j)) (.dat (optI (tmAt (rowN m ts i wn) j)))) = .pure (.dat (optI (tmAt (rowN m ts i wn) j))) := rfl
  generalize hR m ts L tm x wn rn (.dat (.int i)) (.dat (.int j)) (.dat (optI (tmAt (rowN m ts i wn) j))) = ρ at t5 t6 t7 ⊢
  unfold badW
  cases e1 : tmAt tm i with
  | none =>
    rw [e1] at t5
    exact e_ifF (e_and (c := false) (e_test (e_op t5 rfl rfl)) nofun fun _ => rfl) rfl
  | some a =>
    rw [e1] at t5
    have c1 : dTest (dOp notNF (dOp ixF (dVar 1) (dVar 5)) (dC .non)) ρ = .pure true := e_test (e_op t5 rfl rfl)
    cases e2 : tmAt tm j with
    | none =>
      rw [e2] at t6
      exact e_ifF (e_and c1 (fun _ => e_and (c := false) (e_test (e_op t6 rfl rfl)) nofun fun _ => rfl) nofun) rfl
    | some b =>
      rw [e2] at t6
      have c2 : dTest (dOp notNF (dOp ixF (dVar 1) (dVar 6)) (dC .non)) ρ = .pure true := e_test (e_op t6 rfl rfl)
      cases e3 : tmAt (rowN m ts i wn) j with
      | none =>
        rw [e3] at t7
        exact e_ifF (e_and c1 (fun _ => e_and c2 (fun _ => e_test (e_op t7 rfl rfl)) nofun) nofun) rfl
      | some v =>
        rw [e3] at t7
        have c3 : dTest (dOp notNF (dVar 7) (dC .non)) ρ = .pure true := e_test (e_op t7 rfl rfl)
        refine e_ifT (e_and c1 (fun _ => e_and c2 (fun _ => c3) nofun) nofun) ?_
        have c4 : dTest (dOp ltF (dOp subF (dOp ixF (dVar 1) (dVar 6)) (dOp ixF (dVar 1) (dVar 5))) (dVar 7)) ρ = .pure (decide (b - a < v)) := e_test (e_op (x := .dat (.int (b - a))) (e_op t6 t5 rfl) t7 rfl)
        by_cases g : b - a < v
        · refine e_ifT (c4.trans (by rw [decide_eq_true g])) ?_
          rw [if_pos (decide_eq_true g)]
          rfl
        · refine e_ifF (c4.trans (by rw [decide_eq_false g])) ?_
          rw [if_neg (by simpa using g)]
          rfl
end
end Ge

set_option maxHeartbeats 400000
namespace Ge
open PySem PySem.Spec PyProof.Rows L2 Sd
variable [HasT]
section
variable {c : Cl} {ts : List (Int × Int × Int)} {tm : List (Option Int)} {m L wn rn : Nat} {x : Da}
abbrev inD : DS := dSeq (dAsg (dOp ixF (dOp ixF (dOp ixF (dVar 0) (dVar 5)) (dVar 3)) (dVar 6)) (tgName 7)) (dIfS (dAnd (dTest (dOp notNF (dOp ixF (dVar 1) (dVar 5)) (dC .non))) (dAnd (dTest (dOp notNF (dOp ixF (dVar 1) (dVar 6)) (dC .non))) (dTest (dOp notNF (dVar 7) (dC .non))))) (dIfS (dTest (dOp ltF (dOp subF (dOp ixF (dVar 1) (dVar 6)) (dOp ixF (dVar 1) (dVar 5))) (dVar 7))) (dRet (dC (.bl false))) dNext) dNext)
theorem rng_at {m k : Nat} {z : Da} (hz : ((List.range m).map fun (i : Nat) => Da.int (i : Int))[k]? = some z) : k < m ∧ z = .int k := by
  rw [List.getElem?_map] at hz
  cases e : (List.range m)[k]? with
  | none => rw [e] at hz; cases hz
  | some q =>
    have hk : k < m := by simpa using (List.getElem?_eq_some_iff.mp e).1
    rw [List.getElem?_range hk] at hz
    cases hz
    exact ⟨hk, rfl⟩
theorem len0 {f g h : Sl} : dCB lenF (dCons (dVar 0) dNil) (hR m ts L tm x wn rn f g h) = .pure (.dat (.int m)) := by
  refine e_cb (l := [.dat (rowsDa m ts L)]) rfl ?_
  show (some (Sl.dat (.int (List.length _ : Nat))) : Option Sl) = _
  rw [List.length_map, List.length_range]
theorem held_row {i : Nat} {g h : Sl} (hi : i < m) (hm : m ≤ 1000) (hw : wn ≤ L) (ht : tm.length = m) :
    (∃ g' h', dFor (dItR1 (dCB lenF (dCons (dVar 0) dNil))) (tgName 6) inD (hR m ts L tm x wn rn (.dat (.int i)) g h) = .pure (.nx (hR m ts L tm x wn rn (.dat (.int i)) g' h')) ∧ ∀ j < m, badW tm (rowN m ts i wn) i j = false) ∨
      (dFor (dItR1 (dCB lenF (dCons (dVar 0) dNil))) (tgName 6) inD (hR m ts L tm x wn rn (.dat (.int i)) g h) = .pure (.rt (.dat (.bl false))) ∧ ∃ j < m, badW tm (rowN m ts i wn) i j = true) := by
  have hf : dFor (dItR1 (dCB lenF (dCons (dVar 0) dNil))) (tgName 6) inD (hR m ts L tm x wn rn (.dat (.int i)) g h) = forG (tgName 6) inD ((List.range m).map fun (i : Nat) => Da.int (i : Int)) (hR m ts L tm x wn rn (.dat (.int i)) g h) := by
    rw [v_for, v_r1p (n := m) (by omega) len0]
    rfl
  rcases for_eq (ρ := hR m ts L tm x wn rn (.dat (.int i)) g h) (p := tgName 6) (q := inD) (xs := (List.range m).map fun (i : Nat) => Da.int (i : Int)) (fun k ρ => (∃ g' h', ρ = hR m ts L tm x wn rn (.dat (.int i)) g' h') ∧ ∀ j < k, badW tm (rowN m ts i wn) i j = false) (fun s => s = .dat (.bl false) ∧ ∃ j < m, badW tm (rowN m ts i wn) i j = true) ⟨⟨g, h, rfl⟩, fun j z => by omega⟩ (fun k z ρ1 hz hI => by
    obtain ⟨⟨g', h', rfl⟩, hj⟩ := hI
    obtain ⟨hk, rfl⟩ := rng_at hz
    have e : (tgName 6 (hR m ts L tm x wn rn (.dat (.int i)) g' h') (.dat (.int k))).bind inD = _ := held_in (ts := ts) (x := x) (rn := rn) (g := .no) (h := h') hi hk hw ht
    rw [e]
    cases b : badW tm (rowN m ts i wn) i k with
    | true => exact .inr ⟨_, rfl, rfl, k, hk, b⟩
    | false =>
      refine .inl ⟨_, rfl, ⟨_, _, rfl⟩, fun j z => ?_⟩
      by_cases ej : j = k
      · rw [ej]; exact b
      · exact hj j (by omega)) with ⟨ρ3, h1, ⟨g', h', rfl⟩, h2⟩ | ⟨s, h1, rfl, h2⟩
  · exact .inl ⟨g', h', hf.trans h1, fun j hj => h2 j (by simpa using hj)⟩
  · exact .inr ⟨hf.trans h1, h2⟩
theorem walk_bad {i : Nat} {a : Int} {row : List (Option Int)} (e : tmAt tm i = some a) : walkOk tm row m a = true ↔ ∀ j < m, badW tm row i j = false := by
  unfold walkOk
  rw [List.all_eq_true]
  refine ⟨fun h j hj => ?_, fun h j hj => ?_⟩
  · have := h j (List.mem_range.mpr hj)
    unfold badW
    rw [e]
    cases e2 : tmAt tm j with
    | none => rfl
    | some b =>
      cases e3 : tmAt row j with
      | none => rfl
      | some v =>
        rw [e2, e3] at this
        simpa using this
  · have := h j (List.mem_range.mp hj)
    unfold badW at this
    rw [e] at this
    cases e2 : tmAt tm j with
    | none => rfl
    | some b =>
      cases e3 : tmAt row j with
      | none => rfl
      | some v =>
        rw [e2, e3] at this
        simpa using this
theorem self_some (m : Nat) (ts : List (Int × Int × Int)) {s : Nat} (hs : s < m) : ∀ k, ∃ x, tmAt (rowN m ts s k) s = some x
  | 0 => ⟨0, by
    unfold tmAt rowN startR
    rw [List.getD_eq_getElem?_getD, Int.toNat_natCast, List.getElem?_map, List.getElem?_range hs]
    simp⟩
  | k + 1 => by
    have key : ∀ (prev : List (Option Int)) (ts : List (Int × Int × Int)) (cur : List (Option Int)), (∃ x, tmAt cur s = some x) → ∃ x, tmAt (ts.foldl (stepR prev) cur) s = some x := by
      intro prev ts
      induction ts with
      | nil => exact fun cur h => h
      | cons t ts ih =>
        intro cur h
        refine ih _ ?_
        have st : ∀ (i : Nat) (z : Int), ∃ x, tmAt (cur.set i (some z)) s = some x := fun i z => by
          obtain ⟨x, hx⟩ := h
          unfold tmAt at hx ⊢
          rw [List.getD_eq_getElem?_getD, Int.toNat_natCast] at hx ⊢
          rw [List.getElem?_set]
          by_cases e : i = s
          · rw [if_pos e]
            split
            · exact ⟨z, rfl⟩
            · rename_i hlt
              rw [List.getElem?_eq_none (by omega)] at hx
              cases hx
          · rw [if_neg e]
            exact ⟨x, hx⟩
        unfold stepR
        split
        · exact h
        · split
          · exact st _ _
          · split
            · exact st _ _
            · exact h
    exact key _ _ _ (self_some m ts hs k)
end
end Ge

set_option maxHeartbeats 400000
namespace Ge
open PySem PySem.Spec PyProof.Rows L2 Sd
variable [HasT]
section
variable {c : Cl} {ts : List (Int × Int × Int)} {tm : List (Option Int)} {m L wn rn : Nat} {x : Da}
abbrev outD : DS := dSeq (dIfS (dAnd (dTest (dOp isNF (dOp ixF (dVar 1) (dVar 5)) (dC .non))) (dTest (dOp gtF (dOp ixF (dOp ixF (dOp ixF (dVar 0) (dVar 5)) (dVar 4)) (dVar 5)) (dC (.int 0))))) (dRet (dC (.bl false))) dNext)
  (dFor (dItR1 (dCB lenF (dCons (dVar 0) dNil))) (tgName 6) inD)
def okAt (tm : List (Option Int)) (rw rr : Nat → List (Option Int)) (m i : Nat) : Bool := match tmAt tm i with
  | none => ringOk (rr i) i | some a => walkOk tm (rw i) m a
theorem held_out {i : Nat} {g h : Sl} (hi : i < m) (hm : m ≤ 1000) (hw : wn ≤ L) (hr : rn ≤ L) (ht : tm.length = m) :
    (∃ g' h', outD (hR m ts L tm x wn rn (.dat (.int i)) g h) = .pure (.nx (hR m ts L tm x wn rn (.dat (.int i)) g' h')) ∧ okAt tm (fun i => rowN m ts i wn) (fun i => rowN m ts i rn) m i = true) ∨
      (outD (hR m ts L tm x wn rn (.dat (.int i)) g h) = .pure (.rt (.dat (.bl false))) ∧ okAt tm (fun i => rowN m ts i wn) (fun i => rowN m ts i rn) m i = false) := by
  have t5 : dOp ixF (dVar 1) (dVar 5) (hR m ts L tm x wn rn (.dat (.int i)) g h) = .pure (.dat (optI (tmAt tm i))) := time_at rfl rfl (by omega)
  have c5 : dOp ixF (dOp ixF (dOp ixF (dVar 0) (dVar 5)) (dVar 4)) (dVar 5) (hR m ts L tm x wn rn (.dat (.int i)) g h) = .pure (.dat (optI (tmAt (rowN m ts i rn) i))) := cell_at (a := 5) (b := 4) (d := 5) rfl rfl rfl rfl hi hr hi
  have row := held_row (ts := ts) (tm := tm) (x := x) (wn := wn) (rn := rn) (L := L) (g := g) (h := h) hi hm hw ht
  have eo : outD (hR m ts L tm x wn rn (.dat (.int i)) g h) = ((dIfS (dAnd (dTest (dOp isNF (dOp ixF (dVar 1) (dVar 5)) (dC .non))) (dTest (dOp gtF (dOp ixF (dOp ixF (dOp ixF (dVar 0) (dVar 5)) (dVar 4)) (dVar 5)) (dC (.int 0))))) (dRet (dC (.bl false))) dNext) (hR m ts L tm x wn rn (.dat (.int i)) g h)).bind (seqG (dFor (dItR1 (dCB lenF (dCons (dVar 0) dNil))) (tgName 6) inD)) := rfl
  unfold okAt
  cases e : tmAt tm i with
  | none =>
    rw [e] at t5
    obtain ⟨z, hz⟩ := self_some m ts hi rn
    rw [hz] at c5
    have c1 : dTest (dOp isNF (dOp ixF (dVar 1) (dVar 5)) (dC .non)) (hR m ts L tm x wn rn (.dat (.int i)) g h) = .pure true := e_test (e_op t5 rfl rfl)
    have c2 : dTest (dOp gtF (dOp ixF (dOp ixF (dOp ixF (dVar 0) (dVar 5)) (dVar 4)) (dVar 5)) (dC (.int 0))) (hR m ts L tm x wn rn (.dat (.int i)) g h) = .pure (decide (0 < z)) := e_test (e_op c5 rfl rfl)
    dsimp only
    unfold ringOk
    rw [hz]
    by_cases p : 0 < z
    · right
      refine ⟨?_, by simpa using p⟩
      rw [eo, e_ifT (g := .pure (.rt (.dat (.bl false)))) (e_and c1 (fun _ => c2.trans (by rw [decide_eq_true p])) nofun) rfl]
      rfl
    · left
      rcases row with ⟨g', h', h1, _⟩ | ⟨_, j, hj, hb⟩
      · refine ⟨g', h', ?_, by simpa using p⟩
        rw [eo, e_ifF (g := .pure (.nx (hR m ts L tm x wn rn (.dat (.int i)) g h))) (e_and c1 (fun _ => c2.trans (by rw [decide_eq_false p])) nofun) rfl]
        exact h1
      · unfold badW at hb
        rw [e] at hb
        cases hb
  | some a =>
    rw [e] at t5
    have en : dIfS (dAnd (dTest (dOp isNF (dOp ixF (dVar 1) (dVar 5)) (dC .non))) (dTest (dOp gtF (dOp ixF (dOp ixF (dOp ixF (dVar 0) (dVar 5)) (dVar 4)) (dVar 5)) (dC (.int 0))))) (dRet (dC (.bl false))) dNext (hR m ts L tm x wn rn (.dat (.int i)) g h) = .pure (.nx (hR m ts L tm x wn rn (.dat (.int i)) g h)) :=
      e_ifF (e_and (c := false) (e_test (e_op t5 rfl rfl)) nofun fun _ => rfl) rfl
    rw [eo, en]
    dsimp only
    rcases row with ⟨g', h', h1, h2⟩ | ⟨h1, j, hj, hb⟩
    · exact .inl ⟨g', h', h1, (walk_bad e).mpr h2⟩
    · refine .inr ⟨h1, ?_⟩
      cases z : walkOk tm (rowN m ts i wn) m a with
      | false => rfl
      | true =>
        rw [(walk_bad e).mp z j hj] at hb
        cases hb
theorem r_held {w r : Int} (hw : (if (L : Int) < w then (L : Int) else w) = wn) (hr : (if (L : Int) < r then (L : Int) else r) = rn) (hm : m ≤ 1000) (h0 : 0 < m) (hL : wn ≤ L) (hL2 : rn ≤ L) (ht : tm.length = m) :
    F_law_held c [.dat (rowsDa m ts L), .dat (.tup (tm.map optI)), .dat (.tup [.int w, .int r])] = .pure (.dat (.bl (heldB m tm (fun i => rowN m ts i wn) (fun i => rowN m ts i rn)))) := by
  unfold F_law_held D_law_held
  rw [def_at (ρ0 := [.dat (rowsDa m ts L), .dat (.tup (tm.map optI)), .dat (.tup [.int w, .int r]), .no, .no, .no, .no, .no]) rfl]
  have ln : ∀ f g h i j : Sl, dOp subF (dCB lenF (dCons (dOp ixF (dVar 0) (dC (.int 0))) dNil)) (dC (.int 1)) [.dat (rowsDa m ts L), .dat (.tup (tm.map optI)), .dat (.tup [.int w, .int r]), f, g, h, i, j] = .pure (.dat (.int L)) := fun f g h i j => by
    refine e_op (x := .dat (.int (L + 1))) (e_cb (l := [.dat (.lst ((List.range (L + 1)).map fun k => roD (rowN m ts 0 k)))]) (e_cons (e_op (x := .dat (rowsDa m ts L)) rfl rfl ?_) rfl) ?_) rfl ?_
    · exact ixF_lst (n := 0) (by rw [List.getElem?_map, List.getElem?_range h0]; rfl)
    · show (some (Sl.dat (.int (List.length _ : Nat))) : Option Sl) = _
      rw [List.length_map, List.length_range]
      rfl
    · show (some (Sl.dat (.int _)) : Option Sl) = _
      rw [show ((L : Int) + 1 - 1) = L by omega]
  have hpar : dPar 3 4 (dCons (dCB minF (dCons (dOp ixF (dVar 2) (dC (.int 0))) (dCons (dOp subF (dCB lenF (dCons (dOp ixF (dVar 0) (dC (.int 0))) dNil)) (dC (.int 1))) dNil))) (dCons (dCB minF (dCons (dOp ixF (dVar 2) (dC (.int 1))) (dCons (dOp subF (dCB lenF (dCons (dOp ixF (dVar 0) (dC (.int 0))) dNil)) (dC (.int 1))) dNil))) dNil)) [.dat (rowsDa m ts L), .dat (.tup (tm.map optI)), .dat (.tup [.int w, .int r]), .no, .no, .no, .no, .no] = .pure (.nx (hR m ts L tm (.tup [.int w, .int r]) wn rn .no .no .no)) := by
    have l1 : dCons (dCB minF (dCons (dOp ixF (dVar 2) (dC (.int 0))) (dCons (dOp subF (dCB lenF (dCons (dOp ixF (dVar 0) (dC (.int 0))) dNil)) (dC (.int 1))) dNil))) (dCons (dCB minF (dCons (dOp ixF (dVar 2) (dC (.int 1))) (dCons (dOp subF (dCB lenF (dCons (dOp ixF (dVar 0) (dC (.int 0))) dNil)) (dC (.int 1))) dNil))) dNil) [.dat (rowsDa m ts L), .dat (.tup (tm.map optI)), .dat (.tup [.int w, .int r]), .no, .no, .no, .no, .no] = .pure [.dat (.int wn), .dat (.int rn)] := by
      refine e_cons (e_cb (l := [.dat (.int w), .dat (.int L)]) (e_cons rfl (e_cons (ln _ _ _ _ _) rfl)) ?_) (e_cons (e_cb (l := [.dat (.int r), .dat (.int L)]) (e_cons rfl (e_cons (ln _ _ _ _ _) rfl)) ?_) rfl)
      · show (some (Sl.dat (.int (if (L : Int) < w then (L : Int) else w))) : Option Sl) = _
        rw [hw]
      · show (some (Sl.dat (.int (if (L : Int) < r then (L : Int) else r))) : Option Sl) = _
        rw [hr]
    rw [v_par (s := .no) (t := .no), l1]
    rfl
  rw [v_seq2, hpar]
  show (dSeq (dFor (dItR1 (dCB lenF (dCons (dVar 0) dNil))) (tgName 5) outD) (dRet (dC (.bl true))) (hR m ts L tm (.tup [.int w, .int r]) wn rn .no .no .no)).bind finG = _
  rw [v_seq2, v_for, v_r1p (n := m) (by omega) len0, v_pb, v_bb]
  have hall : heldB m tm (fun i => rowN m ts i wn) (fun i => rowN m ts i rn) = (List.range m).all (okAt tm (fun i => rowN m ts i wn) (fun i => rowN m ts i rn) m) := rfl
  rcases for_eq (ρ := hR m ts L tm (.tup [.int w, .int r]) wn rn .no .no .no) (p := tgName 5) (q := outD) (xs := (List.range m).map fun (i : Nat) => Da.int (i : Int)) (fun k ρ => (∃ f' g' h', ρ = hR m ts L tm (.tup [.int w, .int r]) wn rn f' g' h') ∧ ∀ j < k, okAt tm (fun i => rowN m ts i wn) (fun i => rowN m ts i rn) m j = true) (fun s => s = .dat (.bl false) ∧ ∃ j < m, okAt tm (fun i => rowN m ts i wn) (fun i => rowN m ts i rn) m j = false) ⟨⟨.no, .no, .no, rfl⟩, fun j z => by omega⟩ (fun k z ρ1 hz hI => by
    obtain ⟨⟨f', g', h', rfl⟩, hj⟩ := hI
    obtain ⟨hk, rfl⟩ := rng_at hz
    have e : (tgName 5 (hR m ts L tm (.tup [.int w, .int r]) wn rn f' g' h') (.dat (.int k))).bind outD = outD (hR m ts L tm (.tup [.int w, .int r]) wn rn (.dat (.int k)) g' h') := rfl
    rw [e]
    rcases held_out (ts := ts) (tm := tm) (x := .tup [.int w, .int r]) (wn := wn) (rn := rn) (L := L) (g := g') (h := h') hk hm hL hL2 ht with ⟨g2, h2, e1, e2⟩ | ⟨e1, e2⟩
    · refine .inl ⟨_, e1, ⟨_, _, _, rfl⟩, fun j z => ?_⟩
      by_cases ej : j = k
      · rw [ej]; exact e2
      · exact hj j (by omega)
    · exact .inr ⟨_, e1, rfl, k, hk, e2⟩) with ⟨ρ3, h1, ⟨f', g', h', rfl⟩, h2⟩ | ⟨s, h1, rfl, j, hj, hb⟩
  · rw [h1, hall, show (List.range m).all (okAt tm (fun i => rowN m ts i wn) (fun i => rowN m ts i rn) m) = true from List.all_eq_true.mpr fun j hj => h2 j (by simpa using List.mem_range.mp hj)]
    rfl
  · rw [h1, hall]
    have : (List.range m).all (okAt tm (fun i => rowN m ts i wn) (fun i => rowN m ts i rn) m) = false := by
      cases z : (List.range m).all (okAt tm (fun i => rowN m ts i wn) (fun i => rowN m ts i rn) m) with
      | false => rfl
      | true =>
        rw [List.all_eq_true.mp z j (List.mem_range.mpr hj)] at hb
        cases hb
    rw [this]
    rfl
end
end Ge

set_option maxHeartbeats 400000
namespace Ge
open PySem PySem.Spec PyProof.Rows L2 Sd
variable [HasT]
/-! ### batches -/
structure BsOk (bs : List Int) : Prop where
  len : bs.length ≤ 60
  ok : ∀ b ∈ bs, 1 ≤ b ∧ b ≤ 100
def bD (bs : List Int) : Da := .tup (bs.map .int)
def walkR (bs : List Int) : Int := bs.foldl (fun f b => f * (b + 1)) 1
def ringR : List Int → Int
  | [] => 0 | b :: r => b * walkR r
theorem walk_from : ∀ (bs : List Int) (a : Int), bs.foldl (fun f b => f * (b + 1)) a = a * walkR bs
  | [], a => by simp [walkR]
  | b :: r, a => by
    unfold walkR
    rw [List.foldl_cons, List.foldl_cons, walk_from r, walk_from r, Int.one_mul, Int.mul_assoc]
theorem walk_cons (b : Int) (r : List Int) : walkR (b :: r) = (b + 1) * walkR r := by
  rw [← walk_from r (b + 1)]
  unfold walkR
  rw [List.foldl_cons, Int.one_mul]
theorem walk_pos : ∀ {bs : List Int}, (∀ b ∈ bs, 1 ≤ b) → 1 ≤ walkR bs
  | [], _ => by simp [walkR]
  | b :: r, h => by
    rw [walk_cons]
    have h1 := h b List.mem_cons_self
    have h2 := walk_pos (bs := r) fun x m => h x (List.mem_cons_of_mem _ m)
    exact Int.le_trans h2 (by
      have := Int.mul_le_mul_of_nonneg_right (show (1 : Int) ≤ b + 1 by omega) (show 0 ≤ walkR r by omega)
      rwa [Int.one_mul] at this)
/-- how far walks and closed walks reach -/
theorem reach_facts {bs : List Int} (h : ∀ b ∈ bs, 1 ≤ b) : (bs = [] ∧ walkR bs = 1 ∧ ringR bs = 0) ∨ (1 ≤ ringR bs ∧ ringR bs < walkR bs ∧ walkR bs ≤ 2 * ringR bs) := by
  cases bs with
  | nil => exact .inl ⟨rfl, rfl, rfl⟩
  | cons b r =>
    right
    have h1 := h b List.mem_cons_self
    have h2 := walk_pos (bs := r) fun x m => h x (List.mem_cons_of_mem _ m)
    rw [walk_cons]
    show 1 ≤ b * walkR r ∧ b * walkR r < (b + 1) * walkR r ∧ (b + 1) * walkR r ≤ 2 * (b * walkR r)
    have e : (b + 1) * walkR r = b * walkR r + walkR r := by rw [Int.add_mul, Int.one_mul]
    have h3 : walkR r ≤ b * walkR r := by
      have := Int.mul_le_mul_of_nonneg_right (show (1 : Int) ≤ b by omega) (show 0 ≤ walkR r by omega)
      rwa [Int.one_mul] at this
    rw [e]
    omega
theorem layss_ints (n : Nat) : ∀ bs : List Int, layss (n + 1) (bs.map .int) = true
  | [] => rfl
  | b :: r => by
    rw [List.map_cons]
    unfold layss
    rw [layss_ints n r]
    rfl
theorem pls_ints : ∀ bs : List Int, pls (bs.map .int) = true
  | [] => rfl
  | b :: r => by
    rw [List.map_cons]
    unfold pls
    rw [pls_ints r]
    rfl
theorem eq_nil (bs : List Int) : eqF (.dat (bD bs)) (.dat (.tup [])) = some (.dat (.bl bs.isEmpty)) := by
  cases bs with
  | nil => exact eqF_same (d := .tup []) rfl rfl rfl rfl
  | cons b r => exact eqF_not (d := bD (b :: r)) (e := .tup []) rfl rfl (layss_ints 58 (b :: r)) rfl (pls_ints (b :: r)) rfl rfl (by intro z; cases z)
end Ge

set_option maxHeartbeats 400000
namespace Ge
open PySem PySem.Spec PyProof.Rows L2 Sd
variable [HasT]
section
variable {c : Cl} {bs : List Int}
theorem mulF_ok {x y : Int} (h : 0 ≤ x ∧ x ≤ 200 ∨ 0 ≤ y ∧ y ≤ 200) : mulF (.dat (.int x)) (.dat (.int y)) = some (.dat (.int (x * y))) := by
  rw [v_mul, if_pos]
  unfold mulC
  rw [Bool.or_eq_true, Bool.and_eq_true, Bool.and_eq_true, decide_eq_true_eq, decide_eq_true_eq, decide_eq_true_eq, decide_eq_true_eq]
  rcases h with h | h
  · left; omega
  · right; omega
theorem bs_at {bs : List Int} {k : Nat} {z : Da} (hz : (bs.map Da.int)[k]? = some z) : ∃ b, bs[k]? = some b ∧ z = .int b := by
  rw [List.getElem?_map] at hz
  cases e : bs[k]? with
  | none => rw [e] at hz; cases hz
  | some b => rw [e] at hz; cases hz; exact ⟨b, rfl, rfl⟩
theorem r_walk (h : ∀ b ∈ bs, 1 ≤ b ∧ b ≤ 100) : F_walk_reach c [.dat (bD bs)] = .pure (.dat (.int (walkR bs))) := by
  unfold F_walk_reach D_walk_reach
  rw [def_at (ρ0 := [.dat (bD bs), .no, .no]) rfl]
  show (dSeq (dFor (dItA (dSrc (dVar 0))) (tgName 2) (dAsg (dOp mulF (dVar 1) (dOp addF (dVar 2) (dC (.int 1)))) (tgName 1))) (dRetV 1) [.dat (bD bs), .dat (.int 1), .no]).bind finG = _
  rw [v_seq2, v_for]
  show ((forG _ _ (bs.map Da.int) _).bind _).bind _ = _
  rw [v_bb]
  refine for_go (fun k ρ => ∃ f, ρ = [.dat (bD bs), .dat (.int ((bs.take k).foldl (fun f b => f * (b + 1)) 1)), f]) ⟨.no, rfl⟩ ?_ ?_
  · rintro k z ρ1 hz ⟨f, rfl⟩
    obtain ⟨b, hb, rfl⟩ := bs_at hz
    obtain ⟨b1, b2⟩ := h b (List.mem_of_getElem? hb)
    refine ⟨[.dat (bD bs), .dat (.int ((bs.take k).foldl (fun f b => f * (b + 1)) 1 * (b + 1))), .dat (.int b)], ?_, .dat (.int b), ?_⟩
    · show dAsg (dOp mulF (dVar 1) (dOp addF (dVar 2) (dC (.int 1)))) (tgName 1) [.dat (bD bs), .dat (.int ((bs.take k).foldl (fun f b => f * (b + 1)) 1)), .dat (.int b)] = _
      exact e_asg (e_op (y := .dat (.int (b + 1))) rfl (e_op rfl rfl rfl) (mulF_ok (.inr (by omega)))) rfl
    · rw [List.take_add_one, hb]
      simp only [Option.toList_some, List.foldl_append, List.foldl_cons, List.foldl_nil]
  · rintro ρ3 ⟨f, rfl⟩
    rw [List.length_map, List.take_length]
    rfl
theorem cut_tail (b : Int) (r : List Int) : cutD ((b :: r).map Da.int) (some 1) none = r.map Da.int := by
  unfold cutD
  rw [show (1 : Int) = ((1 : Nat) : Int) from rfl, HT.sIx_nat, HT.sIx_none, List.map_cons, List.length_cons, Nat.min_eq_left (by omega)]
  show (r.map Da.int).take _ = _
  rw [List.take_of_length_le (by simp)]
theorem sl_tail {b : Int} {r : List Int} {ρ : List Sl} (h0 : get ρ 0 = .dat (bD (b :: r))) : dSl cutF (dVar 0) (dPart (dC (.int 1))) dNoPart ρ = .pure (.dat (bD r)) := by
  rw [v_sl, v_var, h0]
  show optG (some (Sl.dat (.tup (cutD ((b :: r).map Da.int) (some 1) none)))) = _
  rw [cut_tail]
  rfl
theorem r_ring (h : ∀ b ∈ bs, 1 ≤ b ∧ b ≤ 100) : F_ring_reach c [.dat (bD bs)] = .pure (.dat (.int (ringR bs))) := by
  unfold F_ring_reach D_ring_reach
  rw [def_at (ρ0 := [.dat (bD bs)]) rfl]
  have c1 : dTest (dOp eqF (dVar 0) (dTup dNil)) [.dat (bD bs)] = .pure bs.isEmpty := e_test (e_op (x := .dat (bD bs)) (y := .dat (.tup [])) rfl rfl (eq_nil bs))
  cases bs with
  | nil =>
    rw [v_seq2, e_ifT (g := .pure (.rt (.dat (.int 0)))) c1 rfl]
    rfl
  | cons b r =>
    obtain ⟨b1, b2⟩ := h b List.mem_cons_self
    rw [v_seq2, e_ifF (g := .pure (.nx [.dat (bD (b :: r))])) c1 rfl]
    show (dRet _ [.dat (bD (b :: r))]).bind finG = _
    have e : dOp mulF (dOp ixF (dVar 0) (dC (.int 0))) (dCall (F_walk_reach c) (dCons (dSl cutF (dVar 0) (dPart (dC (.int 1))) dNoPart) dNil)) [.dat (bD (b :: r))] = .pure (.dat (.int (b * walkR r))) :=
      e_op (x := .dat (.int b)) (y := .dat (.int (walkR r))) (e_op (x := .dat (bD (b :: r))) rfl rfl (ixF_tup (n := 0) rfl)) (e_call1 (l := [.dat (bD r)]) (os := [.fz (bD r)]) [.dat (bD r)] (e_cons (sl_tail rfl) rfl) rfl rfl (r_walk fun x m => h x (List.mem_cons_of_mem _ m))) (mulF_ok (.inl (by omega)))
    rw [v_ret, e]
    rfl
theorem r_reaches (h : ∀ b ∈ bs, 1 ≤ b ∧ b ≤ 100) : F_law_reaches c [.dat (bD bs)] = .pure (.dat (.tup [.int (walkR bs), .int (ringR bs)])) := by
  unfold F_law_reaches D_law_reaches
  rw [def_at (ρ0 := [.dat (bD bs), .no, .no]) rfl]
  have c1 : dTest (dOp eqF (dVar 0) (dTup dNil)) [.dat (bD bs), .no, .no] = .pure bs.isEmpty := e_test (e_op (x := .dat (bD bs)) (y := .dat (.tup [])) rfl rfl (eq_nil bs))
  cases bs with
  | nil =>
    rw [v_seq2, e_ifT (g := .pure (.rt (.dat (.tup [.int 1, .int 0])))) c1 rfl]
    rfl
  | cons b r =>
    obtain ⟨b1, b2⟩ := h b List.mem_cons_self
    rw [v_seq2, e_ifF (g := .pure (.nx [.dat (bD (b :: r)), .no, .no])) c1 rfl]
    show (dSeq (dFor (dItA (dSrc (dSl cutF (dVar 0) (dPart (dC (.int 1))) dNoPart))) (tgName 2) (dAsg (dOp mulF (dVar 1) (dOp addF (dVar 2) (dC (.int 1)))) (tgName 1))) _ [.dat (bD (b :: r)), .dat (.int 1), .no]).bind finG = _
    rw [v_seq2, v_for, v_ita, v_src, sl_tail rfl]
    show ((forG _ _ (r.map Da.int) _).bind _).bind _ = _
    rw [v_bb]
    refine for_go (fun k ρ => ∃ f, ρ = [.dat (bD (b :: r)), .dat (.int ((r.take k).foldl (fun f b => f * (b + 1)) 1)), f]) ⟨.no, rfl⟩ ?_ ?_
    · rintro k z ρ1 hz ⟨f, rfl⟩
      obtain ⟨b', hb, rfl⟩ := bs_at hz
      obtain ⟨b1', b2'⟩ := h b' (List.mem_cons_of_mem _ (List.mem_of_getElem? hb))
      refine ⟨[.dat (bD (b :: r)), .dat (.int ((r.take k).foldl (fun f b => f * (b + 1)) 1 * (b' + 1))), .dat (.int b')], ?_, .dat (.int b'), ?_⟩
      · show dAsg (dOp mulF (dVar 1) (dOp addF (dVar 2) (dC (.int 1)))) (tgName 1) [.dat (bD (b :: r)), .dat (.int ((r.take k).foldl (fun f b => f * (b + 1)) 1)), .dat (.int b')] = _
        exact e_asg (e_op (y := .dat (.int (b' + 1))) rfl (e_op rfl rfl rfl) (mulF_ok (.inr (by omega)))) rfl
      · rw [List.take_add_one, hb]
        simp only [Option.toList_some, List.foldl_append, List.foldl_cons, List.foldl_nil]
    · rintro ρ3 ⟨f, rfl⟩
      rw [List.length_map, List.take_length]
      show (dRet _ [.dat (bD (b :: r)), .dat (.int (walkR r)), f]).bind finG = _
      have i0 : dOp ixF (dVar 0) (dC (.int 0)) [.dat (bD (b :: r)), .dat (.int (walkR r)), f] = .pure (.dat (.int b)) := e_op (x := .dat (bD (b :: r))) rfl rfl (ixF_tup (n := 0) rfl)
      have e : dTup (dCons (dOp mulF (dVar 1) (dOp addF (dOp ixF (dVar 0) (dC (.int 0))) (dC (.int 1)))) (dCons (dOp mulF (dOp ixF (dVar 0) (dC (.int 0))) (dVar 1)) dNil)) [.dat (bD (b :: r)), .dat (.int (walkR r)), f] = .pure (.dat (.tup [.int (walkR r * (b + 1)), .int (b * walkR r)])) :=
        e_tup (l := [.dat (.int (walkR r * (b + 1))), .dat (.int (b * walkR r))]) (os := [.fz (.int (walkR r * (b + 1))), .fz (.int (b * walkR r))]) (e_cons (e_op (x := .dat (.int (walkR r))) (y := .dat (.int (b + 1))) rfl (e_op i0 rfl rfl) (mulF_ok (.inr (by omega)))) (e_cons (e_op (y := .dat (.int (walkR r))) i0 rfl (mulF_ok (.inl (by omega)))) rfl)) rfl rfl
      rw [v_ret, e, walk_cons, Int.mul_comm (b + 1)]
      rfl
end
end Ge

set_option maxHeartbeats 400000
namespace Ge
open PySem PySem.Spec PyProof.Rows L2 Sd
variable [HasT]
def nms : List Da := [.str "a", .str "b", .str "c", .str "d", .str "e", .str "f", .str "g", .str "h", .str "i", .str "j", .str "k", .str "l"]
def tabC (c : Cl) (m : Nat) (ts : List (Int × Int × Int)) : Da := .obj c.C_Table ["things", "ties"] [.tup (nms.take m), .tup (ts.map tieD)]
def caseD (c : Cl) (m : Nat) (ts : List (Int × Int × Int)) (tm : List (Option Int)) : Da := .tup [tabC c m ts, .tup (tm.map optI)]
theorem ring_tab (c : Cl) {n : Nat} (h1 : 2 ≤ n) (h2 : n ≤ 12) : F_ring_table c [.dat (.int n)] = .pure (.dat (tabC c n (ringT n))) := by
  have : n = 2 ∨ n = 3 ∨ n = 4 ∨ n = 5 ∨ n = 6 ∨ n = 7 ∨ n = 8 ∨ n = 9 ∨ n = 10 ∨ n = 11 ∨ n = 12 := by omega
  rcases this with rfl | rfl | rfl | rfl | rfl | rfl | rfl | rfl | rfl | rfl | rfl <;> kernel_rfl
theorem row_case (c : Cl) {t : Nat} (h1 : 2 ≤ t) (h2 : t ≤ 11) : F_row_case c [.dat (.int t)] = .pure (.dat (caseD c (t + 1) (rowT t) (rowTm t))) := by
  have : t = 2 ∨ t = 3 ∨ t = 4 ∨ t = 5 ∨ t = 6 ∨ t = 7 ∨ t = 8 ∨ t = 9 ∨ t = 10 ∨ t = 11 := by omega
  rcases this with rfl | rfl | rfl | rfl | rfl | rfl | rfl | rfl | rfl | rfl <;> kernel_rfl
theorem round_case (c : Cl) {t : Nat} (h1 : 13 ≤ t) (h2 : t ≤ 21) : F_round_case c [.dat (.int t)] = .pure (.dat (caseD c 12 (roundT t) oneTm)) := by
  have : t = 13 ∨ t = 14 ∨ t = 15 ∨ t = 16 ∨ t = 17 ∨ t = 18 ∨ t = 19 ∨ t = 20 ∨ t = 21 := by omega
  rcases this with rfl | rfl | rfl | rfl | rfl | rfl | rfl | rfl | rfl <;> kernel_rfl
end Ge

set_option maxHeartbeats 400000
namespace Ge
open PySem PySem.Spec PyProof.Rows L2 Sd
variable [HasT]
section
variable {c : Cl} {m n : Nat} {ts : List (Int × Int × Int)}
theorem tc_things : fldF c.C_Table "things" (.dat (tabC c m ts)) = some (.dat (.tup (nms.take m))) := by
  unfold tabC
  rw [v_fldo]
  rfl
theorem tc_ties : fldF c.C_Table "ties" (.dat (tabC c m ts)) = some (.dat (.tup (ts.map tieD))) := by
  unfold tabC
  rw [v_fldo]
  rfl
theorem nms_len (h : m ≤ 12) : (nms.take m).length = m := by
  rw [List.length_take]
  show min m 12 = m
  omega
theorem flat_rep (n : Nat) : (List.replicate n [Da.non]).flatten = (noT12 n).map optI := by
  unfold noT12
  rw [List.map_replicate]
  induction n with
  | zero => rfl
  | succ n ih => rw [List.replicate_succ, List.flatten_cons, ih, List.replicate_succ]; rfl
theorem r_nothing (h : m ≤ 12) : F_nothing_said c [.dat (tabC c m ts)] = .pure (.dat (.tup ((noT12 m).map optI))) := by
  unfold F_nothing_said D_nothing_said
  rw [def_at (ρ0 := [.dat (tabC c m ts)]) rfl]
  have e : dOp mulF (dTup (dCons (dC .non) dNil)) (dCB lenF (dCons (dFld c.C_Table "things" (dVar 0)) dNil)) [.dat (tabC c m ts)] = .pure (.dat (.tup ((noT12 m).map optI))) := by
    refine e_op (x := .dat (.tup [.non])) (y := .dat (.int m)) rfl (e_cb (l := [.dat (.tup (nms.take m))]) (e_cons (e_fld (s := .dat (tabC c m ts)) rfl tc_things) rfl) ?_) ?_
    · show (some (Sl.dat (.int (List.length _ : Nat))) : Option Sl) = _
      rw [nms_len h]
    · show mulF (.val (.fz (.tup [.non]))) (.val (.fz (.int m))) = _
      rw [v_repT, if_pos, Int.toNat_natCast, flat_rep]
      rw [Bool.and_eq_true]
      refine ⟨?_, small_ok ?_⟩
      · unfold smallI
        rw [Bool.and_eq_true]
        exact ⟨decide_eq_true (by omega), decide_eq_true (by omega)⟩
      · rw [Int.toNat_natCast]
        show 1 * m ≤ _
        omega
  rw [v_ret, e]
  rfl
end
def walkD (c : Cl) (w r : Int) : Da := if w ≤ 10 then caseD c (w.toNat + 2) (rowT (w.toNat + 1)) (rowTm (w.toNat + 1)) else if w = 11 then caseD c 12 (ringT 12) oneTm else if r ≤ 10 then caseD c 12 (roundT (w.toNat + 1)) oneTm else .non
def sizeN (r : Int) : Nat := if r + 1 > 2 then (r + 1).toNat else 2
def tellD (c : Cl) (w1 r1 w2 r2 : Int) : Da := if (sizeN r1 : Int) ≤ (if 12 < r2 then 12 else r2) then caseD c (sizeN r1) (ringT (sizeN r1)) (noT12 (sizeN r1)) else if w1 < w2 then walkD c w1 r1 else .non
theorem r_walk_case (c : Cl) {w r : Int} (h1 : 1 ≤ w) (h2 : 12 ≤ w → r ≤ 10 → w ≤ 20) : F_walk_case c [.dat (.int w), .dat (.int r)] = .pure (.dat (walkD c w r)) := by
  unfold F_walk_case D_walk_case
  rw [def_at (ρ0 := [.dat (.int w), .dat (.int r)]) rfl]
  have c1 : dTest (dOp leF (dVar 0) (dOp subF (dC (.int 12)) (dC (.int 2)))) [.dat (.int w), .dat (.int r)] = .pure (decide (w ≤ 10)) := rfl
  have c2 : dTest (dOp eqF (dVar 0) (dOp subF (dC (.int 12)) (dC (.int 1)))) [.dat (.int w), .dat (.int r)] = .pure (decide (w = 11)) := e_test (e_op (x := .dat (.int w)) (y := .dat (.int 11)) rfl rfl v_eqi)
  have c3 : dTest (dOp leF (dVar 1) (dOp subF (dC (.int 12)) (dC (.int 2)))) [.dat (.int w), .dat (.int r)] = .pure (decide (r ≤ 10)) := rfl
  unfold walkD
  by_cases g1 : w ≤ 10
  · rw [if_pos g1, v_seq2]
    have e : dCall (F_row_case c) (dCons (dOp addF (dVar 0) (dC (.int 1))) dNil) [.dat (.int w), .dat (.int r)] = .pure (.dat (caseD c (w.toNat + 2) (rowT (w.toNat + 1)) (rowTm (w.toNat + 1)))) :=
      e_call1 (l := [.dat (.int (w + 1))]) (os := [.fz (.int (w + 1))]) [.dat (.int ((w.toNat + 1 : Nat) : Int))] rfl rfl (by show [Sl.dat (.int (w + 1))] = _; rw [show ((w.toNat + 1 : Nat) : Int) = w + 1 by omega]) (row_case c (by omega) (by omega))
    rw [e_ifT (g := .pure (.rt (.dat (caseD c (w.toNat + 2) (rowT (w.toNat + 1)) (rowTm (w.toNat + 1)))))) (c1.trans (by rw [decide_eq_true g1])) (by rw [v_ret, e]; rfl)]
    rfl
  · rw [if_neg g1, v_seq2, e_ifF (g := .pure (.nx [.dat (.int w), .dat (.int r)])) (c1.trans (by rw [decide_eq_false g1])) rfl]
    show (dSeq _ _ [.dat (.int w), .dat (.int r)]).bind finG = _
    rw [v_seq2]
    by_cases g2 : w = 11
    · rw [if_pos g2]
      have e : dTup (dCons (dCall (F_ring_table c) (dCons (dC (.int 12)) dNil)) (dCons (dOp addF (dTup (dCons (dC (.int 0)) dNil)) (dOp mulF (dTup (dCons (dC .non) dNil)) (dOp subF (dC (.int 12)) (dC (.int 1))))) dNil)) [.dat (.int w), .dat (.int r)] = .pure (.dat (caseD c 12 (ringT 12) oneTm)) :=
        e_tup (l := [.dat (tabC c 12 (ringT 12)), .dat (.tup (oneTm.map optI))]) (os := [.fz (tabC c 12 (ringT 12)), .fz (.tup (oneTm.map optI))]) (e_cons (e_call1 (l := [.dat (.int 12)]) (os := [.fz (.int 12)]) [.dat (.int ((12 : Nat) : Int))] rfl rfl rfl (ring_tab c (by omega) (by omega))) (e_cons (by kernel_rfl) rfl)) rfl rfl
      rw [e_ifT (g := .pure (.rt (.dat (caseD c 12 (ringT 12) oneTm)))) (c2.trans (by rw [decide_eq_true g2])) (by rw [v_ret, e]; rfl)]
      rfl
    · rw [if_neg g2, e_ifF (g := .pure (.nx [.dat (.int w), .dat (.int r)])) (c2.trans (by rw [decide_eq_false g2])) rfl]
      show (dSeq _ _ [.dat (.int w), .dat (.int r)]).bind finG = _
      rw [v_seq2]
      by_cases g3 : r ≤ 10
      · rw [if_pos g3]
        have := h2 (by omega) g3
        have e : dCall (F_round_case c) (dCons (dOp addF (dVar 0) (dC (.int 1))) dNil) [.dat (.int w), .dat (.int r)] = .pure (.dat (caseD c 12 (roundT (w.toNat + 1)) oneTm)) :=
          e_call1 (l := [.dat (.int (w + 1))]) (os := [.fz (.int (w + 1))]) [.dat (.int ((w.toNat + 1 : Nat) : Int))] rfl rfl (by show [Sl.dat (.int (w + 1))] = _; rw [show ((w.toNat + 1 : Nat) : Int) = w + 1 by omega]) (round_case c (by omega) (by omega))
        rw [e_ifT (g := .pure (.rt (.dat (caseD c 12 (roundT (w.toNat + 1)) oneTm)))) (c3.trans (by rw [decide_eq_true g3])) (by rw [v_ret, e]; rfl)]
        rfl
      · rw [if_neg g3, e_ifF (g := .pure (.nx [.dat (.int w), .dat (.int r)])) (c3.trans (by rw [decide_eq_false g3])) rfl]
        rfl
end Ge

set_option maxHeartbeats 400000
namespace Ge
open PySem PySem.Spec PyProof.Rows L2 Sd
variable [HasT]
section
variable {ρ : List Sl} {a : DE} {p q : DS} {s : Sl}
theorem e_drop (h : a ρ = .pure s) : dDrop a ρ = .pure (.nx ρ) := by
  rw [v_drop, h]
  rfl
theorem e_seqR (h : p ρ = .pure (.rt s)) : dSeq p q ρ = .pure (.rt s) := by
  rw [v_seq2, h]
  rfl
theorem e_ret (h : a ρ = .pure s) : dRet a ρ = .pure (.rt s) := by
  rw [v_ret, h]
  rfl
theorem e_def {n : Nat} {D : DS} {ss ρ0 : List Sl} {o : Ow} (h : ss ++ List.replicate (n - ss.length) .no = ρ0) (e : D ρ0 = .pure (.rt (.val o))) : dDef n D ss = .pure (.val o) := by
  rw [def_at h, e]
  rfl
theorem e_defN {n : Nat} {D : DS} {ss ρ0 ρ1 : List Sl} (h : ss ++ List.replicate (n - ss.length) .no = ρ0) (e : D ρ0 = .pure (.nx ρ1)) : dDef n D ss = .pure (.dat .non) := by
  rw [def_at h, e]
  rfl
end
section
variable {c : Cl} {bs one other : List Int}
theorem r_are (h : BsOk bs) : F_are_batches c [.dat (bD bs)] = .pure (.dat (.bl true)) := by
  unfold F_are_batches D_are_batches
  rw [def_at (ρ0 := [.dat (bD bs), .no]) rfl]
  have ln : dCB lenF (dCons (dVar 0) dNil) [.dat (bD bs), .no] = .pure (.dat (.int bs.length)) := by
    refine e_cb (l := [.dat (bD bs)]) rfl ?_
    show (some (Sl.dat (.int (List.length (bs.map Da.int) : Nat))) : Option Sl) = _
    rw [List.length_map]
  have c1 : dOr (dNot (dTest (dCB (isTF .tuple) (dCons (dVar 0) (dCons (dC (.raw (.ty "tuple"))) dNil))))) (dTest (dOp gtF (dCB lenF (dCons (dVar 0) dNil)) (dC (.int 60)))) [.dat (bD bs), .no] = .pure false :=
    e_orF rfl (e_test (e_op ln rfl (by
      show (some (Sl.dat (.bl (decide ((60 : Int) < bs.length)))) : Option Sl) = _
      rw [decide_eq_false (by have := h.len; omega)])))
  have e : dCB allF (dCons (dLc (dItA (dSrcV 0)) (tgName 1) dYes (dAndV (dCall (F_is_number c) (dCons (dVar 1) dNil)) (dChain leF leF (dC (.int 1)) (dVar 1) (dC (.int 100)))) [1]) dNil) [.dat (bD bs), .no] = .pure (.dat (.bl (bs.all fun _ => true))) := by
    refine all_lc (l := bs) (g := Da.int) (fun b => [.dat (bD bs), .dat (.int b)]) (fun _ => true) rfl rfl (by have := h.len; omega) (fun b _ => rfl) (fun b mb => ?_)
    obtain ⟨b1, b2⟩ := h.ok b mb
    refine e_andvT (e_call1 (l := [.dat (.int b)]) (os := [.fz (.int b)]) [.dat (.int b)] rfl rfl rfl ?_) (chain_le b1 b2 rfl rfl rfl)
    show G.pure (Sl.dat (.bl (decide (0 ≤ b)))) = _
    rw [decide_eq_true (by omega)]
  rw [show (bs.all fun _ => true) = true by simp] at e
  rw [v_seq2, e_ifF (g := .pure (.nx [.dat (bD bs), .no])) c1 rfl]
  show (dRet _ [.dat (bD bs), .no]).bind finG = _
  rw [e_ret e]
  rfl
theorem r_check (h : BsOk bs) : F_check_batches c [.dat (bD bs)] = .pure (.dat .non) := by
  unfold F_check_batches D_check_batches
  exact e_defN (ρ0 := [.dat (bD bs)]) rfl (e_ifF (e_notT (e_test (e_call1 (l := [.dat (bD bs)]) (os := [.fz (bD bs)]) [.dat (bD bs)] rfl rfl rfl (r_are h)))) rfl)
/-- batches at hand -/
theorem two_facts (h : BsOk bs) : 1 ≤ walkR bs ∧ 0 ≤ ringR bs ∧ (ringR bs = 0 → walkR bs = 1) ∧ (1 ≤ ringR bs → ringR bs < walkR bs ∧ walkR bs ≤ 2 * ringR bs) := by
  rcases reach_facts (bs := bs) fun b m => (h.ok b m).1 with ⟨_, h1, h2⟩ | ⟨h1, h2, h3⟩
  · rw [h1, h2]
    exact ⟨by omega, by omega, fun _ => rfl, fun z => by omega⟩
  · exact ⟨by omega, by omega, fun z => by omega, fun _ => ⟨h2, h3⟩⟩
theorem r_telling (h1 : BsOk one) (h2 : BsOk other) : F_telling_case c [.dat (bD one), .dat (bD other)] = .pure (.dat (tellD c (walkR one) (ringR one) (walkR other) (ringR other))) := by
  unfold F_telling_case D_telling_case
  have k0 : ∀ a b : Sl, dDrop (dCall (F_check_batches c) (dCons (dVar 0) dNil)) [.dat (bD one), .dat (bD other), a, b] = .pure (.nx [.dat (bD one), .dat (bD other), a, b]) := fun a b =>
    e_drop (e_call1 (l := [.dat (bD one)]) (os := [.fz (bD one)]) [.dat (bD one)] rfl rfl rfl (r_check h1))
  have k1 : ∀ a b : Sl, dDrop (dCall (F_check_batches c) (dCons (dVar 1) dNil)) [.dat (bD one), .dat (bD other), a, b] = .pure (.nx [.dat (bD one), .dat (bD other), a, b]) := fun a b =>
    e_drop (e_call1 (l := [.dat (bD other)]) (os := [.fz (bD other)]) [.dat (bD other)] rfl rfl rfl (r_check h2))
  have r1 : ∀ a b : Sl, dCall (F_ring_reach c) (dCons (dVar 0) dNil) [.dat (bD one), .dat (bD other), a, b] = .pure (.dat (.int (ringR one))) := fun a b => e_call1 (l := [.dat (bD one)]) (os := [.fz (bD one)]) [.dat (bD one)] rfl rfl rfl (r_ring h1.ok)
  have r2 : ∀ a b : Sl, dCall (F_ring_reach c) (dCons (dVar 1) dNil) [.dat (bD one), .dat (bD other), a, b] = .pure (.dat (.int (ringR other))) := fun a b => e_call1 (l := [.dat (bD other)]) (os := [.fz (bD other)]) [.dat (bD other)] rfl rfl rfl (r_ring h2.ok)
  have w1 : ∀ a b : Sl, dCall (F_walk_reach c) (dCons (dVar 0) dNil) [.dat (bD one), .dat (bD other), a, b] = .pure (.dat (.int (walkR one))) := fun a b => e_call1 (l := [.dat (bD one)]) (os := [.fz (bD one)]) [.dat (bD one)] rfl rfl rfl (r_walk h1.ok)
  have w2 : ∀ a b : Sl, dCall (F_walk_reach c) (dCons (dVar 1) dNil) [.dat (bD one), .dat (bD other), a, b] = .pure (.dat (.int (walkR other))) := fun a b => e_call1 (l := [.dat (bD other)]) (os := [.fz (bD other)]) [.dat (bD other)] rfl rfl rfl (r_walk h2.ok)
  obtain ⟨f1, f2, f3, f4⟩ := two_facts h1
  have sz : ((sizeN (ringR one) : Nat) : Int) = if ringR one + 1 > 2 then ringR one + 1 else 2 := by
    unfold sizeN
    split <;> omega
  have a1 : dAsg (dCB maxF (dCons (dC (.int 2)) (dCons (dOp addF (dCall (F_ring_reach c) (dCons (dVar 0) dNil)) (dC (.int 1))) dNil))) (tgName 2) [.dat (bD one), .dat (bD other), .no, .no] = .pure (.nx [.dat (bD one), .dat (bD other), .dat (.int (sizeN (ringR one))), .no]) := by
    refine e_asg (x := .dat (.int (sizeN (ringR one)))) (e_cb (l := [.dat (.int 2), .dat (.int (ringR one + 1))]) (e_cons rfl (e_cons (e_op (r1 _ _) rfl rfl) rfl)) ?_) rfl
    show (some (Sl.dat (.int (if ringR one + 1 > 2 then ringR one + 1 else 2))) : Option Sl) = _
    rw [sz]
  have t1 : dTest (dOp leF (dVar 2) (dCB minF (dCons (dCall (F_ring_reach c) (dCons (dVar 1) dNil)) (dCons (dC (.int 12)) dNil)))) [.dat (bD one), .dat (bD other), .dat (.int (sizeN (ringR one))), .no] = .pure (decide ((sizeN (ringR one) : Int) ≤ (if 12 < ringR other then 12 else ringR other))) :=
    e_test (e_op (x := .dat (.int (sizeN (ringR one)))) (y := .dat (.int (if 12 < ringR other then 12 else ringR other))) rfl (e_cb (l := [.dat (.int (ringR other)), .dat (.int 12)]) (e_cons (r2 _ _) rfl) rfl) rfl)
  have t2 : dTest (dOp ltF (dCall (F_walk_reach c) (dCons (dVar 0) dNil)) (dCall (F_walk_reach c) (dCons (dVar 1) dNil))) [.dat (bD one), .dat (bD other), .dat (.int (sizeN (ringR one))), .no] = .pure (decide (walkR one < walkR other)) := e_test (e_op (w1 _ _) (w2 _ _) rfl)
  refine e_def (ρ0 := [.dat (bD one), .dat (bD other), .no, .no]) rfl (e_seq (k0 _ _) (e_seq (k1 _ _) (e_seq a1 ?_)))
  unfold tellD
  by_cases g1 : (sizeN (ringR one) : Int) ≤ (if 12 < ringR other then 12 else ringR other)
  · rw [if_pos g1]
    have s2 : 2 ≤ sizeN (ringR one) := by unfold sizeN; split <;> omega
    have s12 : sizeN (ringR one) ≤ 12 := by
      have : (if 12 < ringR other then (12 : Int) else ringR other) ≤ 12 := by split <;> omega
      omega
    have b1 : dAsg (dCall (F_ring_table c) (dCons (dVar 2) dNil)) (tgName 3) [.dat (bD one), .dat (bD other), .dat (.int (sizeN (ringR one))), .no] = .pure (.nx [.dat (bD one), .dat (bD other), .dat (.int (sizeN (ringR one))), .dat (tabC c (sizeN (ringR one)) (ringT (sizeN (ringR one))))]) :=
      e_asg (e_call1 (l := [.dat (.int (sizeN (ringR one)))]) (os := [.fz (.int (sizeN (ringR one)))]) [.dat (.int (sizeN (ringR one)))] rfl rfl rfl (ring_tab c s2 s12)) rfl
    have b2 : dTup (dCons (dVar 3) (dCons (dCall (F_nothing_said c) (dCons (dVar 3) dNil)) dNil)) [.dat (bD one), .dat (bD other), .dat (.int (sizeN (ringR one))), .dat (tabC c (sizeN (ringR one)) (ringT (sizeN (ringR one))))] = .pure (.dat (caseD c (sizeN (ringR one)) (ringT (sizeN (ringR one))) (noT12 (sizeN (ringR one))))) :=
      e_tup (l := [.dat (tabC c (sizeN (ringR one)) (ringT (sizeN (ringR one)))), .dat (.tup ((noT12 (sizeN (ringR one))).map optI))]) (os := [.fz (tabC c (sizeN (ringR one)) (ringT (sizeN (ringR one)))), .fz (.tup ((noT12 (sizeN (ringR one))).map optI))]) (e_cons rfl (e_cons (e_call1 (l := [.dat (tabC c (sizeN (ringR one)) (ringT (sizeN (ringR one))))]) (os := [.fz (tabC c (sizeN (ringR one)) (ringT (sizeN (ringR one))))]) [.dat (tabC c (sizeN (ringR one)) (ringT (sizeN (ringR one))))] rfl rfl rfl (r_nothing s12)) rfl)) rfl rfl
    exact e_seqR (e_ifT (t1.trans (by rw [decide_eq_true g1])) (e_seq b1 (e_ret b2)))
  · rw [if_neg g1]
    refine e_seq (e_ifF (t1.trans (by rw [decide_eq_false g1])) rfl) ?_
    by_cases g2 : walkR one < walkR other
    · rw [if_pos g2]
      have b3 : dCall (F_walk_case c) (dCons (dCall (F_walk_reach c) (dCons (dVar 0) dNil)) (dCons (dCall (F_ring_reach c) (dCons (dVar 0) dNil)) dNil)) [.dat (bD one), .dat (bD other), .dat (.int (sizeN (ringR one))), .no] = .pure (.dat (walkD c (walkR one) (ringR one))) :=
        e_call1 (l := [.dat (.int (walkR one)), .dat (.int (ringR one))]) (os := [.fz (.int (walkR one)), .fz (.int (ringR one))]) [.dat (.int (walkR one)), .dat (.int (ringR one))] (e_cons (w1 _ _) (e_cons (r1 _ _) rfl)) rfl rfl (r_walk_case c f1 fun z1 z2 => by
          by_cases e : ringR one = 0
          · have := f3 e
            omega
          · have := f4 (by omega)
            omega)
      exact e_seqR (e_ifT (t2.trans (by rw [decide_eq_true g2])) (e_ret b3))
    · rw [if_neg g2]
      exact e_seq (e_ifF (t2.trans (by rw [decide_eq_false g2])) rfl) rfl
end
end Ge

set_option maxHeartbeats 400000
namespace Ge
open PySem PySem.Spec PyProof.Rows L2 Sd
variable [HasT]
section
variable {ρ : List Sl} {a b : DE} {x y : Bool}
theorem orV_bl (ha : a ρ = .pure (.dat (.bl x))) (hb : b ρ = .pure (.dat (.bl y))) : dOrV a b ρ = .pure (.dat (.bl (x || y))) := by
  rw [v_orv, ha, v_pb, v_boolG, v_pb, hb]
  cases x <;> rfl
theorem andV_bl (ha : a ρ = .pure (.dat (.bl x))) (hb : b ρ = .pure (.dat (.bl y))) : dAndV a b ρ = .pure (.dat (.bl (x && y))) := by
  rw [v_andv, ha, v_pb, v_boolG, v_pb, hb]
  cases x <;> rfl
end
def dueB (w1 r1 w2 r2 : Int) : Bool := (decide (r2 ≤ r1) || decide (12 ≤ r1)) && (decide (w2 ≤ w1) || decide (11 ≤ r1))
section
variable {c : Cl} {one other : List Int}
theorem r_due (h1 : BsOk one) (h2 : BsOk other) : F_law_due c [.dat (bD one), .dat (bD other)] = .pure (.dat (.bl (dueB (walkR one) (ringR one) (walkR other) (ringR other)))) := by
  unfold F_law_due D_law_due
  refine e_def (ρ0 := [.dat (bD one), .dat (bD other), .no, .no, .no, .no]) rfl
    (e_seq (ρ1 := [.dat (bD one), .dat (bD other), .dat (.int (walkR one)), .dat (.int (ringR one)), .no, .no]) (e_asg (e_call1 (l := [.dat (bD one)]) (os := [.fz (bD one)]) [.dat (bD one)] rfl rfl rfl (r_reaches h1.ok)) rfl)
    (e_seq (ρ1 := [.dat (bD one), .dat (bD other), .dat (.int (walkR one)), .dat (.int (ringR one)), .dat (.int (walkR other)), .dat (.int (ringR other))]) (e_asg (e_call1 (l := [.dat (bD other)]) (os := [.fz (bD other)]) [.dat (bD other)] rfl rfl rfl (r_reaches h2.ok)) rfl)
    (e_ret (andV_bl (orV_bl rfl rfl) (orV_bl rfl rfl)))))
end
/-- a case that tells that batches are harder -/
structure Tells0 (c : Cl) (w1 r1 w2 r2 : Int) (m : Nat) (ts : List (Int × Int × Int)) (tm : List (Option Int)) (R0 W0 : Nat) : Prop where
  m1 : 2 ≤ m
  m2 : m ≤ 12
  tl : tm.length = m
  ends : EndsOk m ts
  few : ts.length ≤ 60
  ck : chk m ts tm (2 * m + 2) R0 W0 = true
  one : (if 2 * (m : Int) + 2 < r1 then 2 * (m : Int) + 2 else r1) < R0 ∧ (if 2 * (m : Int) + 2 < w1 then 2 * (m : Int) + 2 else w1) < W0
  other : (R0 : Int) ≤ (if 2 * (m : Int) + 2 < r2 then 2 * (m : Int) + 2 else r2) ∨ (W0 : Int) ≤ (if 2 * (m : Int) + 2 < w2 then 2 * (m : Int) + 2 else w2)
theorem ends_ring {n : Nat} (h : 2 ≤ n) : EndsOk n (ringT n) := by
  intro t m
  unfold ringT at m
  rcases List.mem_append.mp m with m | m
  · obtain ⟨i, hi, rfl⟩ := List.mem_map.mp m
    have := List.mem_range.mp hi
    dsimp only
    omega
  · obtain rfl := List.mem_singleton.mp m
    dsimp only
    omega
theorem ends_row {t : Nat} : EndsOk (t + 1) (rowT t) := by
  intro u m
  obtain ⟨i, hi, rfl⟩ := List.mem_map.mp m
  have := List.mem_range.mp hi
  dsimp only
  omega
theorem ends_round {t : Nat} (h1 : 13 ≤ t) (h2 : t ≤ 21) : EndsOk 12 (roundT t) := by
  intro u m
  unfold roundT at m
  rcases List.mem_append.mp m with m | m
  · obtain ⟨i, hi, rfl⟩ := List.mem_map.mp m
    have := List.mem_range.mp hi
    dsimp only
    omega
  · simp only [List.mem_cons, List.not_mem_nil, or_false] at m
    rcases m with rfl | rfl | rfl <;> dsimp only <;> omega
theorem tell_due (c : Cl) {w1 r1 w2 r2 : Int} (a1 : 1 ≤ w1) (a2 : 0 ≤ r1) (a3 : r1 = 0 → w1 = 1) (a4 : 1 ≤ r1 → r1 < w1 ∧ w1 ≤ 2 * r1) (b1 : 1 ≤ w2) (b2 : 0 ≤ r2) (b3 : r2 = 0 → w2 = 1) (b4 : 1 ≤ r2 → r2 < w2 ∧ w2 ≤ 2 * r2) :
    (dueB w1 r1 w2 r2 = true → tellD c w1 r1 w2 r2 = .non) ∧ (dueB w1 r1 w2 r2 = false → ∃ m ts tm R0 W0, tellD c w1 r1 w2 r2 = caseD c m ts tm ∧ Tells0 c w1 r1 w2 r2 m ts tm R0 W0) := by
  have s1 : (sizeN r1 : Int) = if r1 + 1 > 2 then r1 + 1 else 2 := by unfold sizeN; split <;> omega
  unfold tellD
  by_cases g : (sizeN r1 : Int) ≤ (if 12 < r2 then 12 else r2)
  · rw [if_pos g]
    have g' : r1 < r2 ∧ r1 ≤ 11 ∧ 2 ≤ r2 := by
      rw [s1] at g
      split at g <;> split at g <;> omega
    refine ⟨fun d => ?_, fun d => ⟨_, _, _, sizeN r1, 1000, rfl, ?_⟩⟩
    · unfold dueB at d
      simp only [Bool.and_eq_true, Bool.or_eq_true, decide_eq_true_eq] at d
      omega
    · have n1 : 2 ≤ sizeN r1 := by split at s1 <;> omega
      have n2 : sizeN r1 ≤ 12 := by split at s1 <;> omega
      have n3 : r1 < sizeN r1 := by split at s1 <;> omega
      have n4 : (sizeN r1 : Int) ≤ r2 := by split at s1 <;> omega
      refine ⟨n1, n2, by simp [noT12], ends_ring n1, by (simp [ringT] <;> omega), chkA n1 n2, ?_, .inl ?_⟩
      · refine ⟨?_, ?_⟩ <;> split <;> omega
      · split <;> omega
  · rw [if_neg g]
    have g' : ¬ (r1 < r2 ∧ r1 ≤ 11 ∧ 2 ≤ r2) := by
      rw [s1] at g
      split at g <;> split at g <;> omega
    by_cases h : w1 < w2
    · rw [if_pos h]
      unfold walkD
      by_cases k1 : w1 ≤ 10
      · rw [if_pos k1]
        refine ⟨fun d => ?_, fun d => ⟨_, _, _, 1000, w1.toNat + 1, rfl, ?_⟩⟩
        · unfold dueB at d
          simp only [Bool.and_eq_true, Bool.or_eq_true, decide_eq_true_eq] at d
          omega
        · refine ⟨by omega, by omega, by (simp [rowTm] <;> omega), ends_row, by (simp [rowT] <;> omega), chkB (by omega) (by omega), ?_, .inr ?_⟩
          · refine ⟨?_, ?_⟩ <;> split <;> omega
          · split <;> omega
      · rw [if_neg k1]
        by_cases k2 : w1 = 11
        · rw [if_pos k2]
          refine ⟨fun d => ?_, fun d => ⟨_, _, _, 12, 12, rfl, ?_⟩⟩
          · unfold dueB at d
            simp only [Bool.and_eq_true, Bool.or_eq_true, decide_eq_true_eq] at d
            omega
          · refine ⟨by omega, by omega, rfl, ends_ring (by omega), by decide, chkC, ?_, .inr ?_⟩
            · refine ⟨?_, ?_⟩ <;> split <;> omega
            · split <;> omega
        · rw [if_neg k2]
          by_cases k3 : r1 ≤ 10
          · rw [if_pos k3]
            refine ⟨fun d => ?_, fun d => ⟨_, _, _, 11, w1.toNat + 1, rfl, ?_⟩⟩
            · unfold dueB at d
              simp only [Bool.and_eq_true, Bool.or_eq_true, decide_eq_true_eq] at d
              omega
            · refine ⟨by omega, by omega, rfl, ends_round (by omega) (by omega), by simp [roundT], chkD (by omega) (by omega), ?_, .inr ?_⟩
              · refine ⟨?_, ?_⟩ <;> split <;> omega
              · split <;> omega
          · rw [if_neg k3]
            refine ⟨fun _ => rfl, fun d => ?_⟩
            unfold dueB at d
            simp only [Bool.and_eq_false_iff, Bool.or_eq_false_iff, decide_eq_false_iff_not] at d
            omega
    · rw [if_neg h]
      refine ⟨fun _ => rfl, fun d => ?_⟩
      unfold dueB at d
      simp only [Bool.and_eq_false_iff, Bool.or_eq_false_iff, decide_eq_false_iff_not] at d
      omega
end Ge

set_option maxHeartbeats 400000
namespace Ge
open PySem PySem.Spec PyProof.Rows L2 Sd
variable [HasT]
theorem lcO {γ : Type} {it : DI} {p : DT} {el : DE} {vs : List Nat} {l : List γ} {g : γ → Da} {ρ : List Sl} (ρ1 : γ → List Sl) (o : γ → Ow) (hi : it ρ = .pure (l.map g)) (hn : noes ρ vs = true) (hs : l.length ≤ 1000000)
    (h1 : ∀ z ∈ l, p ρ (.dat (g z)) = .pure (ρ1 z)) (h2 : ∀ z ∈ l, el (ρ1 z) = .pure (.val (o z))) : dLc it p dYes el vs ρ = .pure (.val (.ol (l.map o))) := by
  unfold dLc
  rw [hi, v_pb, if_pos (by rw [hn, List.length_map]; exact decide_eq_true hs), lcG_map (r := fun z => [o z]) fun z m => ?_]
  · show G.pure (Sl.val (.ol _)) = _
    congr 3
    clear hi hs h1 h2
    induction l with
    | nil => rfl
    | cons z l ih => rw [List.map_cons, List.flatten_cons, ih]; rfl
  · unfold lcE
    rw [h1 z m, v_calm, v_pb]
    show ((el (ρ1 z)).calm.bind _) = _
    rw [h2 z m]
    rfl
section
variable {c : Cl} {one other : List Int} {m : Nat} {ts : List (Int × Int × Int)} {tm : List (Option Int)} {R0 W0 : Nat}
def icR (c : Cl) (one other : List Int) (m : Nat) (ts : List (Int × Int × Int)) (tm : List (Option Int)) (a b d e f : Sl) : List Sl := [.dat (caseD c m ts tm), .dat (bD one), .dat (bD other), a, b, d, e, f]
theorem ic0 {a b d e f : Sl} : dOp ixF (dVar 0) (dC (.int 0)) (icR c one other m ts tm a b d e f) = .pure (.dat (tabC c m ts)) := e_op (x := .dat (caseD c m ts tm)) rfl rfl (ixF_tup (n := 0) rfl)
theorem ic1 {a b d e f : Sl} : dOp ixF (dVar 0) (dC (.int 1)) (icR c one other m ts tm a b d e f) = .pure (.dat (.tup (tm.map optI))) := e_op (x := .dat (caseD c m ts tm)) rfl rfl (ixF_tup (n := 1) rfl)
theorem ic_first {a b d e f : Sl} : dIfS (dOr (dNot (dTest (dCB (isTF .tuple) (dCons (dVar 0) (dCons (dC (.raw (.ty "tuple"))) dNil))))) (dOr (dTest (dOp neF (dCB lenF (dCons (dVar 0) dNil)) (dC (.int 2)))) (dOr (dNot (dTest (dCB (isCF c.C_Table) (dCons (dOp ixF (dVar 0) (dC (.int 0))) (dCons (dC (.raw (.ref c.C_Table))) dNil))))) (dNot (dTest (dCB (isTF .tuple) (dCons (dOp ixF (dVar 0) (dC (.int 1))) (dCons (dC (.raw (.ty "tuple"))) dNil)))))))) (dRet (dC (.bl false))) dNext (icR c one other m ts tm a b d e f) = .pure (.nx (icR c one other m ts tm a b d e f)) := by
  refine e_ifF (e_orF rfl (e_orF (e_test (e_op (x := .dat (.int 2)) (y := .dat (.int 2)) rfl rfl v_nei)) (e_orF (e_notT ?_) (e_notT ?_)))) rfl
  · exact e_test (e_cb (l := [.dat (tabC c m ts), .dat (.raw (.ref c.C_Table))]) (e_cons ic0 rfl) v_isc)
  · exact e_test (e_cb (l := [.dat (.tup (tm.map optI)), .dat (.raw (.ty "tuple"))]) (e_cons ic1 rfl) rfl)
theorem len_tup {ds : List Da} : lenF [.dat (.tup ds)] = some (.dat (.int ds.length)) := rfl
theorem ic_second {a b d e f : Sl} (h : m ≤ 12) : dAsg (dTup (dCons (dCB lenF (dCons (dFld c.C_Table "things" (dOp ixF (dVar 0) (dC (.int 0)))) dNil)) (dCons (dOp ixF (dVar 0) (dC (.int 1))) dNil))) (tgTup 2 (tgCons (tgName 3) (tgCons (tgName 4) tgNil))) (icR c one other m ts tm a b d e f) = .pure (.nx (icR c one other m ts tm (.dat (.int m)) (.dat (.tup (tm.map optI))) d e f)) := by
  refine e_asg (x := .dat (.tup [.int m, .tup (tm.map optI)])) (e_tup (l := [.dat (.int m), .dat (.tup (tm.map optI))]) (os := [.fz (.int m), .fz (.tup (tm.map optI))]) (e_cons (e_cb (l := [.dat (.tup (nms.take m))]) (e_cons (e_fld ic0 tc_things) rfl) ?_) (e_cons ic1 rfl)) rfl rfl) rfl
  rw [len_tup, nms_len h]
theorem ic_third {d e f : Sl} (h : m ≤ 12) (hf : ts.length ≤ 60) (ht : tm.length = m) : dIfS (dOr (dTest (dOp gtF (dVar 3) (dC (.int 12)))) (dOr (dTest (dOp gtF (dCB lenF (dCons (dFld c.C_Table "ties" (dOp ixF (dVar 0) (dC (.int 0)))) dNil)) (dC (.int 60)))) (dTest (dOp neF (dCB lenF (dCons (dVar 4) dNil)) (dVar 3))))) (dRet (dC (.bl false))) dNext (icR c one other m ts tm (.dat (.int m)) (.dat (.tup (tm.map optI))) d e f) = .pure (.nx (icR c one other m ts tm (.dat (.int m)) (.dat (.tup (tm.map optI))) d e f)) := by
  refine e_ifF (e_orF (e_test (e_op (x := .dat (.int m)) rfl rfl ?_)) (e_orF (e_test (e_op (x := .dat (.int ts.length)) (e_cb (l := [.dat (.tup (ts.map tieD))]) (e_cons (e_fld ic0 tc_ties) rfl) (by rw [len_tup, List.length_map])) rfl ?_)) (e_test (e_op (x := .dat (.int m)) (y := .dat (.int m)) (e_cb (l := [.dat (.tup (tm.map optI))]) rfl (by rw [len_tup, List.length_map, ht])) rfl (v_nei.trans ?_))))) rfl
  · show (some (Sl.dat (.bl (decide ((12 : Int) < m)))) : Option Sl) = _
    rw [decide_eq_false (by omega)]
  · show (some (Sl.dat (.bl (decide ((60 : Int) < ts.length)))) : Option Sl) = _
    rw [decide_eq_false (by omega)]
  · simp
theorem ic_loop {d e f : Sl} : ∃ d', dFor (dItA (dSrc (dVar 4))) (tgName 5) (dIfS (dAnd (dTest (dOp notNF (dVar 5) (dC .non))) (dOr (dNot (dTest (dCB (isTF .int) (dCons (dVar 5) (dCons (dC (.raw (.ty "int"))) dNil))))) (dTest (dCB (isTF .bool) (dCons (dVar 5) (dCons (dC (.raw (.ty "bool"))) dNil)))))) (dRet (dC (.bl false))) dNext) (icR c one other m ts tm (.dat (.int m)) (.dat (.tup (tm.map optI))) d e f) = .pure (.nx (icR c one other m ts tm (.dat (.int m)) (.dat (.tup (tm.map optI))) d' e f)) := by
  have key := for_nx (ρ := icR c one other m ts tm (.dat (.int m)) (.dat (.tup (tm.map optI))) d e f) (p := tgName 5) (q := dIfS (dAnd (dTest (dOp notNF (dVar 5) (dC .non))) (dOr (dNot (dTest (dCB (isTF .int) (dCons (dVar 5) (dCons (dC (.raw (.ty "int"))) dNil))))) (dTest (dCB (isTF .bool) (dCons (dVar 5) (dCons (dC (.raw (.ty "bool"))) dNil)))))) (dRet (dC (.bl false))) dNext) (xs := tm.map optI) (fun k ρ => ∃ d', ρ = icR c one other m ts tm (.dat (.int m)) (.dat (.tup (tm.map optI))) d' e f) ⟨d, rfl⟩ ?_
  · obtain ⟨ρ3, h1, d', h2⟩ := key
    refine ⟨d', ?_⟩
    rw [v_for, v_ita, v_src]
    refine Eq.trans (show _ = forG _ _ (tm.map optI) _ from rfl) (h1.trans ?_)
    rw [h2]
  · rintro k z ρ1 hz ⟨d', rfl⟩
    rw [List.getElem?_map] at hz
    cases ht : tm[k]? with
    | none => rw [ht] at hz; cases hz
    | some t =>
      rw [ht] at hz
      cases hz
      cases t with
      | none => exact ⟨_, e_ifF (e_and (c := false) rfl nofun fun _ => rfl) rfl, _, rfl⟩
      | some x => exact ⟨_, e_ifF (e_and (c := true) rfl (fun _ => e_orF rfl rfl) nofun) rfl, _, rfl⟩
end
end Ge

set_option maxHeartbeats 400000
namespace Ge
open PySem PySem.Spec PyProof.Rows L2 Sd
variable [HasT]
section
variable {c : Cl} {one other : List Int} {m : Nat} {ts : List (Int × Int × Int)} {tm : List (Option Int)} {R0 W0 : Nat}
theorem ic_rows {d e : Sl} (h1 : 2 ≤ m) (h2 : m ≤ 12) (ok : EndsOk m ts) (hf : ts.length ≤ 60) : dAsg (dLc (dItR1 (dVar 3)) (tgName 7) dYes (dCall (F_law_rows c) (dCons (dVar 3) (dCons (dFld c.C_Table "ties" (dOp ixF (dVar 0) (dC (.int 0)))) (dCons (dVar 7) (dCons (dOp addF (dOp mulF (dC (.int 2)) (dVar 3)) (dC (.int 2))) dNil))))) [7]) (tgName 6) (icR c one other m ts tm (.dat (.int m)) (.dat (.tup (tm.map optI))) d e .no)
    = .pure (.nx (icR c one other m ts tm (.dat (.int m)) (.dat (.tup (tm.map optI))) d (.val (.ol ((List.range m).map fun s => .ol (osK m ts s (2 * m + 2))))) .no)) := by
  refine e_asg (x := .val (.ol ((List.range m).map fun s => .ol (osK m ts s (2 * m + 2))))) ?_ rfl
  refine lcO (l := List.range m) (g := fun i => .int (i : Int)) (fun i => icR c one other m ts tm (.dat (.int m)) (.dat (.tup (tm.map optI))) d e (.dat (.int (i : Int)))) (fun s => .ol (osK m ts s (2 * m + 2))) (v_r1p (by omega) rfl) rfl (by rw [List.length_range]; omega) (fun z _ => rfl) (fun z mz => ?_)
  refine e_call1 (l := [.dat (.int m), .dat (.tup (ts.map tieD)), .dat (.int z), .dat (.int (2 * m + 2))]) (os := [.fz (.int m), .fz (.tup (ts.map tieD)), .fz (.int z), .fz (.int (2 * m + 2))]) [.dat (.int m), .dat (.tup (ts.map tieD)), .dat (.int z), .dat (.int ((2 * m + 2 : Nat) : Int))] (e_cons rfl (e_cons (e_fld ic0 tc_ties) (e_cons rfl (e_cons (e_op (x := .dat (.int (2 * m))) (e_op (x := .dat (.int 2)) (y := .dat (.int m)) rfl rfl (mulF_ok (.inl (by omega)))) rfl rfl) rfl)))) rfl ?_ (r_rows ok (by omega) (by omega))
  show [Sl.dat (.int m), .dat (.tup (ts.map tieD)), .dat (.int z), .dat (.int (2 * (m : Int) + 2))] = _
  rw [show ((2 * m + 2 : Nat) : Int) = 2 * (m : Int) + 2 by omega]
theorem fz_row (r : List (Option Int)) : (roO r).frz = roD r := by
  unfold roO
  show Da.lst (frzs _) = _
  rw [frzs_map]
  rfl
theorem frzs_app : ∀ (l : List Ow), frzs l = l.map Ow.frz
  | [] => rfl
  | o :: l => by rw [frzs, List.map_cons, frzs_app l]
theorem fz_os (m : Nat) (ts : List (Int × Int × Int)) (s L : Nat) : (Ow.ol (osK m ts s L)).frz = .lst ((List.range (L + 1)).map fun k => roD (rowN m ts s k)) := by
  show Da.lst (frzs _) = _
  rw [frzs_app]
  unfold osK
  rw [List.map_cons, fz_row, List.map_map, List.range_succ_eq_map, List.map_cons, List.map_map]
  rfl
theorem fz_rows (m : Nat) (ts : List (Int × Int × Int)) (L : Nat) : (Ow.ol ((List.range m).map fun s => .ol (osK m ts s L))).frz = rowsDa m ts L := by
  show Da.lst (frzs _) = _
  rw [frzs_app, List.map_map]
  unfold rowsDa
  congr 1
  refine List.map_congr_left fun s _ => ?_
  exact fz_os m ts s L
theorem r_is_case (h1 : BsOk one) (h2 : BsOk other) (t : Tells0 c (walkR one) (ringR one) (walkR other) (ringR other) m ts tm R0 W0) : F_law_is_case c [.dat (caseD c m ts tm), .dat (bD one), .dat (bD other)] = .pure (.dat (.bl true)) := by
  unfold F_law_is_case D_law_is_case
  obtain ⟨d', hl⟩ := ic_loop (c := c) (one := one) (other := other) (m := m) (ts := ts) (tm := tm) (d := .no) (e := .no) (f := .no)
  refine e_def (ρ0 := icR c one other m ts tm .no .no .no .no .no) rfl (e_seq (ic_first (a := .no) (b := .no) (d := .no) (e := .no) (f := .no)) (e_seq (ic_second (a := .no) (b := .no) (d := .no) (e := .no) (f := .no) t.m2) (e_seq (ic_third (d := .no) (e := .no) (f := .no) t.m2 t.few t.tl) (e_seq hl (e_seq (ic_rows (d := d') (e := .no) t.m1 t.m2 t.ends t.few) ?_)))))
  rw [v_dfz]
  have hfz : (icR c one other m ts tm (.dat (.int m)) (.dat (.tup (tm.map optI))) d' (.val (.ol ((List.range m).map fun s => .ol (osK m ts s (2 * m + 2))))) .no).set 6 (frzSl (get (icR c one other m ts tm (.dat (.int m)) (.dat (.tup (tm.map optI))) d' (.val (.ol ((List.range m).map fun s => .ol (osK m ts s (2 * m + 2))))) .no) 6)) = icR c one other m ts tm (.dat (.int m)) (.dat (.tup (tm.map optI))) d' (.dat (rowsDa m ts (2 * m + 2))) .no := by
    show icR c one other m ts tm (.dat (.int m)) (.dat (.tup (tm.map optI))) d' (.dat (Ow.ol ((List.range m).map fun s => .ol (osK m ts s (2 * m + 2)))).frz) .no = _
    rw [fz_rows]
  rw [hfz]
  have held : ∀ (bs : List Int) (k : Nat), BsOk bs → get (icR c one other m ts tm (.dat (.int m)) (.dat (.tup (tm.map optI))) d' (.dat (rowsDa m ts (2 * m + 2))) .no) k = .dat (bD bs) →
      dCall (F_law_held c) (dCons (dVar 6) (dCons (dVar 4) (dCons (dCall (F_law_reaches c) (dCons (dVar k) dNil)) dNil))) (icR c one other m ts tm (.dat (.int m)) (.dat (.tup (tm.map optI))) d' (.dat (rowsDa m ts (2 * m + 2))) .no)
        = .pure (.dat (.bl (decide ((if 2 * (m : Int) + 2 < ringR bs then 2 * (m : Int) + 2 else ringR bs) < R0) && decide ((if 2 * (m : Int) + 2 < walkR bs then 2 * (m : Int) + 2 else walkR bs) < W0)))) := fun bs k hb hk => by
    obtain ⟨f1, f2, _, _⟩ := two_facts hb
    obtain ⟨wn, ew⟩ := Int.eq_ofNat_of_zero_le (show 0 ≤ (if 2 * (m : Int) + 2 < walkR bs then 2 * (m : Int) + 2 else walkR bs) by split <;> omega)
    obtain ⟨rn, er⟩ := Int.eq_ofNat_of_zero_le (show 0 ≤ (if 2 * (m : Int) + 2 < ringR bs then 2 * (m : Int) + 2 else ringR bs) by split <;> omega)
    have lw : wn ≤ 2 * m + 2 := by split at ew <;> omega
    have lr : rn ≤ 2 * m + 2 := by split at er <;> omega
    have hh := held_chk (w := wn) (r := rn) t.ck lw lr
    rw [ew, er]
    refine e_call1 (l := [.dat (rowsDa m ts (2 * m + 2)), .dat (.tup (tm.map optI)), .dat (.tup [.int (walkR bs), .int (ringR bs)])]) (os := [.fz (rowsDa m ts (2 * m + 2)), .fz (.tup (tm.map optI)), .fz (.tup [.int (walkR bs), .int (ringR bs)])]) [.dat (rowsDa m ts (2 * m + 2)), .dat (.tup (tm.map optI)), .dat (.tup [.int (walkR bs), .int (ringR bs)])]
      (e_cons rfl (e_cons rfl (e_cons (e_call1 (l := [.dat (bD bs)]) (os := [.fz (bD bs)]) [.dat (bD bs)] (e_cons (by rw [v_var, hk]; rfl) rfl) rfl rfl (r_reaches hb.ok)) rfl))) rfl rfl ?_
    rw [r_held (wn := wn) (rn := rn) (by rw [show ((2 * m + 2 : Nat) : Int) = 2 * (m : Int) + 2 by omega]; exact ew) (by rw [show ((2 * m + 2 : Nat) : Int) = 2 * (m : Int) + 2 by omega]; exact er) (by have := t.m2; omega) (by have := t.m1; omega) lw lr t.tl, hh]
    congr 4 <;> simp
  have e1 := held one 1 h1 rfl
  have e2 := held other 2 h2 rfl
  rw [decide_eq_true t.one.1, decide_eq_true t.one.2] at e1
  have f2 : (decide ((if 2 * (m : Int) + 2 < ringR other then 2 * (m : Int) + 2 else ringR other) < R0) && decide ((if 2 * (m : Int) + 2 < walkR other then 2 * (m : Int) + 2 else walkR other) < W0)) = false := by
    rw [Bool.and_eq_false_iff, decide_eq_false_iff_not, decide_eq_false_iff_not]
    rcases t.other with h | h
    · left; omega
    · right; omega
  rw [f2] at e2
  refine e_ret (andV_bl (x := true) (y := true) e1 ?_)
  rw [v_notv, e2]
  rfl
end
end Ge

set_option maxHeartbeats 400000
namespace Ge
open PySem PySem.Spec PyProof.Rows L2 Sd
variable [HasT]
theorem lays_ties (n : Nat) : ∀ ts : List (Int × Int × Int), layss (n + 1) (ts.map tieD) = true
  | [] => rfl
  | t :: r => by
    rw [List.map_cons]
    unfold layss
    rw [lays_ties n r]
    rfl
theorem lays_tm (n : Nat) : ∀ tm : List (Option Int), layss (n + 1) (tm.map optI) = true
  | [] => rfl
  | t :: r => by
    rw [List.map_cons]
    unfold layss
    rw [lays_tm n r]
    cases t <;> rfl
theorem lays_nms {m : Nat} (h : m ≤ 12) : layss 59 (nms.take m) = true := by
  have e : ((List.range 13).all fun m => layss 59 (nms.take m)) = true := by kernel_rfl
  exact List.all_eq_true.mp e m (List.mem_range.mpr (by omega))
section
variable {c : Cl} {one other : List Int} {m : Nat} {ts : List (Int × Int × Int)} {tm : List (Option Int)} {b : Bool}
theorem r_eq_same (h : m ≤ 12) : F_Table_eq c [.dat (tabC c m ts), .dat (tabC c m ts)] = .pure (.dat (.bl true)) := by
  unfold F_Table_eq D_Table_eq
  refine e_def (ρ0 := [.dat (tabC c m ts), .dat (tabC c m ts)]) rfl (e_ret (andV_bl (x := true) (y := true) (e_cb (l := [.dat (tabC c m ts), .dat (.raw (.ref c.C_Table))]) rfl v_isc) (andV_bl (x := true) (y := true)
    (e_op (x := .dat (.tup (nms.take m))) (y := .dat (.tup (nms.take m))) (e_fld (s := .dat (tabC c m ts)) rfl tc_things) (e_fld (s := .dat (tabC c m ts)) rfl tc_things) (eqF_same rfl rfl (lays_nms h) rfl))
    (e_op (x := .dat (.tup (ts.map tieD))) (y := .dat (.tup (ts.map tieD))) (e_fld (s := .dat (tabC c m ts)) rfl tc_ties) (e_fld (s := .dat (tabC c m ts)) rfl tc_ties) (eqF_same rfl rfl (lays_ties 58 ts) rfl)))))
theorem own_same {ρ : List Sl} {x y : DE} (h : m ≤ 12) (hx : x ρ = .pure (.dat (tabC c m ts))) (hy : y ρ = .pure (.dat (tabC c m ts))) : dOwn c.C_Table (F_Table_eq c) x y ρ = .pure (.dat (.bl true)) := by
  unfold dOwn
  rw [hx, v_pb, hy, v_pb]
  show (if (decide (c.C_Table = c.C_Table) && decide (c.C_Table = c.C_Table)) = true then (F_Table_eq c [.dat (tabC c m ts), .dat (tabC c m ts)]).calm else .fail) = _
  rw [if_pos (by simp), r_eq_same h]
  rfl
/-- batches: either all is told, or a case -/
def Told2 (c : Cl) (one other : List Int) (b : Bool) (d : Da) : Prop :=
  tellD c (walkR one) (ringR one) (walkR other) (ringR other) = d ∧ dueB (walkR one) (ringR one) (walkR other) (ringR other) = b
theorem told2 (h1 : BsOk one) (h2 : BsOk other) : (Told2 c one other true .non) ∨ (∃ m ts tm R0 W0, Told2 c one other false (caseD c m ts tm) ∧ Tells0 c (walkR one) (ringR one) (walkR other) (ringR other) m ts tm R0 W0) := by
  obtain ⟨a1, a2, a3, a4⟩ := two_facts h1
  obtain ⟨b1, b2, b3, b4⟩ := two_facts h2
  obtain ⟨t1, t2⟩ := tell_due c a1 a2 a3 a4 b1 b2 b3 b4
  cases e : dueB (walkR one) (ringR one) (walkR other) (ringR other) with
  | true => exact .inl ⟨t1 e, e⟩
  | false =>
    obtain ⟨m, ts, tm, R0, W0, k1, k2⟩ := t2 e
    exact .inr ⟨m, ts, tm, R0, W0, ⟨k1, e⟩, k2⟩
theorem non_case : isNF (.dat (caseD c m ts tm)) (.dat .non) = some (.dat (.bl false)) := rfl
theorem r_hard (h1 : BsOk one) (h2 : BsOk other) : F_is_as_hard c [.dat (bD one), .dat (bD other)] = .pure (.dat (.bl (dueB (walkR one) (ringR one) (walkR other) (ringR other)))) := by
  unfold F_is_as_hard D_is_as_hard
  have tl := r_telling (c := c) h1 h2
  refine e_def (ρ0 := [.dat (bD one), .dat (bD other)]) rfl (e_ret (e_op (x := .dat (tellD c (walkR one) (ringR one) (walkR other) (ringR other))) (y := .dat .non) (e_call1 (l := [.dat (bD one), .dat (bD other)]) (os := [.fz (bD one), .fz (bD other)]) [.dat (bD one), .dat (bD other)] rfl rfl rfl tl) rfl ?_))
  rcases told2 (c := c) h1 h2 with ⟨e1, e2⟩ | ⟨m, ts, tm, R0, W0, ⟨e1, e2⟩, _⟩
  · rw [e1, e2]
    rfl
  · rw [e1, e2]
    rfl
end
end Ge

set_option maxHeartbeats 400000
namespace Ge
open PySem PySem.Spec PyProof.Rows L2 Sd
variable [HasT]
section
variable {c : Cl} {one other : List Int} {m : Nat} {ts : List (Int × Int × Int)} {tm : List (Option Int)} {b : Bool}
theorem repr_bl {b : Bool} : reprF [.dat (.bl b)] = some (.dat (.str (if b = true then "True" else "False"))) := by
  cases b <;> rfl
theorem ne_bl {b : Bool} : neF (.dat (.bl b)) (.dat (.bl b)) = some (.dat (.bl false)) := by cases b <;> rfl
theorem ne_rep {b : Bool} : neF (.dat (.str (if b = true then "True" else "False"))) (.dat (.str (if b = true then "True" else "False"))) = some (.dat (.bl false)) := by cases b <;> kernel_rfl
theorem r_pair (h1 : BsOk one) (h2 : BsOk other) : F_law_pair_right c [.dat (bD one), .dat (bD other)] = .pure (.dat (.bl true)) := by
  unfold F_law_pair_right D_law_pair_right
  have hd := r_due (c := c) h1 h2
  have ht := r_telling (c := c) h1 h2
  have hh := r_hard (c := c) h1 h2
  have a01 : ∀ x y z : Sl, dCons (dVar 0) (dCons (dVar 1) dNil) [.dat (bD one), .dat (bD other), x, y, z] = .pure [.dat (bD one), .dat (bD other)] := fun _ _ _ => rfl
  have a10 : ∀ x y z : Sl, dCons (dVar 1) (dCons (dVar 0) dNil) [.dat (bD one), .dat (bD other), x, y, z] = .pure [.dat (bD other), .dat (bD one)] := fun _ _ _ => rfl
  generalize hB : dueB (walkR one) (ringR one) (walkR other) (ringR other) = B at hd hh
  generalize hD : tellD c (walkR one) (ringR one) (walkR other) (ringR other) = D at ht
  have s1 : dPar 2 3 (dCons (dCall (F_law_due c) (dCons (dVar 0) (dCons (dVar 1) dNil))) (dCons (dCall (F_telling_case c) (dCons (dVar 0) (dCons (dVar 1) dNil))) dNil)) [.dat (bD one), .dat (bD other), .no, .no, .no] = .pure (.nx [.dat (bD one), .dat (bD other), .dat (.bl B), .dat D, .no]) := by
    rw [v_par (s := .no) (t := .no), e_cons (r := dCons (dCall (F_telling_case c) (dCons (dVar 0) (dCons (dVar 1) dNil))) dNil) (l := [.dat D]) (e_call1 (s := .dat (.bl B)) (os := [.fz (bD one), .fz (bD other)]) [.dat (bD one), .dat (bD other)] (a01 _ _ _) rfl rfl hd) (e_cons (e_call1 (s := .dat D) (os := [.fz (bD one), .fz (bD other)]) [.dat (bD one), .dat (bD other)] (a01 _ _ _) rfl rfl ht) rfl)]
    rfl
  have kh : ∀ z : Sl, dCallK (F_is_as_hard c) (permD [1, 0]) (dCons (dVar 1) (dCons (dVar 0) dNil)) [.dat (bD one), .dat (bD other), .dat (.bl B), .dat D, z] = .pure (.dat (.bl B)) := fun z => e_callK1 (os := [.fz (bD other), .fz (bD one)]) [.dat (bD one), .dat (bD other)] (a10 _ _ _) rfl rfl hh
  have kt : ∀ z : Sl, dCallK (F_telling_case c) (permD [1, 0]) (dCons (dVar 1) (dCons (dVar 0) dNil)) [.dat (bD one), .dat (bD other), .dat (.bl B), .dat D, z] = .pure (.dat D) := fun z => e_callK1 (os := [.fz (bD other), .fz (bD one)]) [.dat (bD one), .dat (bD other)] (a10 _ _ _) rfl rfl ht
  have s2 : dIfS (dOr (dTest (dOp neF (dCB reprF (dCons (dCall (F_is_as_hard c) (dCons (dVar 0) (dCons (dVar 1) dNil))) dNil)) (dCB reprF (dCons (dVar 2) dNil)))) (dTest (dOp neF (dCallK (F_is_as_hard c) (permD [1, 0]) (dCons (dVar 1) (dCons (dVar 0) dNil))) (dVar 2)))) (dRet (dC (.bl false))) dNext [.dat (bD one), .dat (bD other), .dat (.bl B), .dat D, .no] = .pure (.nx [.dat (bD one), .dat (bD other), .dat (.bl B), .dat D, .no]) :=
    e_ifF (e_orF (e_test (e_op (e_cb (l := [.dat (.bl B)]) (e_cons (e_call1 (os := [.fz (bD one), .fz (bD other)]) [.dat (bD one), .dat (bD other)] (a01 _ _ _) rfl rfl hh) rfl) repr_bl) (e_cb (l := [.dat (.bl B)]) rfl repr_bl) ne_rep)) (e_test (e_op (kh _) rfl ne_bl))) rfl
  refine e_def (ρ0 := [.dat (bD one), .dat (bD other), .no, .no, .no]) rfl (e_seq s1 (e_seq s2 ?_))
  rcases told2 (c := c) h1 h2 with ⟨e1, e2⟩ | ⟨m, ts, tm, R0, W0, ⟨e1, e2⟩, t⟩
  · rw [hB] at e2
    rw [hD] at e1
    subst e1 e2
    exact e_seqR (e_ifT rfl (e_ret (andV_bl (x := true) (y := true) rfl (e_op (kt _) rfl rfl))))
  · rw [hB] at e2
    rw [hD] at e1
    subst e1 e2
    refine e_seq (e_ifF rfl rfl) (e_seq (ρ1 := [.dat (bD one), .dat (bD other), .dat (.bl false), .dat (caseD c m ts tm), .dat (caseD c m ts tm)]) (e_asg (kt _) rfl) (e_ret (andV_bl (x := true) (y := true) ?_ (andV_bl (x := true) (y := true) ?_ ?_))))
    · exact e_call1 (l := [.dat (caseD c m ts tm), .dat (bD one), .dat (bD other)]) (os := [.fz (caseD c m ts tm), .fz (bD one), .fz (bD other)]) [.dat (caseD c m ts tm), .dat (bD one), .dat (bD other)] rfl rfl rfl (r_is_case h1 h2 t)
    · exact own_same (m := m) (ts := ts) t.m2 (e_op (x := .dat (caseD c m ts tm)) rfl rfl (ixF_tup (n := 0) rfl)) (e_op (x := .dat (caseD c m ts tm)) rfl rfl (ixF_tup (n := 0) rfl))
    · exact e_op (x := .dat (.tup (tm.map optI))) (y := .dat (.tup (tm.map optI))) (e_op (x := .dat (caseD c m ts tm)) rfl rfl (ixF_tup (n := 1) rfl)) (e_op (x := .dat (caseD c m ts tm)) rfl rfl (ixF_tup (n := 1) rfl)) (eqF_same rfl rfl (lays_tm 58 tm) rfl)
end
end Ge

set_option maxHeartbeats 400000
namespace Ge
open PySem PySem.Spec PyProof.Rows L2 Sd
variable [HasT]
/-! ### whatever is drawn: more rules -/
section
variable {α β : Type} {E : Exn → Prop} {ρ : List Sl} {i : Nat} {a : DE} {c : Cl}
theorem good_calm2 {N : α → Prop} : ∀ {g : G α}, g.good N (fun _ => False) → g.calm.good N E
  | .pure a, h => h
  | .fail, h => h
  | .thr e, h => h
  | .draw m k, h => ⟨h.1, h.2.1, fun v x y => good_calm2 (h.2.2 v x y)⟩
theorem h_calm {N : α → Prop} {g : G α} (h : Gd g N fun _ => False) : Gd g.calm N E := ⟨good_calm2 h.h⟩
theorem h_lcE {p : DT} {el : DE} {ρ1 : List Sl} {z : Da} {P : List Ow → Prop} (h1 : p ρ (.dat z) = .pure ρ1) (h2 : Gd (el ρ1) (fun s => ∃ o, s = .val o ∧ P [o]) fun _ => False) : Gd (lcE p dYes el ρ z) P E := by
  unfold lcE
  rw [h1, v_calm, v_pb]
  show Gd ((el ρ1).calm.bind _) P E
  exact h_bind (h_calm (h_mono h2 fun s ⟨o, e, k⟩ => by
    subst e
    exact h_pure k))
theorem h_lc {it : DI} {p : DT} {el : DE} {vs : List Nat} {N : Sl → Prop} (P : Da → List Ow → Prop) (h : Gd (it ρ) (fun xs => noes ρ vs = true ∧ xs.length ≤ 1000000 ∧ (∀ z ∈ xs, Gd (lcE p dYes el ρ z) (P z) E) ∧ ∀ L : List (List Ow), Paired P xs L → N (.val (.ol L.flatten))) E) : Gd (dLc it p dYes el vs ρ) N E := by
  refine h_bind (h_mono h fun xs ⟨k1, k2, k3, k4⟩ => ?_)
  rw [if_pos (by rw [k1]; exact decide_eq_true k2)]
  exact h_bind ⟨lcG_good P (fun z m => (k3 z m).h) fun L hp => h_pure (k4 L hp)⟩
theorem h_r1 {N : List Da → Prop} (h : Gd (a ρ) (fun s => ∃ n : Nat, n ≤ 1000000 ∧ s = .dat (.int n) ∧ N ((List.range n).map fun (i : Nat) => .int (i : Int))) E) : Gd (dItR1 a ρ) N E := by
  have e : dItR1 a ρ = (a ρ).bind fun s => dItR1 (fun _ => .pure s) ρ := by
    unfold dItR1
    rfl
  rw [e]
  exact h_bind (h_mono h fun s ⟨n, hn, es, k⟩ => by
    subst es
    exact h_eq (v_r1p hn rfl) k)
theorem h_draw {N : Sl → Prop} {m : Int} (h1 : 0 < m) (h2 : m < 1073741824) (h : ∀ v : Int, 0 ≤ v → v < m → N (.dat (.int v))) : Gd (F_law_draw c [.src, .dat (.int m)]) N E :=
  h_drw h1 h2 fun v a b => h_pure (h v a b)
theorem h_pick {N : Sl → Prop} {ds : List Da} (h0 : 0 < ds.length) (h1 : ds.length < 1000000) (h : ∀ d ∈ ds, N (.dat d)) : Gd (F_law_pick c [.src, .dat (.lst ds)]) N E := by
  unfold F_law_pick D_law_pick
  refine h_def [.src, .dat (.lst ds)] rfl (h_ret (h_op (h_eq (x := .dat (.lst ds)) rfl (h_callD1 [.src, .dat (.int ds.length)] rfl (l := [.dat (.int ds.length)]) (os := [.fz (.int ds.length)]) rfl rfl rfl (h_draw (by omega) (by omega) fun v v0 v1 => ?_)))))
  obtain ⟨j, rfl⟩ : ∃ j : Nat, v = j := ⟨v.toNat, by omega⟩
  have hj : j < ds.length := by omega
  exact ⟨_, ixF_lst (List.getElem?_eq_getElem hj), h_fin (h _ (List.getElem_mem hj))⟩
end
/-! ### batches are drawn -/
def bsB (bs : List Int) : Bool := decide (bs.length ≤ 60) && bs.all fun b => decide (1 ≤ b) && decide (b ≤ 100)
theorem bs_ok {bs : List Int} (h : bsB bs = true) : BsOk bs := by
  unfold bsB at h
  rw [Bool.and_eq_true, decide_eq_true_eq, List.all_eq_true] at h
  exact ⟨h.1, fun b m => by
    have := h.2 b m
    rw [Bool.and_eq_true, decide_eq_true_eq, decide_eq_true_eq] at this
    exact this⟩
def IsBs (s : Sl) : Prop := ∃ bs, BsOk bs ∧ s = .dat (bD bs)
def BsOw (os : List Ow) : Prop := ∃ bs : List Int, os = (bs.map Da.int).map Ow.fz ∧ ∀ b ∈ bs, 1 ≤ b ∧ b ≤ 100
theorem bsow_flat : ∀ {xs : List Da} {L : List (List Ow)}, Paired (fun _ l => ∃ b : Int, 1 ≤ b ∧ b ≤ 100 ∧ l = [.fz (.int b)]) xs L → ∃ bs : List Int, L.flatten = (bs.map Da.int).map Ow.fz ∧ bs.length = xs.length ∧ ∀ b ∈ bs, 1 ≤ b ∧ b ≤ 100
  | _, _, .nil => ⟨[], rfl, rfl, fun b m => by cases m⟩
  | _, _, .cons ⟨b, b1, b2, e⟩ t => by
    obtain ⟨bs, h1, h2, h3⟩ := bsow_flat t
    subst e
    refine ⟨b :: bs, by rw [List.flatten_cons, h1]; rfl, by rw [List.length_cons, List.length_cons, h2], fun x m => ?_⟩
    rcases List.mem_cons.mp m with rfl | m
    · exact ⟨b1, b2⟩
    · exact h3 x m
theorem tup_bs {bs : List Int} : tupF [.val (.ol ((bs.map Da.int).map Ow.fz))] = some (.dat (bD bs)) := v_tupf
end Ge

set_option maxHeartbeats 400000
namespace Ge
open PySem PySem.Spec PyProof.Rows L2 Sd
variable [HasT]
section
variable {E : Exn → Prop} {c : Cl} {N : Sl → Prop}
theorem rep_ones (k : Nat) : (List.replicate k [Da.int 1]).flatten = (List.replicate k (1 : Int)).map Da.int := by
  induction k with
  | zero => rfl
  | succ n ih => rw [List.replicate_succ, List.flatten_cons, ih, List.replicate_succ]; rfl
theorem mul_ones {k : Nat} (h : k ≤ 1000) : mulF (.dat (.tup [.int 1])) (.dat (.int k)) = some (.dat (bD (List.replicate k 1))) := by
  show mulF (.val (.fz (.tup [.int 1]))) (.val (.fz (.int k))) = _
  rw [v_repT, if_pos, Int.toNat_natCast, rep_ones]
  · rfl
  · rw [Bool.and_eq_true]
    refine ⟨?_, small_ok ?_⟩
    · unfold smallI
      rw [Bool.and_eq_true]
      exact ⟨decide_eq_true (by omega), decide_eq_true (by omega)⟩
    · rw [Int.toNat_natCast]
      show 1 * k ≤ _
      omega
theorem ones_ok {k : Nat} (h : k ≤ 60) : BsOk (List.replicate k 1) := ⟨by rw [List.length_replicate]; exact h, fun b m => by
  obtain rfl := (List.mem_replicate.mp m).2
  omega⟩
theorem g_batches (h : ∀ bs, BsOk bs → N (.dat (bD bs))) : Gd (F_law_batches c [.src]) N E := by
  unfold F_law_batches D_law_batches
  refine h_def [.src, .no, .no] rfl (h_seqN (h_asg (h_callD1 [.src, .dat (.int 5)] rfl (l := [.dat (.int 5)]) (os := [.fz (.int 5)]) rfl rfl rfl (h_draw (by decide) (by decide) fun v v0 v1 => h_pure ⟨[.src, .dat (.int v), .no], rfl, ?_⟩))))
  have t : ∀ k : Int, dTest (dOp eqF (dVar 1) (dC (.int k))) [.src, .dat (.int v), .no] = .pure (decide (v = k)) := fun k => e_test (e_op (x := .dat (.int v)) (y := .dat (.int k)) rfl rfl v_eqi)
  refine h_seq (h_ifs (h_eq (t 0) ?_))
  by_cases g0 : v = 0
  · rw [if_pos (decide_eq_true g0)]
    refine h_ret (h_op (h_eq (x := .dat (.tup [.int 1])) rfl (h_callD1 [.src, .dat (.lst [.int 0, .int 1, .int 2, .int 3, .int 4, .int 5, .int 60])] rfl (l := [.val (.ol [.fz (.int 0), .fz (.int 1), .fz (.int 2), .fz (.int 3), .fz (.int 4), .fz (.int 5), .fz (.int 60)])]) (os := [.ol [.fz (.int 0), .fz (.int 1), .fz (.int 2), .fz (.int 3), .fz (.int 4), .fz (.int 5), .fz (.int 60)]]) rfl rfl rfl (h_pick (by decide) (by decide) fun d md => ?_))))
    have : ∃ k : Nat, k ≤ 60 ∧ d = .int k := by
      simp only [List.mem_cons, List.not_mem_nil, or_false] at md
      rcases md with rfl | rfl | rfl | rfl | rfl | rfl | rfl
      · exact ⟨0, by omega, rfl⟩
      · exact ⟨1, by omega, rfl⟩
      · exact ⟨2, by omega, rfl⟩
      · exact ⟨3, by omega, rfl⟩
      · exact ⟨4, by omega, rfl⟩
      · exact ⟨5, by omega, rfl⟩
      · exact ⟨60, by omega, rfl⟩
    obtain ⟨k, hk, rfl⟩ := this
    exact ⟨_, mul_ones (by omega), h_pure (h_fin (h _ (ones_ok hk)))⟩
  · rw [if_neg (by simpa using g0)]
    refine h_next ?_
    refine h_seq (h_ifs (h_eq (t 1) ?_))
    by_cases g1 : v = 1
    · rw [if_pos (decide_eq_true g1)]
      refine h_ret (h_bind (h_cons (h_callD1 [.src, .dat (.lst [.int 1, .int 2, .int 3, .int 4, .int 6, .int 11, .int 100])] rfl (l := [.val (.ol [.fz (.int 1), .fz (.int 2), .fz (.int 3), .fz (.int 4), .fz (.int 6), .fz (.int 11), .fz (.int 100)])]) (os := [.ol [.fz (.int 1), .fz (.int 2), .fz (.int 3), .fz (.int 4), .fz (.int 6), .fz (.int 11), .fz (.int 100)]]) rfl rfl rfl (h_pick (by decide) (by decide) fun d md => h_nil ?_))))
      have : ∃ b : Int, 1 ≤ b ∧ b ≤ 100 ∧ d = .int b := by
        simp only [List.mem_cons, List.not_mem_nil, or_false] at md
        rcases md with rfl | rfl | rfl | rfl | rfl | rfl | rfl <;> exact ⟨_, by decide, by decide, rfl⟩
      obtain ⟨b, b1, b2, rfl⟩ := this
      exact h_pure (h_pure (h_fin (h [b] ⟨by simp, fun x m => by obtain rfl := List.mem_singleton.mp m; exact ⟨b1, b2⟩⟩)))
    · rw [if_neg (by simpa using g1)]
      refine h_next ?_
      refine h_seq (h_ifs (h_eq (t 2) ?_))
      by_cases g2 : v = 2
      · rw [if_pos (decide_eq_true g2)]
        refine h_ret (h_cb (h_cons (h_lc (fun _ l => ∃ b : Int, 1 ≤ b ∧ b ≤ 100 ∧ l = [.fz (.int b)]) (h_r1 (h_callD1 [.src, .dat (.lst [.int 2, .int 3, .int 60])] rfl (l := [.val (.ol [.fz (.int 2), .fz (.int 3), .fz (.int 60)])]) (os := [.ol [.fz (.int 2), .fz (.int 3), .fz (.int 60)]]) rfl rfl rfl (h_pick (by decide) (by decide) fun d md => ?_))))))
        have : ∃ k : Nat, k ≤ 60 ∧ d = .int k := by
          simp only [List.mem_cons, List.not_mem_nil, or_false] at md
          rcases md with rfl | rfl | rfl
          · exact ⟨2, by omega, rfl⟩
          · exact ⟨3, by omega, rfl⟩
          · exact ⟨60, by omega, rfl⟩
        obtain ⟨k, hk, rfl⟩ := this
        refine ⟨k, by omega, rfl, rfl, by rw [List.length_map, List.length_range]; omega, fun z mz => ?_, fun L hp => h_nil ?_⟩
        · refine h_lcE (ρ1 := [.src, .dat (.int v), .dat z]) rfl (h_callD1 [.src, .dat (.lst [.int 1, .int 2, .int 3, .int 100])] rfl (l := [.val (.ol [.fz (.int 1), .fz (.int 2), .fz (.int 3), .fz (.int 100)])]) (os := [.ol [.fz (.int 1), .fz (.int 2), .fz (.int 3), .fz (.int 100)]]) rfl rfl rfl (h_pick (by decide) (by decide) fun d md => ?_))
          simp only [List.mem_cons, List.not_mem_nil, or_false] at md
          rcases md with rfl | rfl | rfl | rfl <;> exact ⟨_, rfl, _, by decide, by decide, rfl⟩
        · obtain ⟨bs, e1, e2, e3⟩ := bsow_flat hp
          rw [e1]
          exact ⟨_, tup_bs, h_pure (h_fin (h bs ⟨by rw [e2, List.length_map, List.length_range]; exact hk, e3⟩))⟩
      · rw [if_neg (by simpa using g2)]
        refine h_next ?_
        refine h_ret (h_cb (h_cons (h_lc (fun _ l => ∃ b : Int, 1 ≤ b ∧ b ≤ 100 ∧ l = [.fz (.int b)]) (h_r1 (h_op (h_eq (x := .dat (.int 1)) rfl (h_callD1 [.src, .dat (.int 3)] rfl (l := [.dat (.int 3)]) (os := [.fz (.int 3)]) rfl rfl rfl (h_draw (by decide) (by decide) fun u u0 u1 => ?_))))))))
        refine ⟨.dat (.int (1 + u)), rfl, (1 + u).toNat, by omega, by rw [show (((1 + u).toNat : Nat) : Int) = 1 + u by omega], rfl, by rw [List.length_map, List.length_range]; omega, fun z mz => ?_, fun L hp => h_nil ?_⟩
        · refine h_lcE (ρ1 := [.src, .dat (.int v), .dat z]) rfl (h_op (h_eq (x := .dat (.int 1)) rfl (h_callD1 [.src, .dat (.int 3)] rfl (l := [.dat (.int 3)]) (os := [.fz (.int 3)]) rfl rfl rfl (h_draw (by decide) (by decide) fun w w0 w1 => ?_))))
          exact ⟨.dat (.int (1 + w)), rfl, _, rfl, 1 + w, by omega, by omega, rfl⟩
        · obtain ⟨bs, e1, e2, e3⟩ := bsow_flat hp
          rw [e1]
          exact ⟨_, tup_bs, h_fin (h bs ⟨by rw [e2, List.length_map, List.length_range]; omega, e3⟩)⟩
end
end Ge

set_option maxHeartbeats 400000
namespace Ge
open PySem PySem.Spec PyProof.Rows L2 Sd
variable [HasT]
section
variable {E : Exn → Prop} {c : Cl} {N : Sl → Prop}
def someL : List (List Int) := [[], [1], [1, 1], [2], [10], [11], [12], [1, 10], [1, 9], [1, 8], [10, 1], [5, 1], [4, 1], [1, 1, 1], [1, 1, 4], [1, 2, 2], [1, 4, 1], [2, 4], [1, 1, 1, 1], [3, 2], [2, 3], [9], [1, 11], [100, 1]]
theorem some_ok {bs : List Int} (h : bs ∈ someL) : BsOk bs := by
  have e : (someL.all bsB) = true := by decide
  exact bs_ok (List.all_eq_true.mp e bs h)
def someD : List Da := someL.map bD
abbrev someE : DA := dCons (dLst (dCons (dTup dNil) (dCons (dTup (dCons (dC (.int 1)) dNil)) (dCons (dTup (dCons (dC (.int 1)) (dCons (dC (.int 1)) dNil))) (dCons (dTup (dCons (dC (.int 2)) dNil)) (dCons (dTup (dCons (dC (.int 10)) dNil)) (dCons (dTup (dCons (dC (.int 11)) dNil)) (dCons (dTup (dCons (dC (.int 12)) dNil)) (dCons (dTup (dCons (dC (.int 1)) (dCons (dC (.int 10)) dNil))) (dCons (dTup (dCons (dC (.int 1)) (dCons (dC (.int 9)) dNil))) (dCons (dTup (dCons (dC (.int 1)) (dCons (dC (.int 8)) dNil))) (dCons (dTup (dCons (dC (.int 10)) (dCons (dC (.int 1)) dNil))) (dCons (dTup (dCons (dC (.int 5)) (dCons (dC (.int 1)) dNil))) (dCons (dTup (dCons (dC (.int 4)) (dCons (dC (.int 1)) dNil))) (dCons (dTup (dCons (dC (.int 1)) (dCons (dC (.int 1)) (dCons (dC (.int 1)) dNil)))) (dCons (dTup (dCons (dC (.int 1)) (dCons (dC (.int 1)) (dCons (dC (.int 4)) dNil)))) (dCons (dTup (dCons (dC (.int 1)) (dCons (dC (.int 2)) (dCons (dC (.int 2)) dNil)))) (dCons (dTup (dCons (dC (.int 1)) (dCons (dC (.int 4)) (dCons (dC (.int 1)) dNil)))) (dCons (dTup (dCons (dC (.int 2)) (dCons (dC (.int 4)) dNil))) (dCons (dTup (dCons (dC (.int 1)) (dCons (dC (.int 1)) (dCons (dC (.int 1)) (dCons (dC (.int 1)) dNil))))) (dCons (dTup (dCons (dC (.int 3)) (dCons (dC (.int 2)) dNil))) (dCons (dTup (dCons (dC (.int 2)) (dCons (dC (.int 3)) dNil))) (dCons (dTup (dCons (dC (.int 9)) dNil)) (dCons (dTup (dCons (dC (.int 1)) (dCons (dC (.int 11)) dNil))) (dCons (dTup (dCons (dC (.int 100)) (dCons (dC (.int 1)) dNil))) dNil))))))))))))))))))))))))) dNil
theorem some_lst (ρ : List Sl) : someE ρ = .pure [.val (.ol (someD.map .fz))] := by kernel_rfl
theorem some_fz : frzs [.ol (someD.map .fz)] = [.lst someD] := by kernel_rfl
theorem g_someD {ρ : List Sl} (hs : get ρ 0 = .src) (h : ∀ bs, BsOk bs → N (.dat (bD bs))) : Gd (dCallD (F_law_pick c) 0 someE ρ) N E := by
  refine h_callD hs (h_eq (some_lst ρ) ⟨[.ol (someD.map .fz)], [.lst someD], rfl, some_fz, ?_⟩)
  refine h_pick (ds := someD) (by unfold someD; rw [List.length_map]; decide) (by unfold someD; rw [List.length_map]; decide) fun d md => ?_
  obtain ⟨bs, hb, rfl⟩ := List.mem_map.mp md
  exact h bs (some_ok hb)
theorem g_some (h : ∀ bs, BsOk bs → N (.dat (bD bs))) : Gd (F_law_some_batches c [.src]) N E := by
  unfold F_law_some_batches D_law_some_batches
  refine h_def [.src, .no] rfl (h_seqN (h_asg (h_callD1 [.src, .dat (.int 4)] rfl (l := [.dat (.int 4)]) (os := [.fz (.int 4)]) rfl rfl rfl (h_draw (by decide) (by decide) fun v v0 v1 => h_pure ⟨[.src, .dat (.int v)], rfl, ?_⟩))))
  have t : ∀ k : Int, dTest (dOp eqF (dVar 1) (dC (.int k))) [.src, .dat (.int v)] = .pure (decide (v = k)) := fun k => e_test (e_op (x := .dat (.int v)) (y := .dat (.int k)) rfl rfl v_eqi)
  refine h_seq (h_ifs (h_eq (t 0) ?_))
  by_cases g0 : v = 0
  · rw [if_pos (decide_eq_true g0)]
    exact h_ret (h_callD1 [.src] rfl (l := []) (os := []) rfl rfl rfl (g_batches fun bs hb => h_pure (h_fin (h bs hb))))
  · rw [if_neg (by simpa using g0)]
    refine h_next ?_
    refine h_seq (h_ifs (h_eq (t 1) ?_))
    by_cases g1 : v = 1
    · rw [if_pos (decide_eq_true g1)]
      refine h_ret (h_bind (h_cons (h_op (h_eq (x := .dat (.int 1)) rfl (h_callD1 [.src, .dat (.int 13)] rfl (l := [.dat (.int 13)]) (os := [.fz (.int 13)]) rfl rfl rfl (h_draw (by decide) (by decide) fun u u0 u1 => ⟨.dat (.int (1 + u)), rfl, h_nil ?_⟩))))))
      exact h_pure (h_pure (h_fin (h [1 + u] ⟨by simp, fun x m => by obtain rfl := List.mem_singleton.mp m; omega⟩)))
    · rw [if_neg (by simpa using g1)]
      refine h_next ?_
      refine h_seq (h_ifs (h_eq (t 2) ?_))
      by_cases g2 : v = 2
      · rw [if_pos (decide_eq_true g2)]
        refine h_ret (h_bind (h_cons (h_op (h_eq (x := .dat (.int 1)) rfl (h_callD1 [.src, .dat (.int 3)] rfl (l := [.dat (.int 3)]) (os := [.fz (.int 3)]) rfl rfl rfl (h_draw (by decide) (by decide) fun u u0 u1 => ⟨.dat (.int (1 + u)), rfl, ?_⟩))))))
        refine h_cons (h_op (h_eq (x := .dat (.int 1)) rfl (h_callD1 [.src, .dat (.int 11)] rfl (l := [.dat (.int 11)]) (os := [.fz (.int 11)]) rfl rfl rfl (h_draw (by decide) (by decide) fun w w0 w1 => ⟨.dat (.int (1 + w)), rfl, h_nil ?_⟩))))
        exact h_pure (h_pure (h_fin (h [1 + u, 1 + w] ⟨by simp, fun x m => by
          simp only [List.mem_cons, List.not_mem_nil, or_false] at m
          rcases m with rfl | rfl <;> omega⟩)))
      · rw [if_neg (by simpa using g2)]
        refine h_next ?_
        rw [v_seqn]
        exact h_ret (g_someD rfl fun bs hb => h_fin (h bs hb))
theorem er_map {α β : Type} (f : α → β) : ∀ (l : List α) (j : Nat), (l.map f).eraseIdx j = (l.eraseIdx j).map f
  | [], _ => rfl
  | x :: l, 0 => rfl
  | x :: l, j + 1 => by rw [List.map_cons, List.eraseIdx_cons_succ, List.eraseIdx_cons_succ, List.map_cons, er_map f l j]
/-- the slots of _law_mixed -/
def mxR (bs l f : List Int) (s : Sl) : List Sl := [.src, .dat (bD bs), .fresh (l.map Da.int), .fresh (f.map Da.int), s]
theorem g_mixed {bs : List Int} (hb : BsOk bs) (h : ∀ cs, BsOk cs → N (.fresh (cs.map Da.int))) : Gd (F_law_mixed c [.src, .dat (bD bs)]) N E := by
  unfold F_law_mixed D_law_mixed
  have ln : ∀ a d e : Sl, dCB lenF (dCons (dVar 1) dNil) [.src, .dat (bD bs), a, d, e] = .pure (.dat (.int bs.length)) := fun a d e => e_cb (l := [.dat (bD bs)]) rfl (by
    show (some (Sl.dat (.int (List.length (bs.map Da.int) : Nat))) : Option Sl) = _
    rw [List.length_map])
  have hlen := hb.len
  refine h_def [.src, .dat (bD bs), .no, .no, .no] rfl (h_seq1 (ρ1 := mxR bs bs [] .no) ?_ (h_seqN (h_for (xs := (List.range bs.length).map fun (i : Nat) => .int (i : Int)) (fun k ρ => ∃ l f s, ρ = mxR bs l f s ∧ l.length + k = bs.length ∧ f.length = k ∧ (∀ b ∈ l, 1 ≤ b ∧ b ≤ 100) ∧ ∀ b ∈ f, 1 ≤ b ∧ b ≤ 100) (v_r1p (by omega) (ln _ _ _)) ⟨bs, [], .no, rfl, rfl, rfl, hb.ok, fun b m => by cases m⟩ ?_ ?_)))
  · have e : dCons (dCB lstF (dCons (dVar 1) dNil)) (dCons (dLst dNil) dNil) [.src, .dat (bD bs), .no, .no, .no] = .pure [.fresh (bs.map Da.int), .fresh []] := rfl
    rw [v_par (s := .no) (t := .no), e]
    rfl
  · rintro k z ρ1 hz ⟨l, f, s, rfl, hl, hf, okl, okf⟩
    obtain ⟨hk, rfl⟩ := rng_at hz
    have hl0 : 0 < l.length := by omega
    refine h_pure (h_bind ?_)
    show Gd ((if isOl (get (mxR bs l f (.dat (.int k))) 3) = true then _ else _) : G (Sl × List Sl)) _ _
    rw [if_pos (show isOl (get (mxR bs l f (.dat (.int k))) 3) = true from rfl)]
    refine h_bind ?_
    show Gd ((if isOl (get (mxR bs l f (.dat (.int k))) 2) = true then _ else _) : G (Sl × List Sl)) _ _
    rw [if_pos (show isOl (get (mxR bs l f (.dat (.int k))) 2) = true from rfl)]
    refine h_bind ?_
    have l2 : dCB lenF (dCons (dVar 2) dNil) (mxR bs l f (.dat (.int k))) = .pure (.dat (.int l.length)) := e_cb (l := [.view (.ol ((l.map Da.int).map .fz))]) rfl (by
      rw [v_len_v]
      simp)
    refine h_callD1 [.src, .dat (.int l.length)] rfl (e_cons l2 rfl) (os := [.fz (.int l.length)]) rfl rfl (h_draw (by omega) (by omega) fun v v0 v1 => ?_)
    obtain ⟨j, rfl⟩ : ∃ j : Nat, v = j := ⟨v.toNat, by omega⟩
    have hj : j < l.length := by omega
    have ep : popG 2 (mxR bs l f (.dat (.int k))) (.dat (.int (j : Int))) = .pure (.dat (.int l[j]), mxR bs (l.eraseIdx j) f (.dat (.int k))) := by
      show (if 0 ≤ (j : Int) then (match (((l.map Da.int).map Ow.fz) : List Ow)[(j : Int).toNat]? with | some o => if small ((l.map Da.int).map Ow.fz).length = true then G.pure (Sl.val o, (mxR bs l f (.dat (.int k))).set 2 (.val (.ol (((l.map Da.int).map Ow.fz).eraseIdx (j : Int).toNat)))) else .fail | none => .fail) else .fail) = _
      rw [if_pos (by omega), Int.toNat_natCast, List.getElem?_map, List.getElem?_map, List.getElem?_eq_getElem hj]
      dsimp only [Option.map_some]
      rw [if_pos (small_ok (by simp; omega))]
      have e : ((l.map Da.int).map Ow.fz).eraseIdx j = ((l.eraseIdx j).map Da.int).map Ow.fz := by
        rw [er_map, er_map]
      rw [e]
      rfl
    refine h_eq ep ?_
    have ea : appG 3 (.dat (.int l[j]), mxR bs (l.eraseIdx j) f (.dat (.int k))) = .pure (.dat .non, mxR bs (l.eraseIdx j) (f ++ [l[j]]) (.dat (.int k))) := by
      show (if small (((f.map Da.int).map Ow.fz).length + 1) = true then G.pure (Sl.dat .non, (mxR bs (l.eraseIdx j) f (.dat (.int k))).set 3 (.val (.ol (((f.map Da.int).map Ow.fz) ++ [.fz (.int l[j])])))) else .fail) = _
      rw [if_pos (small_ok (by simp; omega))]
      have e : ((f.map Da.int).map Ow.fz) ++ [.fz (.int l[j])] = ((f ++ [l[j]]).map Da.int).map Ow.fz := by simp
      rw [e]
      rfl
    refine h_eq ea (h_pure ⟨_, _, _, rfl, ?_, ?_, ?_, ?_⟩)
    · rw [List.length_eraseIdx_of_lt hj]
      omega
    · rw [List.length_append]
      simp
      omega
    · exact fun b m => okl b (List.mem_of_mem_eraseIdx m)
    · intro b m
      rcases List.mem_append.mp m with m | m
      · exact okf b m
      · obtain rfl := List.mem_singleton.mp m
        exact okl _ (List.getElem_mem hj)
  · rintro ρ1 ⟨l, f, s, rfl, hl, hf, okl, okf⟩
    rw [List.length_map, List.length_range] at hl hf
    exact ⟨_, rfl, h_eq (x := .rt (.fresh (f.map Da.int))) rfl (h_fin (h f ⟨by omega, okf⟩))⟩
end
end Ge

set_option maxHeartbeats 400000
namespace Ge
open PySem PySem.Spec PyProof.Rows L2 Sd
variable [HasT]
section
variable {ρ l : List Sl} {a b : DE} {r : DA} {p q : DS} {s : Sl} {e : Exn} {F : Fn} {os : List Ow}
theorem x_drop (h : a ρ = .thr e) : dDrop a ρ = .thr e := by
  rw [v_drop, h]
  rfl
theorem x_seq (h : p ρ = .thr e) : dSeq p q ρ = .thr e := by
  rw [v_seq2, h]
  rfl
theorem x_ret (h : a ρ = .thr e) : dRet a ρ = .thr e := by
  rw [v_ret, h]
  rfl
theorem x_op {f : Op2} (h : a ρ = .thr e) : dOp f a b ρ = .thr e := by
  rw [v_op, h]
  rfl
theorem x_def {n : Nat} {D : DS} {ss ρ0 : List Sl} (h : ss ++ List.replicate (n - ss.length) .no = ρ0) (k : D ρ0 = .thr e) : dDef n D ss = .thr e := by
  rw [def_at h, k]
  rfl
theorem x_call (args : List Sl) (hr : r ρ = .pure l) (ho : ows l = some os) (ha : (frzs os).map Sl.dat = args) (h : F args = .thr e) : dCall F r ρ = .thr e := by
  rw [v_call, hr, v_pb, ho]
  dsimp only
  rw [ha]
  exact h
end
def errB (c : Cl) : Exn := ⟨c.C_InvalidNumber, [("word", .str "batches")]⟩
def badL : List Da := [.lst [.int 1], .tup [.int 0], .tup [.int 101], .tup [.bl true], bD (List.replicate 61 1), .non, .int 1, .str "1", .tup [.tup [.int 1]], .tup [.int 1, .int (-1)]]
theorem bad_check (c : Cl) : ∀ d ∈ badL, F_check_batches c [.dat d] = .thr (errB c) := by
  intro d m
  simp only [badL, List.mem_cons, List.not_mem_nil, or_false] at m
  rcases m with rfl | rfl | rfl | rfl | rfl | rfl | rfl | rfl | rfl | rfl <;> kernel_rfl
theorem bad_list (c : Cl) (ρ : List Sl) : dFzE (dCall (F_law_bad_batches c) dNil) ρ = .pure (.dat (.lst badL)) := by kernel_rfl
section
variable {c : Cl} {bs : List Int} {d x : Da}
theorem tell_bad1 (h : d ∈ badL) : F_telling_case c [.dat d, .dat x] = .thr (errB c) := by
  unfold F_telling_case D_telling_case
  exact x_def (ρ0 := [.dat d, .dat x, .no, .no]) rfl (x_seq (x_drop (x_call (l := [.dat d]) (os := [.fz d]) [.dat d] rfl rfl rfl (bad_check c d h))))
theorem tell_bad2 (hb : BsOk bs) (h : d ∈ badL) : F_telling_case c [.dat (bD bs), .dat d] = .thr (errB c) := by
  unfold F_telling_case D_telling_case
  exact x_def (ρ0 := [.dat (bD bs), .dat d, .no, .no]) rfl (e_seq (e_drop (e_call1 (l := [.dat (bD bs)]) (os := [.fz (bD bs)]) [.dat (bD bs)] rfl rfl rfl (r_check hb))) (x_seq (x_drop (x_call (l := [.dat d]) (os := [.fz d]) [.dat d] rfl rfl rfl (bad_check c d h)))))
/-- one of the two is bad -/
def BadP (y x : Da) : Prop := y ∈ badL ∨ ∃ bs, BsOk bs ∧ y = bD bs ∧ x ∈ badL
theorem tell_bad {y x : Da} (h : BadP y x) : F_telling_case c [.dat y, .dat x] = .thr (errB c) := by
  rcases h with h | ⟨bs, hb, rfl, h⟩
  · exact tell_bad1 h
  · exact tell_bad2 hb h
theorem hard_bad {y x : Da} (h : BadP y x) : F_is_as_hard c [.dat y, .dat x] = .thr (errB c) := by
  unfold F_is_as_hard D_is_as_hard
  exact x_def (ρ0 := [.dat y, .dat x]) rfl (x_ret (x_op (x_call (l := [.dat y, .dat x]) (os := [.fz y, .fz x]) [.dat y, .dat x] rfl rfl rfl (tell_bad h))))
theorem xh_bad (f : ClF c) : xh_law_told c (errB c) = some (.tup [.str "number", .str "batches"]) := by
  unfold xh_law_told xhF errB
  dsimp only
  rw [f.is_InvalidNumber_Refused]
  dsimp only
  unfold xhF
  rw [f.is_InvalidNumber_InvalidNumber]
  dsimp only
  rw [if_pos rfl]
  rfl
theorem told_bad (f : ClF c) {ρ : List Sl} {a : DE} (h : a ρ = .thr (errB c)) : dTold nt_law_told (xh_law_told c) a ρ = .pure (.dat (.tup [.str "number", .str "batches"])) := by
  unfold dTold
  rw [h]
  show optG ((xh_law_told c (errB c)).map Sl.dat) = _
  rw [xh_bad f]
  rfl
def brR (good v p : Da) : List Sl := [.src, .dat good, .dat v, .dat p]
theorem bad_turn (f : ClF c) {good v y x : Da} (h : BadP y x) : dSeq (dIfS (dTest (dOp neF (dTold nt_law_told (xh_law_told c) (dCall (F_is_as_hard c) (dCalm (dCons (dOp ixF (dVar 3) (dC (.int 0))) (dCons (dOp ixF (dVar 3) (dC (.int 1))) dNil))))) (dTup (dCons (dC (.str "number")) (dCons (dC (.str "batches")) dNil))))) (dRet (dC (.bl false))) dNext)
    (dIfS (dTest (dOp neF (dTold nt_law_told (xh_law_told c) (dCall (F_telling_case c) (dCalm (dCons (dOp ixF (dVar 3) (dC (.int 0))) (dCons (dOp ixF (dVar 3) (dC (.int 1))) dNil))))) (dTup (dCons (dC (.str "number")) (dCons (dC (.str "batches")) dNil))))) (dRet (dC (.bl false))) dNext) (brR good v (.tup [y, x])) = .pure (.nx (brR good v (.tup [y, x]))) := by
  have ar : dCalm (dCons (dOp ixF (dVar 3) (dC (.int 0))) (dCons (dOp ixF (dVar 3) (dC (.int 1))) dNil)) (brR good v (.tup [y, x])) = .pure [.dat y, .dat x] := rfl
  have ne : neF (.dat (.tup [.str "number", .str "batches"])) (.dat (.tup [.str "number", .str "batches"])) = some (.dat (.bl false)) := by kernel_rfl
  exact e_seq (e_ifF (e_test (e_op (y := .dat (.tup [.str "number", .str "batches"])) (told_bad f (x_call (os := [.fz y, .fz x]) [.dat y, .dat x] ar rfl rfl (hard_bad h))) rfl ne)) rfl)
    (e_ifF (e_test (e_op (y := .dat (.tup [.str "number", .str "batches"])) (told_bad f (x_call (os := [.fz y, .fz x]) [.dat y, .dat x] ar rfl rfl (tell_bad h))) rfl ne)) rfl)
end
end Ge

set_option maxHeartbeats 400000
namespace Ge
open PySem PySem.Spec PyProof.Rows L2 Sd
variable [HasT]
section
variable {c : Cl} {E : Exn → Prop} {N : Sl → Prop}
theorem pairs_eq {good v : Da} {p : Sl} : dItA (dSrc (dLst (dCons (dTup (dCons (dVar 2) (dCons (dVar 1) dNil))) (dCons (dTup (dCons (dVar 1) (dCons (dVar 2) dNil))) (dCons (dTup (dCons (dVar 2) (dCons (dC .non) dNil))) dNil))))) [.src, .dat good, .dat v, p] = .pure [.tup [v, good], .tup [good, v], .tup [v, .non]] := rfl
theorem bad_it {good : Da} {a b : Sl} : dItA (dSrc (dFzE (dCall (F_law_bad_batches c) dNil))) [.src, .dat good, a, b] = .pure badL := by
  rw [v_ita, v_src, bad_list]
  rfl
theorem g_bad (f : ClF c) (h : N (.dat (.bl true))) : Gd (F_law_bad_right c [.src]) N E := by
  unfold F_law_bad_right D_law_bad_right
  refine h_def [.src, .no, .no, .no] rfl (h_seqN (h_asg (h_callD1 [.src] rfl (l := []) (os := []) rfl rfl rfl (g_some fun bs hb => h_pure ⟨[.src, .dat (bD bs), .no, .no], rfl, ?_⟩))))
  refine h_seqN (h_for (fun _ ρ => ∃ a b, ρ = [.src, .dat (bD bs), a, b]) bad_it ⟨.no, .no, rfl⟩ ?_ ?_)
  · rintro k z ρ1 hz ⟨a, b, rfl⟩
    have mz : z ∈ badL := List.mem_of_getElem? hz
    refine h_pure ?_
    refine h_for (fun _ ρ => ∃ b, ρ = [.src, .dat (bD bs), .dat z, b]) pairs_eq ⟨b, rfl⟩ ?_ ?_
    · rintro j y ρ1 hy ⟨b, rfl⟩
      have my := List.mem_of_getElem? hy
      have : ∃ u v, y = .tup [u, v] ∧ BadP u v := by
        simp only [List.mem_cons, List.not_mem_nil, or_false] at my
        rcases my with rfl | rfl | rfl
        · exact ⟨_, _, rfl, .inl mz⟩
        · exact ⟨_, _, rfl, .inr ⟨bs, hb, rfl, mz⟩⟩
        · exact ⟨_, _, rfl, .inl mz⟩
      obtain ⟨u, v, rfl, hb2⟩ := this
      exact h_pure (h_eq (bad_turn f (good := bD bs) (v := z) hb2) ⟨_, rfl⟩)
    · rintro ρ1 ⟨b, rfl⟩
      exact ⟨_, _, rfl⟩
  · rintro ρ1 ⟨a, b, rfl⟩
    exact ⟨_, rfl, h_eq (x := .rt (.dat (.bl true))) rfl (h_fin h)⟩
end
/-- the slots of law -/
def lwR (ns : List Int) (a b d e : Sl) : List Sl := [.dat (.scr ns), .src, a, b, d, e]
theorem lw_fz {ns : List Int} {a b d e : Sl} : (lwR ns a b d e).set 1 (frzSl (get (lwR ns a b d e) 1)) = lwR ns a b d e := rfl
section
variable {c : Cl} {E : Exn → Prop} {NO : Out → Prop} {ns : List Int}
theorem law_turn (h : ∀ one other, BsOk one → BsOk other → ∀ a e, NO (.nx (lwR ns a (.dat (bD one)) (.dat (bD other)) e))) {a b d e : Sl} :
    Gd (dSeq (dFz 1 (dPar 3 4 (dCons (dCallD (F_law_some_batches c) 1 dNil) (dCons (dCallD (F_law_some_batches c) 1 dNil) dNil)))) (dIfS (dOr (dNot (dTest (dCall (F_law_pair_right c) (dCons (dVar 3) (dCons (dVar 4) dNil))))) (dNot (dTest (dCall (F_law_pair_right c) (dCons (dVar 4) (dCons (dVar 3) dNil)))))) (dRet (dC (.bl false))) dNext) (lwR ns a b d e)) NO E := by
  refine h_seqN (h_fz _ lw_fz (h_par (h_cons (h_callD1 [.src] rfl (l := []) (os := []) rfl rfl rfl (g_some fun one h1 => h_cons (h_callD1 [.src] rfl (l := []) (os := []) rfl rfl rfl (g_some fun other h2 => h_nil ⟨_, _, rfl, _, rfl, ?_⟩)))))))
  refine h_eq (x := .nx (lwR ns a (.dat (bD one)) (.dat (bD other)) e)) ?_ (h one other h1 h2 a e)
  exact e_ifF (e_orF (e_notT (e_test (e_call1 (l := [.dat (bD one), .dat (bD other)]) (os := [.fz (bD one), .fz (bD other)]) [.dat (bD one), .dat (bD other)] rfl rfl rfl (r_pair h1 h2)))) (e_notT (e_test (e_call1 (l := [.dat (bD other), .dat (bD one)]) (os := [.fz (bD other), .fz (bD one)]) [.dat (bD other), .dat (bD one)] rfl rfl rfl (r_pair h2 h1))))) rfl
end
end Ge

set_option maxHeartbeats 400000
namespace Ge
open PySem PySem.Spec PyProof.Rows L2 Sd
variable [HasT]
section
variable {c : Cl} {E : Exn → Prop} {NO : Out → Prop} {ns : List Int} {one other near : List Int} {a b d e : Sl}
theorem near_len (h1 : BsOk one) : dOp addF (dVar 3) (dOp mulF (dTup (dCons (dC (.int 1)) dNil)) (dCB intF (dCons (dOp ltF (dCB lenF (dCons (dVar 3) dNil)) (dC (.int 60))) dNil))) (lwR ns a (.dat (bD one)) d e) = .pure (.dat (bD (one ++ List.replicate (if one.length < 60 then 1 else 0) 1))) := by
  have ln : dCB lenF (dCons (dVar 3) dNil) (lwR ns a (.dat (bD one)) d e) = .pure (.dat (.int one.length)) := e_cb (l := [.dat (bD one)]) rfl (by
    show (some (Sl.dat (.int (List.length (one.map Da.int) : Nat))) : Option Sl) = _
    rw [List.length_map])
  have hi : dCB intF (dCons (dOp ltF (dCB lenF (dCons (dVar 3) dNil)) (dC (.int 60))) dNil) (lwR ns a (.dat (bD one)) d e) = .pure (.dat (.int ((if one.length < 60 then 1 else 0 : Nat) : Int))) := by
    refine e_cb (l := [.dat (.bl (decide ((one.length : Int) < 60)))]) (e_cons (e_op ln rfl rfl) rfl) ?_
    rw [v_intb]
    by_cases g : one.length < 60
    · rw [if_pos g, if_pos (decide_eq_true (by omega))]
      rfl
    · rw [if_neg g, if_neg (by simp; omega)]
      rfl
  refine e_op (x := .dat (bD one)) (y := .dat (bD (List.replicate (if one.length < 60 then 1 else 0) 1))) rfl (e_op (x := .dat (.tup [.int 1])) rfl hi (mul_ones (by split <;> omega))) ?_
  show addF (.val (.fz (.tup (one.map Da.int)))) (.val (.fz (.tup ((List.replicate (if one.length < 60 then 1 else 0) (1 : Int)).map Da.int)))) = _
  rw [v_addt, if_pos, ← List.map_append]
  · rfl
  · rw [List.length_map, List.length_map, List.length_replicate]
    have := h1.len
    exact small_ok (by split <;> omega)
theorem near_ok (h1 : BsOk one) : BsOk (one ++ List.replicate (if one.length < 60 then 1 else 0) 1) := by
  refine ⟨?_, fun x m => ?_⟩
  · rw [List.length_append, List.length_replicate]
    have := h1.len
    split <;> omega
  · rcases List.mem_append.mp m with m | m
    · exact h1.ok x m
    · obtain rfl := (List.mem_replicate.mp m).2
      omega
theorem law_near (h1 : BsOk one) (h : ∀ near, BsOk near → NO (.nx (lwR ns a (.dat (bD one)) d (.dat (bD near))))) :
    Gd (dFz 1 (dAsg (dCallD (F_law_pick c) 1 (dCons (dLst (dCons (dCB tupF (dCons (dCallD (F_law_mixed c) 1 (dCons (dVar 3) dNil)) dNil)) (dCons (dOp addF (dVar 3) (dOp mulF (dTup (dCons (dC (.int 1)) dNil)) (dCB intF (dCons (dOp ltF (dCB lenF (dCons (dVar 3) dNil)) (dC (.int 60))) dNil)))) dNil))) dNil)) (tgName 5)) (lwR ns a (.dat (bD one)) d e)) NO E := by
  refine h_fz _ lw_fz (h_asg (h_callD rfl (h_cons (h_bind (h_cons (h_cb (h_cons (h_callD1 [.src, .dat (bD one)] rfl (l := [.dat (bD one)]) (os := [.fz (bD one)]) rfl rfl rfl (g_mixed h1 fun cs hc => h_nil ⟨_, tup_bs, h_cons (h_eq (near_len h1) (h_nil ?_))⟩)))))))))
  refine h_pure (h_nil ⟨[.ol [.fz (bD cs), .fz (bD (one ++ List.replicate (if one.length < 60 then 1 else 0) 1))]], [.lst [bD cs, bD (one ++ List.replicate (if one.length < 60 then 1 else 0) 1)]], rfl, rfl, h_pick (by show 0 < 2; decide) (by show 2 < 1000000; decide) fun x mx => h_pure ?_⟩)
  simp only [List.mem_cons, List.not_mem_nil, or_false] at mx
  rcases mx with rfl | rfl
  · exact h cs hc
  · exact h _ (near_ok h1)
theorem pair_eq {ρ : List Sl} {r : DA} (h1 : BsOk one) (h2 : BsOk other) (hr : r ρ = .pure [.dat (bD one), .dat (bD other)]) : dNot (dTest (dCall (F_law_pair_right c) r)) ρ = .pure false :=
  e_notT (e_test (e_call1 (os := [.fz (bD one), .fz (bD other)]) [.dat (bD one), .dat (bD other)] hr rfl rfl (r_pair h1 h2)))
theorem law_third (h1 : BsOk one) (hn : BsOk near) (h : NO (.nx (lwR ns a (.dat (bD one)) d (.dat (bD near))))) :
    Gd (dFz 1 (dIfS (dOr (dNot (dTest (dCall (F_law_pair_right c) (dCons (dVar 3) (dCons (dVar 5) dNil))))) (dNot (dTest (dCall (F_law_pair_right c) (dCons (dTup (dCons (dC (.int 10)) dNil)) (dCons (dCallD (F_law_pick c) 1 (dCons (dLst (dCons (dTup (dCons (dC (.int 1)) (dCons (dC (.int 8)) dNil))) (dCons (dTup (dCons (dC (.int 9)) dNil)) (dCons (dTup (dCons (dC (.int 11)) dNil)) (dCons (dTup (dCons (dC (.int 3)) (dCons (dC (.int 2)) dNil))) dNil))))) dNil)) dNil)))))) (dRet (dC (.bl false))) dNext) (lwR ns a (.dat (bD one)) d (.dat (bD near)))) NO E := by
  refine h_fz _ lw_fz (h_ifs (h_or (h_eq (pair_eq h1 hn rfl) ?_)))
  rw [if_neg (by decide)]
  refine h_not (h_test (h_bind (h_cons (h_eq (x := .dat (bD [10])) rfl (h_cons (h_callD1 [.src, .dat (.lst [bD [1, 8], bD [9], bD [11], bD [3, 2]])] rfl (l := [.val (.ol [.fz (bD [1, 8]), .fz (bD [9]), .fz (bD [11]), .fz (bD [3, 2])])]) (os := [.ol [.fz (bD [1, 8]), .fz (bD [9]), .fz (bD [11]), .fz (bD [3, 2])]]) rfl rfl rfl (h_pick (by show 0 < 4; decide) (by show 4 < 1000000; decide) fun x mx => h_nil ?_)))))))
  have : ∃ bs, bsB bs = true ∧ x = bD bs := by
    simp only [List.mem_cons, List.not_mem_nil, or_false] at mx
    rcases mx with rfl | rfl | rfl | rfl
    · exact ⟨[1, 8], by decide, rfl⟩
    · exact ⟨[9], by decide, rfl⟩
    · exact ⟨[11], by decide, rfl⟩
    · exact ⟨[3, 2], by decide, rfl⟩
  obtain ⟨bs, hb, rfl⟩ := this
  refine h_eq (x := .dat (.bl true)) ?_ (h_pure ?_)
  · exact r_pair (bs_ok (bs := [10]) (by decide)) (bs_ok hb)
  · rw [if_neg (by decide)]
    exact h_next h
end
end Ge

set_option maxHeartbeats 400000
namespace Ge
open PySem PySem.Spec PyProof.Rows L2 Sd
variable [HasT]
section
variable {c : Cl} {E : Exn → Prop} {NO : Out → Prop} {ns : List Int} {a b d e : Sl}
theorem hard_is {one other : List Int} {ρ : List Sl} {r : DA} {x : Bool} (h1 : bsB one = true) (h2 : bsB other = true) (hd : dueB (walkR one) (ringR one) (walkR other) (ringR other) = x) (hr : r ρ = .pure [.dat (bD one), .dat (bD other)]) : dCall (F_is_as_hard c) r ρ = .pure (.dat (.bl x)) := by
  refine e_call1 (os := [.fz (bD one), .fz (bD other)]) [.dat (bD one), .dat (bD other)] hr rfl rfl ?_
  rw [r_hard (bs_ok h1) (bs_ok h2), hd]
theorem law_fourth (f : ClF c) (h : NO (.nx (lwR ns a b d e))) : Gd (dFz 1 (dIfS (dOr (dNot (dTest (dCallD (F_law_bad_right c) 1 dNil))) (dOr (dNot (dTest (dCall (F_is_as_hard c) (dCons (dTup (dCons (dC (.int 3)) (dCons (dC (.int 2)) dNil))) (dCons (dTup (dCons (dC (.int 2)) (dCons (dC (.int 3)) dNil))) dNil))))) (dTest (dCall (F_is_as_hard c) (dCons (dTup (dCons (dC (.int 2)) (dCons (dC (.int 3)) dNil))) (dCons (dTup (dCons (dC (.int 3)) (dCons (dC (.int 2)) dNil))) dNil)))))) (dRet (dC (.bl false))) dNext) (lwR ns a b d e)) NO E := by
  refine h_fz _ lw_fz (h_ifs (h_or (h_not (h_test (h_callD1 [.src] rfl (l := []) (os := []) rfl rfl rfl (g_bad f (h_pure ?_)))))))
  rw [if_neg (by decide)]
  refine h_eq (x := false) (e_orF (e_notT (e_test (hard_is (one := [3, 2]) (other := [2, 3]) (by decide) (by decide) (by decide) rfl))) (e_test (hard_is (one := [2, 3]) (other := [3, 2]) (by decide) (by decide) (by decide) rfl))) ?_
  rw [if_neg (by decide)]
  exact h_next h
theorem tell_11 : F_telling_case c [.dat (bD [11]), .dat (bD [1, 10])] = .pure (.dat .non) := by
  rw [r_telling (bs_ok (bs := [11]) (by decide)) (bs_ok (bs := [1, 10]) (by decide))]
  rfl
theorem mul_100 : mulF (.dat (.tup [.int 100])) (.dat (.int 60)) = some (.dat (bD (List.replicate 60 100))) := by kernel_rfl
theorem law_last : dRet (dAndV (dOp isNF (dCall (F_telling_case c) (dCons (dTup (dCons (dC (.int 11)) dNil)) (dCons (dTup (dCons (dC (.int 1)) (dCons (dC (.int 10)) dNil))) dNil))) (dC .non)) (dAndV (dCall (F_is_as_hard c) (dCons (dOp mulF (dTup (dCons (dC (.int 1)) dNil)) (dC (.int 5))) (dCons (dOp mulF (dTup (dCons (dC (.int 100)) dNil)) (dC (.int 60))) dNil))) (dNotV (dCall (F_is_as_hard c) (dCons (dTup dNil) (dCons (dTup (dCons (dC (.int 1)) dNil)) dNil)))))) (lwR ns a b d e) = .pure (.rt (.dat (.bl true))) := by
  refine e_ret (andV_bl (x := true) (y := true) (e_op (x := .dat .non) (e_call1 (l := [.dat (bD [11]), .dat (bD [1, 10])]) (os := [.fz (bD [11]), .fz (bD [1, 10])]) [.dat (bD [11]), .dat (bD [1, 10])] rfl rfl rfl tell_11) rfl rfl) (andV_bl (x := true) (y := true) ?_ ?_))
  · exact hard_is (one := List.replicate 5 1) (other := List.replicate 60 100) (by decide) (by decide) (by decide +kernel) (e_cons (e_op (x := .dat (.tup [.int 1])) (y := .dat (.int ((5 : Nat) : Int))) rfl rfl (mul_ones (by decide))) (e_cons (e_op (x := .dat (.tup [.int 100])) (y := .dat (.int 60)) rfl rfl mul_100) rfl))
  · have e0 : dCall (F_is_as_hard c) (dCons (dTup dNil) (dCons (dTup (dCons (dC (.int 1)) dNil)) dNil)) (lwR ns a b d e) = .pure (.dat (.bl false)) := hard_is (one := []) (other := [1]) (x := false) (by decide) (by decide) (by decide) rfl
    rw [v_notv, e0]
    rfl
end
theorem law_true (c : Cl) (f : ClF c) (ns : List Int) (h : ns.length ≤ 63) : SaysTrue (lawG lawSlots (D_law c) ns) := by
  have key : Gd (D_law c (lwR ns .no .no .no .no)) (fun o => o = .rt (.dat (.bl true))) fun _ => False := by
    unfold D_law
    refine h_seqN (h_for (xs := (List.range 3).map fun (i : Nat) => .int (i : Int)) (fun k ρ => ∃ a b d e, ρ = lwR ns a b d e ∧ (0 < k → ∃ one, BsOk one ∧ b = .dat (bD one))) (v_r1p (n := 3) (by decide) rfl) ⟨.no, .no, .no, .no, rfl, fun z => absurd z (by decide)⟩ ?_ ?_)
    · rintro k z ρ1 hz ⟨a, b, d, e, rfl, _⟩
      exact h_pure (law_turn (a := .dat z) fun one other h1 h2 a e => ⟨_, _, _, _, rfl, fun _ => ⟨one, h1, rfl⟩⟩)
    · rintro ρ1 ⟨a, b, d, e, rfl, hb⟩
      obtain ⟨one, h1, rfl⟩ := hb (by decide)
      refine ⟨_, rfl, h_seqN (law_near h1 fun near hn => ⟨_, rfl, h_seqN (law_third h1 hn ⟨_, rfl, h_seqN (law_fourth f ⟨_, rfl, h_eq law_last rfl⟩)⟩)⟩)⟩
  unfold SaysTrue lawG
  refine G.good_bind.mpr (G.good_mono (fun o e => ?_) (fun _ h => h) key.h)
  subst e
  rfl
end Ge

set_option maxHeartbeats 1000000
namespace Ge
open PySem PySem.Spec PyProof.Rows L2 Sd
theorem all_mk {w : World} {K : PySem.W.Frag} {h : Heap} {mg : Str → Option Value} {fa : Addr} (X : K.In h) (G : h.Ns mainGlobals mg) (hfa : mg "law" = some (.ref fa))
    {f1 f2 f3 f4 f5 f6 f7 f8 f9 f10 f11 f12 f13 f14 f15 f16 f17 f18 f19 f20 f21 f22 f23 f24 f25 f26 f27 f28 f29 f30 f31 f32 f33 f34 f35 f36 C_Table C_InvalidTable C_InvalidNumber C_Refused A_LETTERS_OF_THINGS c35A p35A : Addr} {od1 an1 od2 an2 od3 an3 od4 an4 od5 an5 od6 an6 od7 an7 od8 an8 od9 an9 od10 an10 od11 an11 od12 an12 od13 an13 od14 an14 od15 an15 od16 an16 od17 an17 od18 an18 od19 an19 od20 an20 od21 an21 od22 an22 od23 an23 od24 an24 od25 an25 od26 an26 od27 an27 od28 an28 od29 an29 od30 an30 od31 an31 od32 an32 od33 an33 od34 an34 od35 an35 od36 an36 : Option Addr}
    {sl1 sl2 sl3 sl4 sl5 sl6 sl7 sl8 sl9 sl10 sl11 sl12 sl13 sl14 sl15 sl16 sl17 sl18 sl19 sl20 sl21 sl22 sl23 sl24 sl25 sl26 sl27 sl28 sl29 sl30 sl31 sl32 sl33 sl34 sl35 sl36 : Array (Option Value)}
    {oc1 kV1 dc1 pm1 cd1 ct1 oc2 kV2 dc2 pm2 cd2 ct2 oc3 kV3 dc3 pm3 cd3 ct3 oc4 kV4 dc4 pm4 cd4 ct4 oc5 kV5 dc5 pm5 cd5 ct5 oc6 kV6 dc6 pm6 cd6 ct6 oc7 kV7 dc7 pm7 cd7 ct7 oc8 kV8 dc8 pm8 cd8 ct8 oc9 kV9 dc9 pm9 cd9 ct9 oc10 kV10 dc10 pm10 cd10 ct10 oc11 kV11 dc11 pm11 cd11 ct11 oc12 kV12 dc12 pm12 cd12 ct12 oc13 kV13 dc13 pm13 cd13 ct13 oc14 kV14 dc14 pm14 cd14 ct14 oc15 kV15 dc15 pm15 cd15 ct15 oc16 kV16 dc16 pm16 cd16 ct16 oc17 kV17 dc17 pm17 cd17 ct17 oc18 kV18 dc18 pm18 cd18 ct18 oc19 kV19 dc19 pm19 cd19 ct19 oc20 kV20 dc20 pm20 cd20 ct20 oc21 kV21 dc21 pm21 cd21 ct21 oc22 kV22 dc22 pm22 cd22 ct22 oc23 kV23 dc23 pm23 cd23 ct23 oc24 kV24 dc24 pm24 cd24 ct24 oc25 kV25 dc25 pm25 cd25 ct25 oc26 kV26 dc26 pm26 cd26 ct26 oc27 kV27 dc27 pm27 cd27 ct27 oc28 kV28 dc28 pm28 cd28 ct28 oc29 kV29 dc29 pm29 cd29 ct29 oc30 kV30 dc30 pm30 cd30 ct30 oc31 kV31 dc31 pm31 cd31 ct31 oc32 kV32 dc32 pm32 cd32 ct32 oc33 kV33 dc33 pm33 cd33 ct33 oc34 kV34 dc34 pm34 cd34 ct34 oc35 kV35 dc35 pm35 cd35 ct35 oc36 kV36 dc36 pm36 cd36 ct36 : Value} {t_LETTERS t_LONGEST_NAME t_MOST_THINGS t_MOST_TIES t_MOST_WEIGHT t_MOST_BATCHES t_MOST_IN_BATCH : Tok}
    (g_Table : PySem.W.nsIn K mainGlobals "Table" = some (some (.ref C_Table)))
    (pg_Table : PySem.W.plainGet K C_Table Str.empty = true)
    (hd_Table : PySem.W.hasDictIn K C_Table = true)
    (po_Table : PySem.W.plainOver K C_Table = true)
    (sa_Table : PySem.W.findIn K (.ref C_Table) "__setattr__" = some (some (.builtin "object.__setattr__")))
    (ca_Table : PySem.W.findIn K (.ref C_Table) "__class__" = some (some (.builtin "object.__class__")))
    (cm_Table : PySem.W.mroIn K C_Table (.type "object") = some true)
    (mk_Table : PySem.W.makesIn K C_Table = true)
    (kc_Table : PySem.W.keepIn K (.ref C_Table) = true)
    (nf_Table_things : PySem.W.findIn K (.ref C_Table) "things" = some none)
    (nf_Table_ties : PySem.W.findIn K (.ref C_Table) "ties" = some none)
    (cn : PySem.W.specialIn K (.builtin "object.__class__") "__get__" = some (some (.builtin "getset_descriptor.__get__")))
    (ct : PySem.W.takesIn K (.builtin "object.__class__") = some true)
    (g_InvalidTable : PySem.W.nsIn K mainGlobals "InvalidTable" = some (some (.ref C_InvalidTable)))
    (g_InvalidNumber : PySem.W.nsIn K mainGlobals "InvalidNumber" = some (some (.ref C_InvalidNumber)))
    (g_Refused : PySem.W.nsIn K mainGlobals "Refused" = some (some (.ref C_Refused)))
    (x_InvalidTable : XOk PW K mg C_InvalidTable ["at"])
    (x_InvalidNumber : XOk PW K mg C_InvalidNumber ["word"])
    (xf_InvalidNumber : XfC K C_InvalidNumber)
    (xf_Refused : XfC K C_Refused)
    (nx_InvalidNumber_word : PySem.W.findIn K (.ref C_InvalidNumber) "word" = some none)
    (nx_Refused_word : PySem.W.findIn K (.ref C_Refused) "word" = some none)
    (xc_Refused : ExcC K C_Refused)
    (kit_Refused_InvalidNumber : PySem.W.kitOne K (.ref C_Refused) (.ref C_InvalidNumber) = some false)
    (em_InvalidNumber_InvalidNumber : PySem.W.exmOne K (.ref C_InvalidNumber) (.ref C_InvalidNumber) = some true)
    (em_InvalidNumber_Refused : PySem.W.exmOne K (.ref C_InvalidNumber) (.ref C_Refused) = some false)
    (em_InvalidTable_InvalidNumber : PySem.W.exmOne K (.ref C_InvalidTable) (.ref C_InvalidNumber) = some false)
    (em_InvalidTable_Refused : PySem.W.exmOne K (.ref C_InvalidTable) (.ref C_Refused) = some false)
    (ne_InvalidNumber_InvalidTable : C_InvalidNumber ≠ C_InvalidTable)
    (ne_InvalidNumber_Refused : C_InvalidNumber ≠ C_Refused)
    (ne_InvalidTable_InvalidNumber : C_InvalidTable ≠ C_InvalidNumber)
    (ne_InvalidTable_Refused : C_InvalidTable ≠ C_Refused)
    (ne_Refused_InvalidNumber : C_Refused ≠ C_InvalidNumber)
    (ne_Refused_InvalidTable : C_Refused ≠ C_InvalidTable)
    (gt_LETTERS_OF_THINGS : PySem.W.nsIn K mainGlobals "LETTERS_OF_THINGS" = some (some (.ref A_LETTERS_OF_THINGS)))
    (rt_LETTERS_OF_THINGS : ∀ S, Rp K S (.ref A_LETTERS_OF_THINGS) (.tup [.str "a", .str "b", .str "c", .str "d", .str "e", .str "f", .str "g", .str "h", .str "i", .str "j", .str "k", .str "l"]))
    (a1 : PySem.W.nsIn K mainGlobals "walk_reach" = some (some (.ref f1)))
    (l1 : K.lookup f1 = some ⟨oc1, od1, .func (PySem.W.fnOf "walk_reach" "walk_reach" (defArgs s_walk_reach) (defBody s_walk_reach) (defScope s_walk_reach) .none kV1 dc1 pm1 an1 cd1 ct1), sl1⟩)
    (c1 : PySem.W.codeIn K cd1 "walk_reach" = true)
    (k1 : PySem.W.keepIn K (.ref f1) = true)
    (a2 : PySem.W.nsIn K mainGlobals "ring_reach" = some (some (.ref f2)))
    (l2 : K.lookup f2 = some ⟨oc2, od2, .func (PySem.W.fnOf "ring_reach" "ring_reach" (defArgs s_ring_reach) (defBody s_ring_reach) (defScope s_ring_reach) .none kV2 dc2 pm2 an2 cd2 ct2), sl2⟩)
    (c2 : PySem.W.codeIn K cd2 "ring_reach" = true)
    (k2 : PySem.W.keepIn K (.ref f2) = true)
    (a3 : PySem.W.nsIn K mainGlobals "is_integer" = some (some (.ref f3)))
    (l3 : K.lookup f3 = some ⟨oc3, od3, .func (PySem.W.fnOf "is_integer" "is_integer" (defArgs s_is_integer) (defBody s_is_integer) (defScope s_is_integer) .none kV3 dc3 pm3 an3 cd3 ct3), sl3⟩)
    (c3 : PySem.W.codeIn K cd3 "is_integer" = true)
    (k3 : PySem.W.keepIn K (.ref f3) = true)
    (a4 : PySem.W.nsIn K mainGlobals "is_number" = some (some (.ref f4)))
    (l4 : K.lookup f4 = some ⟨oc4, od4, .func (PySem.W.fnOf "is_number" "is_number" (defArgs s_is_number) (defBody s_is_number) (defScope s_is_number) .none kV4 dc4 pm4 an4 cd4 ct4), sl4⟩)
    (c4 : PySem.W.codeIn K cd4 "is_number" = true)
    (k4 : PySem.W.keepIn K (.ref f4) = true)
    (a5 : PySem.W.nsIn K mainGlobals "is_name" = some (some (.ref f5)))
    (l5 : K.lookup f5 = some ⟨oc5, od5, .func (PySem.W.fnOf "is_name" "is_name" (defArgs s_is_name) (defBody s_is_name) (defScope s_is_name) .none kV5 dc5 pm5 an5 cd5 ct5), sl5⟩)
    (c5 : PySem.W.codeIn K cd5 "is_name" = true)
    (k5 : PySem.W.keepIn K (.ref f5) = true)
    (a6 : PySem.W.nsIn K mainGlobals "is_ascending" = some (some (.ref f6)))
    (l6 : K.lookup f6 = some ⟨oc6, od6, .func (PySem.W.fnOf "is_ascending" "is_ascending" (defArgs s_is_ascending) (defBody s_is_ascending) (defScope s_is_ascending) .none kV6 dc6 pm6 an6 cd6 ct6), sl6⟩)
    (c6 : PySem.W.codeIn K cd6 "is_ascending" = true)
    (k6 : PySem.W.keepIn K (.ref f6) = true)
    (a7 : PySem.W.nsIn K mainGlobals "are_things" = some (some (.ref f7)))
    (l7 : K.lookup f7 = some ⟨oc7, od7, .func (PySem.W.fnOf "are_things" "are_things" (defArgs s_are_things) (defBody s_are_things) (defScope s_are_things) .none kV7 dc7 pm7 an7 cd7 ct7), sl7⟩)
    (c7 : PySem.W.codeIn K cd7 "are_things" = true)
    (k7 : PySem.W.keepIn K (.ref f7) = true)
    (a8 : PySem.W.nsIn K mainGlobals "is_tie" = some (some (.ref f8)))
    (l8 : K.lookup f8 = some ⟨oc8, od8, .func (PySem.W.fnOf "is_tie" "is_tie" (defArgs s_is_tie) (defBody s_is_tie) (defScope s_is_tie) .none kV8 dc8 pm8 an8 cd8 ct8), sl8⟩)
    (c8 : PySem.W.codeIn K cd8 "is_tie" = true)
    (k8 : PySem.W.keepIn K (.ref f8) = true)
    (a9 : PySem.W.findIn K (.ref C_Table) "__init__" = some (some (.ref f9)))
    (i9 : PySem.W.isFn K (.ref f9) = true)
    (l9 : K.lookup f9 = some ⟨oc9, od9, .func (PySem.W.fnOf "__init__" "Table.__init__" (defArgs s_Table_init) (defBody s_Table_init) (defScope s_Table_init) .none kV9 dc9 pm9 an9 cd9 ct9), sl9⟩)
    (c9 : PySem.W.codeIn K cd9 "Table.__init__" = true)
    (k9 : PySem.W.keepIn K (.ref f9) = true)
    (a10 : PySem.W.findIn K (.ref C_Table) "__eq__" = some (some (.ref f10)))
    (i10 : PySem.W.isFn K (.ref f10) = true)
    (l10 : K.lookup f10 = some ⟨oc10, od10, .func (PySem.W.fnOf "__eq__" "Table.__eq__" (defArgs s_Table_eq) (defBody s_Table_eq) (defScope s_Table_eq) .none kV10 dc10 pm10 an10 cd10 ct10), sl10⟩)
    (c10 : PySem.W.codeIn K cd10 "Table.__eq__" = true)
    (k10 : PySem.W.keepIn K (.ref f10) = true)
    (a11 : PySem.W.nsIn K mainGlobals "are_batches" = some (some (.ref f11)))
    (l11 : K.lookup f11 = some ⟨oc11, od11, .func (PySem.W.fnOf "are_batches" "are_batches" (defArgs s_are_batches) (defBody s_are_batches) (defScope s_are_batches) .none kV11 dc11 pm11 an11 cd11 ct11), sl11⟩)
    (c11 : PySem.W.codeIn K cd11 "are_batches" = true)
    (k11 : PySem.W.keepIn K (.ref f11) = true)
    (a12 : PySem.W.nsIn K mainGlobals "check_batches" = some (some (.ref f12)))
    (l12 : K.lookup f12 = some ⟨oc12, od12, .func (PySem.W.fnOf "check_batches" "check_batches" (defArgs s_check_batches) (defBody s_check_batches) (defScope s_check_batches) .none kV12 dc12 pm12 an12 cd12 ct12), sl12⟩)
    (c12 : PySem.W.codeIn K cd12 "check_batches" = true)
    (k12 : PySem.W.keepIn K (.ref f12) = true)
    (a13 : PySem.W.nsIn K mainGlobals "nothing_said" = some (some (.ref f13)))
    (l13 : K.lookup f13 = some ⟨oc13, od13, .func (PySem.W.fnOf "nothing_said" "nothing_said" (defArgs s_nothing_said) (defBody s_nothing_said) (defScope s_nothing_said) .none kV13 dc13 pm13 an13 cd13 ct13), sl13⟩)
    (c13 : PySem.W.codeIn K cd13 "nothing_said" = true)
    (k13 : PySem.W.keepIn K (.ref f13) = true)
    (a14 : PySem.W.nsIn K mainGlobals "ring_ties" = some (some (.ref f14)))
    (l14 : K.lookup f14 = some ⟨oc14, od14, .func (PySem.W.fnOf "ring_ties" "ring_ties" (defArgs s_ring_ties) (defBody s_ring_ties) (defScope s_ring_ties) .none kV14 dc14 pm14 an14 cd14 ct14), sl14⟩)
    (c14 : PySem.W.codeIn K cd14 "ring_ties" = true)
    (k14 : PySem.W.keepIn K (.ref f14) = true)
    (a15 : PySem.W.nsIn K mainGlobals "ring_table" = some (some (.ref f15)))
    (l15 : K.lookup f15 = some ⟨oc15, od15, .func (PySem.W.fnOf "ring_table" "ring_table" (defArgs s_ring_table) (defBody s_ring_table) (defScope s_ring_table) .none kV15 dc15 pm15 an15 cd15 ct15), sl15⟩)
    (c15 : PySem.W.codeIn K cd15 "ring_table" = true)
    (k15 : PySem.W.keepIn K (.ref f15) = true)
    (a16 : PySem.W.nsIn K mainGlobals "row_case" = some (some (.ref f16)))
    (l16 : K.lookup f16 = some ⟨oc16, od16, .func (PySem.W.fnOf "row_case" "row_case" (defArgs s_row_case) (defBody s_row_case) (defScope s_row_case) .none kV16 dc16 pm16 an16 cd16 ct16), sl16⟩)
    (c16 : PySem.W.codeIn K cd16 "row_case" = true)
    (k16 : PySem.W.keepIn K (.ref f16) = true)
    (a17 : PySem.W.nsIn K mainGlobals "round_case" = some (some (.ref f17)))
    (l17 : K.lookup f17 = some ⟨oc17, od17, .func (PySem.W.fnOf "round_case" "round_case" (defArgs s_round_case) (defBody s_round_case) (defScope s_round_case) .none kV17 dc17 pm17 an17 cd17 ct17), sl17⟩)
    (c17 : PySem.W.codeIn K cd17 "round_case" = true)
    (k17 : PySem.W.keepIn K (.ref f17) = true)
    (a18 : PySem.W.nsIn K mainGlobals "walk_case" = some (some (.ref f18)))
    (l18 : K.lookup f18 = some ⟨oc18, od18, .func (PySem.W.fnOf "walk_case" "walk_case" (defArgs s_walk_case) (defBody s_walk_case) (defScope s_walk_case) .none kV18 dc18 pm18 an18 cd18 ct18), sl18⟩)
    (c18 : PySem.W.codeIn K cd18 "walk_case" = true)
    (k18 : PySem.W.keepIn K (.ref f18) = true)
    (a19 : PySem.W.nsIn K mainGlobals "telling_case" = some (some (.ref f19)))
    (l19 : K.lookup f19 = some ⟨oc19, od19, .func (PySem.W.fnOf "telling_case" "telling_case" (defArgs s_telling_case) (defBody s_telling_case) (defScope s_telling_case) .none kV19 dc19 pm19 an19 cd19 ct19), sl19⟩)
    (c19 : PySem.W.codeIn K cd19 "telling_case" = true)
    (k19 : PySem.W.keepIn K (.ref f19) = true)
    (a20 : PySem.W.nsIn K mainGlobals "is_as_hard" = some (some (.ref f20)))
    (l20 : K.lookup f20 = some ⟨oc20, od20, .func (PySem.W.fnOf "is_as_hard" "is_as_hard" (defArgs s_is_as_hard) (defBody s_is_as_hard) (defScope s_is_as_hard) .none kV20 dc20 pm20 an20 cd20 ct20), sl20⟩)
    (c20 : PySem.W.codeIn K cd20 "is_as_hard" = true)
    (k20 : PySem.W.keepIn K (.ref f20) = true)
    (a21 : PySem.W.nsIn K mainGlobals "_law_heap" = some (some (.ref f21)))
    (l21 : K.lookup f21 = some ⟨oc21, od21, .func (PySem.W.fnOf "_law_heap" "_law_heap" (defArgs s_law_heap) (defBody s_law_heap) (defScope s_law_heap) .none kV21 dc21 pm21 an21 cd21 ct21), sl21⟩)
    (c21 : PySem.W.codeIn K cd21 "_law_heap" = true)
    (k21 : PySem.W.keepIn K (.ref f21) = true)
    (a22 : PySem.W.nsIn K mainGlobals "_law_draw" = some (some (.ref f22)))
    (l22 : K.lookup f22 = some ⟨oc22, od22, .func (PySem.W.fnOf "_law_draw" "_law_draw" (defArgs s_law_draw) (defBody s_law_draw) (defScope s_law_draw) .none kV22 dc22 pm22 an22 cd22 ct22), sl22⟩)
    (c22 : PySem.W.codeIn K cd22 "_law_draw" = true)
    (k22 : PySem.W.keepIn K (.ref f22) = true)
    (a23 : PySem.W.nsIn K mainGlobals "_law_pick" = some (some (.ref f23)))
    (l23 : K.lookup f23 = some ⟨oc23, od23, .func (PySem.W.fnOf "_law_pick" "_law_pick" (defArgs s_law_pick) (defBody s_law_pick) (defScope s_law_pick) .none kV23 dc23 pm23 an23 cd23 ct23), sl23⟩)
    (c23 : PySem.W.codeIn K cd23 "_law_pick" = true)
    (k23 : PySem.W.keepIn K (.ref f23) = true)
    (a24 : PySem.W.nsIn K mainGlobals "_law_mixed" = some (some (.ref f24)))
    (l24 : K.lookup f24 = some ⟨oc24, od24, .func (PySem.W.fnOf "_law_mixed" "_law_mixed" (defArgs s_law_mixed) (defBody s_law_mixed) (defScope s_law_mixed) .none kV24 dc24 pm24 an24 cd24 ct24), sl24⟩)
    (c24 : PySem.W.codeIn K cd24 "_law_mixed" = true)
    (k24 : PySem.W.keepIn K (.ref f24) = true)
    (a25 : PySem.W.nsIn K mainGlobals "_law_reaches" = some (some (.ref f25)))
    (l25 : K.lookup f25 = some ⟨oc25, od25, .func (PySem.W.fnOf "_law_reaches" "_law_reaches" (defArgs s_law_reaches) (defBody s_law_reaches) (defScope s_law_reaches) .none kV25 dc25 pm25 an25 cd25 ct25), sl25⟩)
    (c25 : PySem.W.codeIn K cd25 "_law_reaches" = true)
    (k25 : PySem.W.keepIn K (.ref f25) = true)
    (a26 : PySem.W.nsIn K mainGlobals "_law_rows" = some (some (.ref f26)))
    (l26 : K.lookup f26 = some ⟨oc26, od26, .func (PySem.W.fnOf "_law_rows" "_law_rows" (defArgs s_law_rows) (defBody s_law_rows) (defScope s_law_rows) .none kV26 dc26 pm26 an26 cd26 ct26), sl26⟩)
    (c26 : PySem.W.codeIn K cd26 "_law_rows" = true)
    (k26 : PySem.W.keepIn K (.ref f26) = true)
    (a27 : PySem.W.nsIn K mainGlobals "_law_told" = some (some (.ref f27)))
    (l27 : K.lookup f27 = some ⟨oc27, od27, .func (PySem.W.fnOf "_law_told" "_law_told" (defArgs s_law_told) (defBody s_law_told) (defScope s_law_told) .none kV27 dc27 pm27 an27 cd27 ct27), sl27⟩)
    (c27 : PySem.W.codeIn K cd27 "_law_told" = true)
    (k27 : PySem.W.keepIn K (.ref f27) = true)
    (a28 : PySem.W.nsIn K mainGlobals "_law_batches" = some (some (.ref f28)))
    (l28 : K.lookup f28 = some ⟨oc28, od28, .func (PySem.W.fnOf "_law_batches" "_law_batches" (defArgs s_law_batches) (defBody s_law_batches) (defScope s_law_batches) .none kV28 dc28 pm28 an28 cd28 ct28), sl28⟩)
    (c28 : PySem.W.codeIn K cd28 "_law_batches" = true)
    (k28 : PySem.W.keepIn K (.ref f28) = true)
    (a29 : PySem.W.nsIn K mainGlobals "_law_bad_batches" = some (some (.ref f29)))
    (l29 : K.lookup f29 = some ⟨oc29, od29, .func (PySem.W.fnOf "_law_bad_batches" "_law_bad_batches" (defArgs s_law_bad_batches) (defBody s_law_bad_batches) (defScope s_law_bad_batches) .none kV29 dc29 pm29 an29 cd29 ct29), sl29⟩)
    (c29 : PySem.W.codeIn K cd29 "_law_bad_batches" = true)
    (k29 : PySem.W.keepIn K (.ref f29) = true)
    (a30 : PySem.W.nsIn K mainGlobals "_law_held" = some (some (.ref f30)))
    (l30 : K.lookup f30 = some ⟨oc30, od30, .func (PySem.W.fnOf "_law_held" "_law_held" (defArgs s_law_held) (defBody s_law_held) (defScope s_law_held) .none kV30 dc30 pm30 an30 cd30 ct30), sl30⟩)
    (c30 : PySem.W.codeIn K cd30 "_law_held" = true)
    (k30 : PySem.W.keepIn K (.ref f30) = true)
    (a31 : PySem.W.nsIn K mainGlobals "_law_some_batches" = some (some (.ref f31)))
    (l31 : K.lookup f31 = some ⟨oc31, od31, .func (PySem.W.fnOf "_law_some_batches" "_law_some_batches" (defArgs s_law_some_batches) (defBody s_law_some_batches) (defScope s_law_some_batches) .none kV31 dc31 pm31 an31 cd31 ct31), sl31⟩)
    (c31 : PySem.W.codeIn K cd31 "_law_some_batches" = true)
    (k31 : PySem.W.keepIn K (.ref f31) = true)
    (a32 : PySem.W.nsIn K mainGlobals "_law_due" = some (some (.ref f32)))
    (l32 : K.lookup f32 = some ⟨oc32, od32, .func (PySem.W.fnOf "_law_due" "_law_due" (defArgs s_law_due) (defBody s_law_due) (defScope s_law_due) .none kV32 dc32 pm32 an32 cd32 ct32), sl32⟩)
    (c32 : PySem.W.codeIn K cd32 "_law_due" = true)
    (k32 : PySem.W.keepIn K (.ref f32) = true)
    (a33 : PySem.W.nsIn K mainGlobals "_law_is_case" = some (some (.ref f33)))
    (l33 : K.lookup f33 = some ⟨oc33, od33, .func (PySem.W.fnOf "_law_is_case" "_law_is_case" (defArgs s_law_is_case) (defBody s_law_is_case) (defScope s_law_is_case) .none kV33 dc33 pm33 an33 cd33 ct33), sl33⟩)
    (c33 : PySem.W.codeIn K cd33 "_law_is_case" = true)
    (k33 : PySem.W.keepIn K (.ref f33) = true)
    (a34 : PySem.W.nsIn K mainGlobals "_law_pair_right" = some (some (.ref f34)))
    (l34 : K.lookup f34 = some ⟨oc34, od34, .func (PySem.W.fnOf "_law_pair_right" "_law_pair_right" (defArgs s_law_pair_right) (defBody s_law_pair_right) (defScope s_law_pair_right) .none kV34 dc34 pm34 an34 cd34 ct34), sl34⟩)
    (c34 : PySem.W.codeIn K cd34 "_law_pair_right" = true)
    (k34 : PySem.W.keepIn K (.ref f34) = true)
    (a35 : PySem.W.nsIn K mainGlobals "_law_bad_right" = some (some (.ref f35)))
    (l35 : K.lookup f35 = some ⟨oc35, od35, .func (PySem.W.fnOf "_law_bad_right" "_law_bad_right" (defArgs s_law_bad_right) (defBody s_law_bad_right) (defScope s_law_bad_right) .none kV35 dc35 pm35 an35 cd35 ct35), sl35⟩)
    (c35 : PySem.W.codeIn K cd35 "_law_bad_right" = true)
    (k35 : PySem.W.keepIn K (.ref f35) = true)
    (cd35_ : cd35 = .ref c35A)
    (hc35 : ∃ (oc : Value) (od : Option Addr) (vs : Array Value) (sl : Array (Option Value)), K.lookup c35A = some ⟨oc, od, .fields vs, sl⟩ ∧ vs[11]? = some (.ref p35A))
    (ci35 : PySem.W.codeHdIn K c35A p35A = true)
    (no35 : K.lookup p35A = none)
    (em35 : h.get? p35A = some (PySem.W.tabObj #[]))
    (a36 : PySem.W.nsIn K mainGlobals "law" = some (some (.ref f36)))
    (l36 : K.lookup f36 = some ⟨oc36, od36, .func (PySem.W.fnOf "law" "law" (defArgs s_law) (defBody s_law) (defScope s_law) .none kV36 dc36 pm36 an36 cd36 ct36), sl36⟩)
    (c36 : PySem.W.codeIn K cd36 "law" = true)
    (k36 : PySem.W.keepIn K (.ref f36) = true)
    (v_LETTERS : PySem.W.nsIn K mainGlobals "LETTERS" = some (some (.str "abcdefghijklmnopqrstuvwxyz" t_LETTERS)))
    (v_LONGEST_NAME : PySem.W.nsIn K mainGlobals "LONGEST_NAME" = some (some (.int 6 t_LONGEST_NAME)))
    (v_MOST_THINGS : PySem.W.nsIn K mainGlobals "MOST_THINGS" = some (some (.int 12 t_MOST_THINGS)))
    (v_MOST_TIES : PySem.W.nsIn K mainGlobals "MOST_TIES" = some (some (.int 60 t_MOST_TIES)))
    (v_MOST_WEIGHT : PySem.W.nsIn K mainGlobals "MOST_WEIGHT" = some (some (.int 1000000 t_MOST_WEIGHT)))
    (v_MOST_BATCHES : PySem.W.nsIn K mainGlobals "MOST_BATCHES" = some (some (.int 60 t_MOST_BATCHES)))
    (v_MOST_IN_BATCH : PySem.W.nsIn K mainGlobals "MOST_IN_BATCH" = some (some (.int 100 t_MOST_IN_BATCH)))
    (z_abs : PySem.W.nsIn K mainGlobals "abs" = some none)
    (z_all : PySem.W.nsIn K mainGlobals "all" = some none)
    (z_bool : PySem.W.nsIn K mainGlobals "bool" = some none)
    (z_enumerate : PySem.W.nsIn K mainGlobals "enumerate" = some none)
    (z_int : PySem.W.nsIn K mainGlobals "int" = some none)
    (z_isinstance : PySem.W.nsIn K mainGlobals "isinstance" = some none)
    (z_len : PySem.W.nsIn K mainGlobals "len" = some none)
    (z_list : PySem.W.nsIn K mainGlobals "list" = some none)
    (z_max : PySem.W.nsIn K mainGlobals "max" = some none)
    (z_min : PySem.W.nsIn K mainGlobals "min" = some none)
    (z_range : PySem.W.nsIn K mainGlobals "range" = some none)
    (z_repr : PySem.W.nsIn K mainGlobals "repr" = some none)
    (z_str : PySem.W.nsIn K mainGlobals "str" = some none)
    (z_tuple : PySem.W.nsIn K mainGlobals "tuple" = some none)
    : ∃ (fd : FuncData) (cs : List (Addr × Addr)) (sp : Sp), Heads h K cs ∧ (∀ (s : Shared) (u : Value), BindsTo s fd ⟨[u], []⟩ [("_law_script", u)]) ∧
      (∀ base : Heap, K.In base → base.Ns mainGlobals mg → (∀ p ∈ cs, LamX.TabB base mg p.1 p.2) → FnG PW w K mg base 12 fa fd ["_law_script"] sp) ∧
      ∀ (H : Hp) (a : Addr) (ns : List Int), ns.length ≤ 63 → (∀ z ∈ ns, Builtin.Int.intBits z ≤ 1048576) → (∀ p ∈ cs, H p.2 = some (.tbl #[])) → SqL K H a (ns.map V.int) → sp [.ref a] H (fun v _ => v = .bl true) fun _ _ _ => False := by
  letI : HasT := ⟨[(p35A, ("_law_bad_right.<locals>.<lambda>" : Str))]⟩
  have e := hfa.symm.trans (PySem.W.mg_of X G a36)
  cases e
  let T : Txt K mg := {
    c := { nil := (), C_Table := C_Table, C_InvalidTable := C_InvalidTable, C_InvalidNumber := C_InvalidNumber, C_Refused := C_Refused, is := fun a b => if a = C_InvalidNumber ∧ b = C_InvalidNumber then some true else if a = C_InvalidNumber ∧ b = C_Refused then some false else if a = C_InvalidTable ∧ b = C_InvalidNumber then some false else if a = C_InvalidTable ∧ b = C_Refused then some false else none },
    f := { nil := trivial, is_InvalidNumber_InvalidNumber := (by simp [ne_InvalidNumber_InvalidTable, ne_InvalidNumber_Refused, ne_InvalidTable_InvalidNumber, ne_InvalidTable_Refused, ne_Refused_InvalidNumber, ne_Refused_InvalidTable]), is_InvalidNumber_Refused := (by simp [ne_InvalidNumber_InvalidTable, ne_InvalidNumber_Refused, ne_InvalidTable_InvalidNumber, ne_InvalidTable_Refused, ne_Refused_InvalidNumber, ne_Refused_InvalidTable]), is_InvalidTable_InvalidNumber := (by simp [ne_InvalidNumber_InvalidTable, ne_InvalidNumber_Refused, ne_InvalidTable_InvalidNumber, ne_InvalidTable_Refused, ne_Refused_InvalidNumber, ne_Refused_InvalidTable]), is_InvalidTable_Refused := (by simp [ne_InvalidNumber_InvalidTable, ne_InvalidNumber_Refused, ne_InvalidTable_InvalidNumber, ne_InvalidTable_Refused, ne_Refused_InvalidNumber, ne_Refused_InvalidTable]) },
    his := (fun a b r h => by
      dsimp only at h
      split at h
      · rename_i e
        obtain ⟨rfl, rfl⟩ := e
        cases h
        exact em_InvalidNumber_InvalidNumber
      split at h
      · rename_i e
        obtain ⟨rfl, rfl⟩ := e
        cases h
        exact em_InvalidNumber_Refused
      split at h
      · rename_i e
        obtain ⟨rfl, rfl⟩ := e
        cases h
        exact em_InvalidTable_InvalidNumber
      split at h
      · rename_i e
        obtain ⟨rfl, rfl⟩ := e
        cases h
        exact em_InvalidTable_Refused
      cases h),
    g_InvalidTable := PySem.W.mg_of X G g_InvalidTable,
    x_InvalidTable := x_InvalidTable,
    g_InvalidNumber := PySem.W.mg_of X G g_InvalidNumber,
    x_InvalidNumber := x_InvalidNumber,
    g_Refused := PySem.W.mg_of X G g_Refused,
    xf_InvalidNumber := xf_InvalidNumber,
    xf_Refused := xf_Refused,
    nx_InvalidNumber_word := nx_InvalidNumber_word,
    nx_Refused_word := nx_Refused_word,
    xc_Refused := xc_Refused,
    kit_Refused_InvalidNumber := kit_Refused_InvalidNumber,
    A_LETTERS_OF_THINGS := A_LETTERS_OF_THINGS, g_LETTERS_OF_THINGS := PySem.W.mg_of X G gt_LETTERS_OF_THINGS, r_LETTERS_OF_THINGS := rt_LETTERS_OF_THINGS,
    cA_law_bad_right := c35A, pA_law_bad_right := p35A, tm_law_bad_right := (by show _ ∈ [(p35A, ("_law_bad_right.<locals>.<lambda>" : Str))]; simp),
    tu_law_bad_right := (fun p m e => by
      have m : p ∈ [(p35A, ("_law_bad_right.<locals>.<lambda>" : Str))] := m
      simp only [List.mem_cons, List.not_mem_nil, or_false] at m
      rcases m with rfl
      · rfl),
    g_Table := PySem.W.mg_of X G g_Table, i_Table := ⟨⟨pg_Table, hd_Table, po_Table, sa_Table⟩, ca_Table, cn, ct, cm_Table⟩,
    nf_Table_things := nf_Table_things,
    nf_Table_ties := nf_Table_ties,
    a_walk_reach := f1, d_walk_reach := _, F_walk_reach := fun_mk (st := s_walk_reach) l1 c1 k1,
    g_walk_reach := PySem.W.mg_of X G a1,
    a_ring_reach := f2, d_ring_reach := _, F_ring_reach := fun_mk (st := s_ring_reach) l2 c2 k2,
    g_ring_reach := PySem.W.mg_of X G a2,
    a_is_integer := f3, d_is_integer := _, F_is_integer := fun_mk (st := s_is_integer) l3 c3 k3,
    g_is_integer := PySem.W.mg_of X G a3,
    a_is_number := f4, d_is_number := _, F_is_number := fun_mk (st := s_is_number) l4 c4 k4,
    g_is_number := PySem.W.mg_of X G a4,
    a_is_name := f5, d_is_name := _, F_is_name := fun_mk (st := s_is_name) l5 c5 k5,
    g_is_name := PySem.W.mg_of X G a5,
    a_is_ascending := f6, d_is_ascending := _, F_is_ascending := fun_mk (st := s_is_ascending) l6 c6 k6,
    g_is_ascending := PySem.W.mg_of X G a6,
    a_are_things := f7, d_are_things := _, F_are_things := fun_mk (st := s_are_things) l7 c7 k7,
    g_are_things := PySem.W.mg_of X G a7,
    a_is_tie := f8, d_is_tie := _, F_is_tie := fun_mk (st := s_is_tie) l8 c8 k8,
    g_is_tie := PySem.W.mg_of X G a8,
    a_Table_init := f9, d_Table_init := _, F_Table_init := fun_mk (st := s_Table_init) l9 c9 k9,
    m_Table := ⟨mk_Table, a9, i9, kc_Table⟩,
    a_Table_eq := f10, d_Table_eq := _, F_Table_eq := fun_mk (st := s_Table_eq) l10 c10 k10,
    h_Table_eq := ⟨a10, i10, k10⟩,
    a_are_batches := f11, d_are_batches := _, F_are_batches := fun_mk (st := s_are_batches) l11 c11 k11,
    g_are_batches := PySem.W.mg_of X G a11,
    a_check_batches := f12, d_check_batches := _, F_check_batches := fun_mk (st := s_check_batches) l12 c12 k12,
    g_check_batches := PySem.W.mg_of X G a12,
    a_nothing_said := f13, d_nothing_said := _, F_nothing_said := fun_mk (st := s_nothing_said) l13 c13 k13,
    g_nothing_said := PySem.W.mg_of X G a13,
    a_ring_ties := f14, d_ring_ties := _, F_ring_ties := fun_mk (st := s_ring_ties) l14 c14 k14,
    g_ring_ties := PySem.W.mg_of X G a14,
    a_ring_table := f15, d_ring_table := _, F_ring_table := fun_mk (st := s_ring_table) l15 c15 k15,
    g_ring_table := PySem.W.mg_of X G a15,
    a_row_case := f16, d_row_case := _, F_row_case := fun_mk (st := s_row_case) l16 c16 k16,
    g_row_case := PySem.W.mg_of X G a16,
    a_round_case := f17, d_round_case := _, F_round_case := fun_mk (st := s_round_case) l17 c17 k17,
    g_round_case := PySem.W.mg_of X G a17,
    a_walk_case := f18, d_walk_case := _, F_walk_case := fun_mk (st := s_walk_case) l18 c18 k18,
    g_walk_case := PySem.W.mg_of X G a18,
    a_telling_case := f19, d_telling_case := _, F_telling_case := fun_mk (st := s_telling_case) l19 c19 k19,
    g_telling_case := PySem.W.mg_of X G a19,
    a_is_as_hard := f20, d_is_as_hard := _, F_is_as_hard := fun_mk (st := s_is_as_hard) l20 c20 k20,
    g_is_as_hard := PySem.W.mg_of X G a20,
    a_law_heap := f21, d_law_heap := _, F_law_heap := fun_mk (st := s_law_heap) l21 c21 k21,
    g_law_heap := PySem.W.mg_of X G a21,
    a_law_draw := f22, d_law_draw := _, F_law_draw := fun_mk (st := s_law_draw) l22 c22 k22,
    g_law_draw := PySem.W.mg_of X G a22,
    a_law_pick := f23, d_law_pick := _, F_law_pick := fun_mk (st := s_law_pick) l23 c23 k23,
    g_law_pick := PySem.W.mg_of X G a23,
    a_law_mixed := f24, d_law_mixed := _, F_law_mixed := fun_mk (st := s_law_mixed) l24 c24 k24,
    g_law_mixed := PySem.W.mg_of X G a24,
    a_law_reaches := f25, d_law_reaches := _, F_law_reaches := fun_mk (st := s_law_reaches) l25 c25 k25,
    g_law_reaches := PySem.W.mg_of X G a25,
    a_law_rows := f26, d_law_rows := _, F_law_rows := fun_mk (st := s_law_rows) l26 c26 k26,
    g_law_rows := PySem.W.mg_of X G a26,
    a_law_told := f27, d_law_told := _, F_law_told := fun_mk (st := s_law_told) l27 c27 k27,
    g_law_told := PySem.W.mg_of X G a27,
    a_law_batches := f28, d_law_batches := _, F_law_batches := fun_mk (st := s_law_batches) l28 c28 k28,
    g_law_batches := PySem.W.mg_of X G a28,
    a_law_bad_batches := f29, d_law_bad_batches := _, F_law_bad_batches := fun_mk (st := s_law_bad_batches) l29 c29 k29,
    g_law_bad_batches := PySem.W.mg_of X G a29,
    a_law_held := f30, d_law_held := _, F_law_held := fun_mk (st := s_law_held) l30 c30 k30,
    g_law_held := PySem.W.mg_of X G a30,
    a_law_some_batches := f31, d_law_some_batches := _, F_law_some_batches := fun_mk (st := s_law_some_batches) l31 c31 k31,
    g_law_some_batches := PySem.W.mg_of X G a31,
    a_law_due := f32, d_law_due := _, F_law_due := fun_mk (st := s_law_due) l32 c32 k32,
    g_law_due := PySem.W.mg_of X G a32,
    a_law_is_case := f33, d_law_is_case := _, F_law_is_case := fun_mk (st := s_law_is_case) l33 c33 k33,
    g_law_is_case := PySem.W.mg_of X G a33,
    a_law_pair_right := f34, d_law_pair_right := _, F_law_pair_right := fun_mk (st := s_law_pair_right) l34 c34 k34,
    g_law_pair_right := PySem.W.mg_of X G a34,
    a_law_bad_right := f35, d_law_bad_right := _, F_law_bad_right := fun_mk (st := s_law_bad_right) l35 c35 k35,
    cd_law_bad_right := cd35_,
    g_law_bad_right := PySem.W.mg_of X G a35,
    k_LETTERS := _, g_LETTERS := PySem.W.mg_of X G v_LETTERS,
    k_LONGEST_NAME := _, g_LONGEST_NAME := PySem.W.mg_of X G v_LONGEST_NAME,
    k_MOST_THINGS := _, g_MOST_THINGS := PySem.W.mg_of X G v_MOST_THINGS,
    k_MOST_TIES := _, g_MOST_TIES := PySem.W.mg_of X G v_MOST_TIES,
    k_MOST_WEIGHT := _, g_MOST_WEIGHT := PySem.W.mg_of X G v_MOST_WEIGHT,
    k_MOST_BATCHES := _, g_MOST_BATCHES := PySem.W.mg_of X G v_MOST_BATCHES,
    k_MOST_IN_BATCH := _, g_MOST_IN_BATCH := PySem.W.mg_of X G v_MOST_IN_BATCH,
    n_abs := PySem.W.mg_none_of X G z_abs,
    n_all := PySem.W.mg_none_of X G z_all,
    n_bool := PySem.W.mg_none_of X G z_bool,
    n_enumerate := PySem.W.mg_none_of X G z_enumerate,
    n_int := PySem.W.mg_none_of X G z_int,
    n_isinstance := PySem.W.mg_none_of X G z_isinstance,
    n_len := PySem.W.mg_none_of X G z_len,
    n_list := PySem.W.mg_none_of X G z_list,
    n_max := PySem.W.mg_none_of X G z_max,
    n_min := PySem.W.mg_none_of X G z_min,
    n_range := PySem.W.mg_none_of X G z_range,
    n_repr := PySem.W.mg_none_of X G z_repr,
    n_str := PySem.W.mg_none_of X G z_str,
    n_tuple := PySem.W.mg_none_of X G z_tuple }
  have hd : Heads h K [(c35A, p35A)] := { emp := fun p m => (by simp only [List.mem_cons, List.not_mem_nil, or_false] at m; rcases m with rfl; · exact em35), out := fun p m => (by simp only [List.mem_cons, List.not_mem_nil, or_false] at m; rcases m with rfl; · exact no35), hd := fun p m => (by simp only [List.mem_cons, List.not_mem_nil, or_false] at m; rcases m with rfl; · exact PySem.W.codeHd_of_K X ci35) }
  refine ⟨_, [(c35A, p35A)], spLaw K, hd, fun s v => .of_eq rfl, fun base _ _ hB => (ok_law T { tb_law_bad_right := hB (c35A, p35A) (by simp) } (fun_mk (st := s_law) l36 c36 k36) (law_true T.c T.f)).law,
    fun H a ns hl hbt hH hS => ⟨a, ns, rfl, hS, hl, hbt, fun p m => ?_, fun _ => rfl⟩⟩
  have m : p ∈ [(p35A, ("_law_bad_right.<locals>.<lambda>" : Str))] := m
  simp only [List.mem_cons, List.not_mem_nil, or_false] at m
  rcases m with rfl
  · exact LamX.TabS.nil (hH (c35A, p35A) (by simp))
open PySem PySem.W PyProof.Rows
end Ge
open PySem PySem.W PyProof.Rows
set_option maxHeartbeats 0 in
theorem PySem.Challenge.cw_saidatonce_k45_whole_batches_harder_than_holds : PySem.Challenge.rw_saidatonce_k45_whole_batches_harder_than.Holds := by
  w_on; o_law; k_head; (case hw => w_witness2)
  k_fill
  refine Ge.walk_gT (l := PySem.Challenge.rw_saidatonce_k45_whole_batches_harder_than) (n := 63) (k := 12) (x := "_law_script") rfl (by decide) rfl ⟨rfl, by decide, by decide⟩ (fun w h Y => PySem.W.km_in_of Y) ?F
  case F =>
    intro w mg fa h Y KX G hmg
    km_tabs Y
    refine' Ge.all_mk KX G hmg ?g_Table ?pg_Table ?hd_Table ?po_Table ?sa_Table ?ca_Table ?cm_Table ?mk_Table ?kc_Table ?nf_Table_things ?nf_Table_ties ?cn
      ?ct ?g_InvalidTable ?g_InvalidNumber ?g_Refused ?x_InvalidTable ?x_InvalidNumber ?xf_InvalidNumber ?xf_Refused ?nx_InvalidNumber_word ?nx_Refused_word ?xc_Refused ?kit_Refused_InvalidNumber
      ?em_InvalidNumber_InvalidNumber ?em_InvalidNumber_Refused ?em_InvalidTable_InvalidNumber ?em_InvalidTable_Refused ?ne_InvalidNumber_InvalidTable ?ne_InvalidNumber_Refused ?ne_InvalidTable_InvalidNumber ?ne_InvalidTable_Refused ?ne_Refused_InvalidNumber ?ne_Refused_InvalidTable ?gt_LETTERS_OF_THINGS ?rt_LETTERS_OF_THINGS
      ?a1 ?l1 ?c1 ?k1 ?a2 ?l2 ?c2 ?k2 ?a3 ?l3 ?c3 ?k3
      ?a4 ?l4 ?c4 ?k4 ?a5 ?l5 ?c5 ?k5 ?a6 ?l6 ?c6 ?k6
      ?a7 ?l7 ?c7 ?k7 ?a8 ?l8 ?c8 ?k8 ?a9 ?i9 ?l9 ?c9
      ?k9 ?a10 ?i10 ?l10 ?c10 ?k10 ?a11 ?l11 ?c11 ?k11 ?a12 ?l12
      ?c12 ?k12 ?a13 ?l13 ?c13 ?k13 ?a14 ?l14 ?c14 ?k14 ?a15 ?l15
      ?c15 ?k15 ?a16 ?l16 ?c16 ?k16 ?a17 ?l17 ?c17 ?k17 ?a18 ?l18
      ?c18 ?k18 ?a19 ?l19 ?c19 ?k19 ?a20 ?l20 ?c20 ?k20 ?a21 ?l21
      ?c21 ?k21 ?a22 ?l22 ?c22 ?k22 ?a23 ?l23 ?c23 ?k23 ?a24 ?l24
      ?c24 ?k24 ?a25 ?l25 ?c25 ?k25 ?a26 ?l26 ?c26 ?k26 ?a27 ?l27
      ?c27 ?k27 ?a28 ?l28 ?c28 ?k28 ?a29 ?l29 ?c29 ?k29 ?a30 ?l30
      ?c30 ?k30 ?a31 ?l31 ?c31 ?k31 ?a32 ?l32 ?c32 ?k32 ?a33 ?l33
      ?c33 ?k33 ?a34 ?l34 ?c34 ?k34 ?a35 ?l35 ?c35 ?k35 ?cd35_ ?hc35
      ?ci35 ?no35 ?em35 ?a36 ?l36 ?c36 ?k36 ?v_LETTERS ?v_LONGEST_NAME ?v_MOST_THINGS ?v_MOST_TIES ?v_MOST_WEIGHT
      ?v_MOST_BATCHES ?v_MOST_IN_BATCH ?z_abs ?z_all ?z_bool ?z_enumerate ?z_int ?z_isinstance ?z_len ?z_list ?z_max ?z_min
      ?z_range ?z_repr ?z_str ?z_tuple
    (case g_Table => k_is); (case pg_Table => k_is); (case hd_Table => k_is); (case po_Table => k_is); (case sa_Table => k_is); (case ca_Table => k_is); (case cm_Table => k_is); (case mk_Table => k_is);
    (case kc_Table => k_is); (case nf_Table_things => k_is); (case nf_Table_ties => k_is); (case cn => k_is); (case ct => k_is); (case g_InvalidTable => k_is); (case g_InvalidNumber => k_is); (case g_Refused => k_is);
    (case x_InvalidTable => exact Ge.xok1 ⟨⟨⟨_, _, _, _, _, _, _, _, _, _, _, _, _, _, _, by k_is, by decide +kernel⟩, by k_is, by k_is, by k_is, by k_is⟩, by k_is, PySem.W.mg_none_of KX G (by k_is), by ks_is, by k_is, by k_is, by rfl⟩ (by k_is) (by k_is) (by k_is) (by k_is) (by k_is) (by rfl) (by rfl) (by k_is) (by k_is) (by rfl) (by rfl) (by rfl) (by rfl) (by rfl) (by rfl) (by rfl) (by rfl) (by rfl) (by decide) (by decide) (by decide) (fun us hl => match us, hl with | [_, _], _ => rfl) (fun _ => rfl) (fun _ => rfl) (fun _ => rfl) (fun _ => rfl) (fun _ => rfl) (fun _ => rfl)); (case x_InvalidNumber => exact Ge.xok1 ⟨⟨⟨_, _, _, _, _, _, _, _, _, _, _, _, _, _, _, by k_is, by decide +kernel⟩, by k_is, by k_is, by k_is, by k_is⟩, by k_is, PySem.W.mg_none_of KX G (by k_is), by ks_is, by k_is, by k_is, by rfl⟩ (by k_is) (by k_is) (by k_is) (by k_is) (by k_is) (by rfl) (by rfl) (by k_is) (by k_is) (by rfl) (by rfl) (by rfl) (by rfl) (by rfl) (by rfl) (by rfl) (by rfl) (by rfl) (by decide) (by decide) (by decide) (fun us hl => match us, hl with | [_, _], _ => rfl) (fun _ => rfl) (fun _ => rfl) (fun _ => rfl) (fun _ => rfl) (fun _ => rfl) (fun _ => rfl)); (case xf_InvalidNumber => exact ⟨by k_is, by k_is, by k_is, by k_is⟩); (case xf_Refused => exact ⟨by k_is, by k_is, by k_is, by k_is⟩); (case nx_InvalidNumber_word => k_is); (case nx_Refused_word => k_is); (case xc_Refused => exact ⟨by k_is, by k_is, by k_is, by k_is, by k_is, by k_is, by k_is, by k_is⟩); (case kit_Refused_InvalidNumber => kit_is);
    (case em_InvalidNumber_InvalidNumber => kts_exm); (case em_InvalidNumber_Refused => kts_exm); (case em_InvalidTable_InvalidNumber => kts_exm); (case em_InvalidTable_Refused => kts_exm); (case ne_InvalidNumber_InvalidTable => decide); (case ne_InvalidNumber_Refused => decide); (case ne_InvalidTable_InvalidNumber => decide); (case ne_InvalidTable_Refused => decide);
    (case ne_Refused_InvalidNumber => decide); (case ne_Refused_InvalidTable => decide); (case gt_LETTERS_OF_THINGS => k_is); (case rt_LETTERS_OF_THINGS => exact Ge.tup_txt (by k_is) (by decide +kernel) (by rfl)); (case a1 => k_is); (case l1 => k_is); (case c1 => k_is); (case k1 => k_is);
    (case a2 => k_is); (case l2 => k_is); (case c2 => k_is); (case k2 => k_is); (case a3 => k_is); (case l3 => k_is); (case c3 => k_is); (case k3 => k_is);
    (case a4 => k_is); (case l4 => k_is); (case c4 => k_is); (case k4 => k_is); (case a5 => k_is); (case l5 => k_is); (case c5 => k_is); (case k5 => k_is);
    (case a6 => k_is); (case l6 => k_is); (case c6 => k_is); (case k6 => k_is); (case a7 => k_is); (case l7 => k_is); (case c7 => k_is); (case k7 => k_is);
    (case a8 => k_is); (case l8 => k_is); (case c8 => k_is); (case k8 => k_is); (case a9 => k_is); (case i9 => k_is); (case l9 => k_is); (case c9 => k_is);
    (case k9 => k_is); (case a10 => k_is); (case i10 => k_is); (case l10 => k_is); (case c10 => k_is); (case k10 => k_is); (case a11 => k_is); (case l11 => k_is);
    (case c11 => k_is); (case k11 => k_is); (case a12 => k_is); (case l12 => k_is); (case c12 => k_is); (case k12 => k_is); (case a13 => k_is); (case l13 => k_is);
    (case c13 => k_is); (case k13 => k_is); (case a14 => k_is); (case l14 => k_is); (case c14 => k_is); (case k14 => k_is); (case a15 => k_is); (case l15 => k_is);
    (case c15 => k_is); (case k15 => k_is); (case a16 => k_is); (case l16 => k_is); (case c16 => k_is); (case k16 => k_is); (case a17 => k_is); (case l17 => k_is);
    (case c17 => k_is); (case k17 => k_is); (case a18 => k_is); (case l18 => k_is); (case c18 => k_is); (case k18 => k_is); (case a19 => k_is); (case l19 => k_is);
    (case c19 => k_is); (case k19 => k_is); (case a20 => k_is); (case l20 => k_is); (case c20 => k_is); (case k20 => k_is); (case a21 => k_is); (case l21 => k_is);
    (case c21 => k_is); (case k21 => k_is); (case a22 => k_is); (case l22 => k_is); (case c22 => k_is); (case k22 => k_is); (case a23 => k_is); (case l23 => k_is);
    (case c23 => k_is); (case k23 => k_is); (case a24 => k_is); (case l24 => k_is); (case c24 => k_is); (case k24 => k_is); (case a25 => k_is); (case l25 => k_is);
    (case c25 => k_is); (case k25 => k_is); (case a26 => k_is); (case l26 => k_is); (case c26 => k_is); (case k26 => k_is); (case a27 => k_is); (case l27 => k_is);
    (case c27 => k_is); (case k27 => k_is); (case a28 => k_is); (case l28 => k_is); (case c28 => k_is); (case k28 => k_is); (case a29 => k_is); (case l29 => k_is);
    (case c29 => k_is); (case k29 => k_is); (case a30 => k_is); (case l30 => k_is); (case c30 => k_is); (case k30 => k_is); (case a31 => k_is); (case l31 => k_is);
    (case c31 => k_is); (case k31 => k_is); (case a32 => k_is); (case l32 => k_is); (case c32 => k_is); (case k32 => k_is); (case a33 => k_is); (case l33 => k_is);
    (case c33 => k_is); (case k33 => k_is); (case a34 => k_is); (case l34 => k_is); (case c34 => k_is); (case k34 => k_is); (case a35 => k_is); (case l35 => k_is);
    (case c35 => k_is); (case k35 => k_is); (case cd35_ => rfl); (case hc35 => exact ⟨_, _, _, _, by k_is, rfl⟩); (case ci35 => kernel_rfl); (case no35 => kernel_rfl); (case em35 => exact hT8 _ (by k_mem)); (case a36 => k_is);
    (case l36 => k_is); (case c36 => k_is); (case k36 => k_is); (case v_LETTERS => k_is); (case v_LONGEST_NAME => k_is); (case v_MOST_THINGS => k_is); (case v_MOST_TIES => k_is); (case v_MOST_WEIGHT => k_is);
    (case v_MOST_BATCHES => k_is); (case v_MOST_IN_BATCH => k_is); (case z_abs => k_is); (case z_all => k_is); (case z_bool => k_is); (case z_enumerate => k_is); (case z_int => k_is); (case z_isinstance => k_is);
    (case z_len => k_is); (case z_list => k_is); (case z_max => k_is); (case z_min => k_is); (case z_range => k_is); (case z_repr => k_is); (case z_str => k_is); (case z_tuple => k_is)
